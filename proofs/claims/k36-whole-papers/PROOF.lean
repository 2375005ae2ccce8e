import PyProof.Rows.All
import Wide.All
import OpenK.AllK
import Wide.FinOn
import HandS.ForMost
import HandS.IsInst
import HandS.Walk
import PySem.Challenge.RW_shardread_k36_whole_papers_by_hand
import KE.KDictWalk
import KE.KDictPairs
import KE.KDictCopyH
import HandS.DictComp
import HandS.SetKeys
import HandS.Conv
import HandS.TupSets
import HandS.Style
import HandS.SortRule
import HandS.Defaults
set_option Elab.async false
set_option linter.all false
set_option maxRecDepth 100000
/-! ShA: deep values, what stands for them in a frozen part of the heap, and judgements free of heaps. -/
namespace Sh
open PySem L2

inductive D where
  | non | bl (b : Bool) | int (i : Int) | str (s : Str) | ty (n : String) | ref (a : Addr)
  | tup (ds : List D) | lst (ds : List D)
  | dK (kvs : List (Key × D)) | dT (kvs : List (List Key × D))
  | ins (C : Addr) (fs : List (Str × D))

mutual
def Rep (G : Hp) : D → V → Prop
  | .non, v => v = .non
  | .bl b, v => v = .bl b
  | .int i, v => v = .int i
  | .str s, v => v = .str s
  | .ty n, v => v = .ty n
  | .ref a, v => v = .ref a
  | .tup ds, v => ∃ a xs, v = .ref a ∧ G a = some (.tup xs) ∧ Reps G ds xs
  | .lst ds, v => ∃ a xs, v = .ref a ∧ G a = some (.lst xs) ∧ Reps G ds xs
  | .dK kvs, v => ∃ a xs, v = .ref a ∧ Rd G a (.dK xs) ∧ RepK G kvs xs
  | .dT kvs, v => ∃ a xs, v = .ref a ∧ Rd G a (.dT xs) ∧ RepT G kvs xs
  | .ins C fs, v => ∃ a dx xs, v = .ref a ∧ G a = some (.ins C dx xs) ∧ RepF G fs xs
def Reps (G : Hp) : List D → List V → Prop
  | [], xs => xs = []
  | d :: ds, xs => ∃ v r, xs = v :: r ∧ Rep G d v ∧ Reps G ds r
def RepK (G : Hp) : List (Key × D) → List (Key × V) → Prop
  | [], xs => xs = []
  | kd :: ds, xs => ∃ v r, xs = (kd.1, v) :: r ∧ Rep G kd.2 v ∧ RepK G ds r
def RepT (G : Hp) : List (List Key × D) → List (List Key × V) → Prop
  | [], xs => xs = []
  | kd :: ds, xs => ∃ v r, xs = (kd.1, v) :: r ∧ Rep G kd.2 v ∧ RepT G ds r
def RepF (G : Hp) : List (Str × D) → List (Str × V) → Prop
  | [], xs => xs = []
  | kd :: ds, xs => ∃ v r, xs = (kd.1, v) :: r ∧ Rep G kd.2 v ∧ RepF G ds r
end

theorem rd_same {G G' : Hp} (e : Same G G') {a : Addr} {u : HO} (h : Rd G a u) : Rd G' a u := by
  rcases h with h | ⟨o, h⟩
  · exact .inl (e _ _ h)
  · exact .inr ⟨o, e _ _ h⟩

mutual
theorem Rep.mono {G G' : Hp} (e : Same G G') : ∀ {d : D} {v : V}, Rep G d v → Rep G' d v
  | .non, _, h => h
  | .bl _, _, h => h
  | .int _, _, h => h
  | .str _, _, h => h
  | .ty _, _, h => h
  | .ref _, _, h => h
  | .tup ds, _, h => by
    obtain ⟨a, xs, h1, h2, h3⟩ := h
    exact ⟨a, xs, h1, e _ _ h2, Reps.mono e h3⟩
  | .lst ds, _, h => by
    obtain ⟨a, xs, h1, h2, h3⟩ := h
    exact ⟨a, xs, h1, e _ _ h2, Reps.mono e h3⟩
  | .dK ds, _, h => by
    obtain ⟨a, xs, h1, h2, h3⟩ := h
    exact ⟨a, xs, h1, rd_same e h2, RepK.mono e h3⟩
  | .dT ds, _, h => by
    obtain ⟨a, xs, h1, h2, h3⟩ := h
    exact ⟨a, xs, h1, rd_same e h2, RepT.mono e h3⟩
  | .ins C fs, _, h => by
    obtain ⟨a, dx, xs, h1, h2, h3⟩ := h
    exact ⟨a, dx, xs, h1, e _ _ h2, RepF.mono e h3⟩
theorem Reps.mono {G G' : Hp} (e : Same G G') : ∀ {ds : List D} {xs : List V}, Reps G ds xs → Reps G' ds xs
  | [], _, h => h
  | d :: ds, _, h => by
    obtain ⟨v, r, h1, h2, h3⟩ := h
    exact ⟨v, r, h1, Rep.mono e h2, Reps.mono e h3⟩
theorem RepK.mono {G G' : Hp} (e : Same G G') : ∀ {ds : List (Key × D)} {xs : List (Key × V)}, RepK G ds xs → RepK G' ds xs
  | [], _, h => h
  | d :: ds, _, h => by
    obtain ⟨v, r, h1, h2, h3⟩ := h
    exact ⟨v, r, h1, Rep.mono e h2, RepK.mono e h3⟩
theorem RepT.mono {G G' : Hp} (e : Same G G') : ∀ {ds : List (List Key × D)} {xs : List (List Key × V)}, RepT G ds xs → RepT G' ds xs
  | [], _, h => h
  | d :: ds, _, h => by
    obtain ⟨v, r, h1, h2, h3⟩ := h
    exact ⟨v, r, h1, Rep.mono e h2, RepT.mono e h3⟩
theorem RepF.mono {G G' : Hp} (e : Same G G') : ∀ {ds : List (Str × D)} {xs : List (Str × V)}, RepF G ds xs → RepF G' ds xs
  | [], _, h => h
  | d :: ds, _, h => by
    obtain ⟨v, r, h1, h2, h3⟩ := h
    exact ⟨v, r, h1, Rep.mono e h2, RepF.mono e h3⟩
end

section
variable {G : Hp}
theorem Reps.length : ∀ {ds : List D} {xs : List V}, Reps G ds xs → ds.length = xs.length
  | [], _, h => by cases h; rfl
  | d :: ds, _, h => by
    obtain ⟨v, r, rfl, _, h3⟩ := h
    simp [Reps.length h3]
theorem Reps.get : ∀ {ds : List D} {xs : List V} {i : Nat} {d : D}, Reps G ds xs → ds[i]? = some d → ∃ v, xs[i]? = some v ∧ Rep G d v
  | [], _, _, _, _, e => by simp at e
  | d :: ds, _, 0, x, h, e => by
    obtain ⟨v, r, rfl, h2, _⟩ := h
    simp at e
    subst e
    exact ⟨v, rfl, h2⟩
  | d :: ds, _, i + 1, x, h, e => by
    obtain ⟨v, r, rfl, _, h3⟩ := h
    simp at e
    obtain ⟨u, h4, h5⟩ := Reps.get h3 e
    exact ⟨u, by simpa using h4, h5⟩
theorem Reps.back : ∀ {ds : List D} {xs : List V} {i : Nat} {v : V}, Reps G ds xs → xs[i]? = some v → ∃ d, ds[i]? = some d ∧ Rep G d v := fun {ds xs i v} h e => by
  have hl := h.length
  have hi : i < ds.length := by
    rw [hl]
    exact (List.getElem?_eq_some_iff.mp e).1
  obtain ⟨u, h1, h2⟩ := h.get (List.getElem?_eq_getElem hi)
  rw [e] at h1
  cases h1
  exact ⟨_, List.getElem?_eq_getElem hi, h2⟩
theorem Reps.append : ∀ {ds es : List D} {xs ys : List V}, Reps G ds xs → Reps G es ys → Reps G (ds ++ es) (xs ++ ys)
  | [], _, _, _, h, k => by cases h; exact k
  | d :: ds, _, _, _, h, k => by
    obtain ⟨v, r, rfl, h2, h3⟩ := h
    exact ⟨v, r ++ _, rfl, h2, Reps.append h3 k⟩
theorem Reps.one {d : D} {v : V} (h : Rep G d v) : Reps G [d] [v] := ⟨v, [], rfl, h, rfl⟩
theorem Reps.snoc {ds : List D} {xs : List V} {d : D} {v : V} (h : Reps G ds xs) (k : Rep G d v) : Reps G (ds ++ [d]) (xs ++ [v]) := h.append (.one k)
theorem Reps.take : ∀ {ds : List D} {xs : List V} (n : Nat), Reps G ds xs → Reps G (ds.take n) (xs.take n)
  | _, _, 0, _ => by simp [Reps]
  | [], _, _ + 1, h => by cases h; simp [Reps]
  | d :: ds, _, n + 1, h => by
    obtain ⟨v, r, rfl, h2, h3⟩ := h
    exact ⟨v, r.take n, rfl, h2, Reps.take n h3⟩
theorem Reps.drop : ∀ {ds : List D} {xs : List V} (n : Nat), Reps G ds xs → Reps G (ds.drop n) (xs.drop n)
  | _, _, 0, h => h
  | [], _, _ + 1, h => by cases h; simp [Reps]
  | d :: ds, _, n + 1, h => by
    obtain ⟨v, r, rfl, h2, h3⟩ := h
    exact Reps.drop n h3
theorem Reps.dropLast {ds : List D} {xs : List V} (h : Reps G ds xs) : Reps G ds.dropLast xs.dropLast := by
  rw [List.dropLast_eq_take, List.dropLast_eq_take, h.length]
  exact h.take _
theorem Reps.eraseIdx : ∀ {ds : List D} {xs : List V} (n : Nat), Reps G ds xs → Reps G (ds.eraseIdx n) (xs.eraseIdx n)
  | [], _, _, h => by cases h; simp [Reps]
  | d :: ds, _, 0, h => by
    obtain ⟨v, r, rfl, h2, h3⟩ := h
    exact h3
  | d :: ds, _, n + 1, h => by
    obtain ⟨v, r, rfl, h2, h3⟩ := h
    exact ⟨v, r.eraseIdx n, rfl, h2, Reps.eraseIdx n h3⟩
theorem Reps.set : ∀ {ds : List D} {xs : List V} {d : D} {v : V} (n : Nat), Reps G ds xs → Rep G d v → Reps G (ds.set n d) (xs.set n v)
  | [], _, _, _, _, h, _ => by cases h; simp [Reps]
  | _ :: ds, _, d, v, 0, h, k => by
    obtain ⟨u, r, rfl, h2, h3⟩ := h
    exact ⟨v, r, rfl, k, h3⟩
  | _ :: ds, _, d, v, n + 1, h, k => by
    obtain ⟨u, r, rfl, h2, h3⟩ := h
    exact ⟨u, r.set n v, rfl, h2, Reps.set n h3 k⟩
theorem Reps.mem {ds : List D} {xs : List V} (h : Reps G ds xs) {d : D} (hd : d ∈ ds) : ∃ v ∈ xs, Rep G d v := by
  obtain ⟨i, hi, e⟩ := List.getElem_of_mem hd
  obtain ⟨v, h1, h2⟩ := h.get (by rw [List.getElem?_eq_getElem hi, e])
  exact ⟨v, List.mem_of_getElem? h1, h2⟩
theorem Reps.ints : ∀ {ns : List Int} {xs : List V}, Reps G (ns.map D.int) xs → xs = ns.map V.int
  | [], _, h => h
  | n :: ns, _, h => by
    obtain ⟨v, r, rfl, h2, h3⟩ := h
    rw [Reps.ints h3, show v = V.int n from h2]
    rfl
theorem Reps.strs : ∀ {ns : List Str} {xs : List V}, Reps G (ns.map D.str) xs → xs = ns.map V.str
  | [], _, h => h
  | n :: ns, _, h => by
    obtain ⟨v, r, rfl, h2, h3⟩ := h
    rw [Reps.strs h3, show v = V.str n from h2]
    rfl
theorem Reps.bls : ∀ {ns : List Bool} {xs : List V}, Reps G (ns.map D.bl) xs → xs = ns.map V.bl
  | [], _, h => h
  | n :: ns, _, h => by
    obtain ⟨v, r, rfl, h2, h3⟩ := h
    rw [Reps.bls h3, show v = V.bl n from h2]
    rfl
theorem Reps.ofStrs : ∀ (ns : List Str), Reps G (ns.map D.str) (ns.map V.str)
  | [] => rfl
  | n :: ns => ⟨.str n, ns.map V.str, rfl, rfl, Reps.ofStrs ns⟩
theorem Reps.ofInts : ∀ (ns : List Int), Reps G (ns.map D.int) (ns.map V.int)
  | [] => rfl
  | n :: ns => ⟨.int n, ns.map V.int, rfl, rfl, Reps.ofInts ns⟩
/-- the value of a key -/
def valD {κ : Type} [DecidableEq κ] (kvs : List (κ × D)) (k : κ) : Option D := (kvs.find? fun kv => decide (kv.1 = k)).map (·.2)
def putD {κ : Type} [DecidableEq κ] (kvs : List (κ × D)) (k : κ) (d : D) : List (κ × D) :=
  if kvs.any (fun kv => decide (kv.1 = k)) then kvs.map (fun kv => if kv.1 = k then (kv.1, d) else kv) else kvs ++ [(k, d)]
end
end Sh
set_option Elab.async false
set_option linter.all false
set_option maxRecDepth 100000
/-! ShB: how heap and frozen part grow; the judgements; rules for names, operators, indices, displays, dicts, tests, calls. -/
namespace Sh
open PySem L2

section
variable {G : Hp} {κ : Type} [DecidableEq κ]
/-- a keyed list of D's beside one of V's, whatever the keys -/
inductive RepD (G : Hp) : List (κ × D) → List (κ × V) → Prop
  | nil : RepD G [] []
  | cons {k d v ds vs} : Rep G d v → RepD G ds vs → RepD G ((k, d) :: ds) ((k, v) :: vs)
theorem repK_iff : ∀ {ds : List (Key × D)} {xs : List (Key × V)}, RepK G ds xs ↔ RepD G ds xs
  | [], xs => ⟨fun h => by cases h; exact .nil, fun h => by cases h; rfl⟩
  | (k, d) :: ds, xs => ⟨fun h => by
      obtain ⟨v, r, rfl, h2, h3⟩ := h
      exact .cons h2 (repK_iff.mp h3), fun h => by
      cases h with
      | cons h2 h3 => exact ⟨_, _, rfl, h2, repK_iff.mpr h3⟩⟩
theorem repT_iff : ∀ {ds : List (List Key × D)} {xs : List (List Key × V)}, RepT G ds xs ↔ RepD G ds xs
  | [], xs => ⟨fun h => by cases h; exact .nil, fun h => by cases h; rfl⟩
  | (k, d) :: ds, xs => ⟨fun h => by
      obtain ⟨v, r, rfl, h2, h3⟩ := h
      exact .cons h2 (repT_iff.mp h3), fun h => by
      cases h with
      | cons h2 h3 => exact ⟨_, _, rfl, h2, repT_iff.mpr h3⟩⟩
theorem repF_iff : ∀ {ds : List (Str × D)} {xs : List (Str × V)}, RepF G ds xs ↔ RepD G ds xs
  | [], xs => ⟨fun h => by cases h; exact .nil, fun h => by cases h; rfl⟩
  | (k, d) :: ds, xs => ⟨fun h => by
      obtain ⟨v, r, rfl, h2, h3⟩ := h
      exact .cons h2 (repF_iff.mp h3), fun h => by
      cases h with
      | cons h2 h3 => exact ⟨_, _, rfl, h2, repF_iff.mpr h3⟩⟩
theorem RepD.len {ds : List (κ × D)} {xs : List (κ × V)} (h : RepD G ds xs) : ds.length = xs.length := by
  induction h with
  | nil => rfl
  | cons _ _ ih => simp [ih]
theorem RepD.keys {ds : List (κ × D)} {xs : List (κ × V)} (h : RepD G ds xs) : ds.map (·.1) = xs.map (·.1) := by
  induction h with
  | nil => rfl
  | cons _ _ ih => simp [ih]
theorem RepD.mono {G' : Hp} (e : Same G G') {ds : List (κ × D)} {xs : List (κ × V)} (h : RepD G ds xs) : RepD G' ds xs := by
  induction h with
  | nil => exact .nil
  | cons r _ ih => exact .cons (r.mono e) ih
theorem RepD.val {ds : List (κ × D)} {xs : List (κ × V)} (h : RepD G ds xs) (k : κ) : (valD ds k = none ∧ valV xs k = none) ∨ ∃ d v, valD ds k = some d ∧ valV xs k = some v ∧ Rep G d v := by
  induction h with
  | nil => exact .inl ⟨rfl, rfl⟩
  | @cons k' d v ds vs r _ ih =>
    by_cases e : k' = k
    · exact .inr ⟨d, v, by simp [valD, e], by simp [valV, e], r⟩
    · have e1 : valD ((k', d) :: ds) k = valD ds k := by simp [valD, List.find?_cons, e]
      have e2 : valV ((k', v) :: vs) k = valV vs k := by simp [valV, List.find?_cons, e]
      rw [e1, e2]
      exact ih
theorem RepD.isSome {ds : List (κ × D)} {xs : List (κ × V)} (h : RepD G ds xs) (k : κ) : (valV xs k).isSome = (valD ds k).isSome := by
  rcases h.val k with ⟨a, b⟩ | ⟨d, v, a, b, _⟩ <;> rw [a, b] <;> rfl
theorem RepD.any {ds : List (κ × D)} {xs : List (κ × V)} (h : RepD G ds xs) (k : κ) : (ds.any fun kv => decide (kv.1 = k)) = xs.any fun kv => decide (kv.1 = k) := by
  induction h with
  | nil => rfl
  | cons r _ ih => simp [ih]
theorem RepD.app {ds es : List (κ × D)} {xs ys : List (κ × V)} (h : RepD G ds xs) (h' : RepD G es ys) : RepD G (ds ++ es) (xs ++ ys) := by
  induction h with
  | nil => exact h'
  | cons r _ ih => exact .cons r ih
theorem RepD.put {ds : List (κ × D)} {xs : List (κ × V)} (h : RepD G ds xs) (k : κ) {d : D} {v : V} (r : Rep G d v) : RepD G (putD ds k d) (putK xs k v) := by
  unfold putD putK
  rw [h.any k]
  split
  · rename_i hx
    clear hx
    induction h with
    | nil => exact .nil
    | @cons k' d' v' ds vs r' _ ih =>
      by_cases e : k' = k
      · simp only [List.map_cons, e, if_true]
        exact .cons r ih
      · simp only [List.map_cons, e, if_false]
        exact .cons r' ih
  · exact h.app (.cons r .nil)
theorem RepD.get {ds : List (κ × D)} {xs : List (κ × V)} (h : RepD G ds xs) : ∀ {i : Nat} {k : κ} {v : V}, xs[i]? = some (k, v) → ∃ d, ds[i]? = some (k, d) ∧ Rep G d v := by
  induction h with
  | nil => intro i k v e; simp at e
  | @cons k' d' v' ds vs r' _ ih =>
    intro i k v e
    cases i with
    | zero =>
      simp at e
      obtain ⟨rfl, rfl⟩ := e
      exact ⟨d', rfl, r'⟩
    | succ i =>
      simp at e
      obtain ⟨d, e1, e2⟩ := ih e
      exact ⟨d, by simpa using e1, e2⟩
end

/-! ### growth -/
structure Gr (H G H' G' : Hp) : Prop where
  ex : Same H H'
  gx : Same G G'
  sub : Same G' H'
  old : ∀ a o, H a = some o → (∀ xs, o ≠ .tup xs) → G' a = G a
  lk : ∀ a o u, G' a = some (.frz o u) → G a = some (.frz o u)
theorem Gr.refl {H G : Hp} (s : Same G H) : Gr H G H G := ⟨Same.refl H, Same.refl G, s, fun _ _ _ _ => rfl, fun _ _ _ h => h⟩
theorem Gr.trans {H G H1 G1 H2 G2 : Hp} (a : Gr H G H1 G1) (b : Gr H1 G1 H2 G2) : Gr H G H2 G2 :=
  ⟨a.ex.trans b.ex, a.gx.trans b.gx, b.sub, fun x o e n => (b.old x o (a.ex x o e) n).trans (a.old x o e n), fun x o u h => a.lk x o u (b.lk x o u h)⟩
theorem same_upd {H : Hp} {p : Addr} {o : HO} (h : H p = none) : Same H (upd H p o) := fun b x e => by
  rw [upd_ne (ne_of_none e h)]
  exact e
theorem same_upd2 {G H : Hp} {p : Addr} {o : HO} (s : Same G H) : Same (upd G p o) (upd H p o) := fun b x e => by
  by_cases hb : b = p
  · subst hb; rw [upd_same] at e ⊢; exact e
  · rw [upd_ne hb] at e ⊢; exact s b x e
def isFrz : HO → Bool
  | .frz _ _ => true
  | _ => false
theorem upd_lk {G : Hp} {p : Addr} {o : HO} (h : isFrz o = false) : ∀ a ob u, upd G p o a = some (.frz ob u) → G a = some (.frz ob u) := fun a ob u e => by
  by_cases hb : a = p
  · subst hb; rw [upd_same] at e; cases e; cases h
  · rw [upd_ne hb] at e; exact e
/-- a new object, frozen at once -/
theorem Gr.new {H G : Hp} {p : Addr} {o : HO} (s : Same G H) (h : H p = none) (hf : isFrz o = false := by rfl) : Gr H G (upd H p o) (upd G p o) :=
  ⟨same_upd h, same_upd (s.free h), same_upd2 s, fun a u e _ => upd_ne (ne_of_none e h), upd_lk hf⟩
/-- a new object, not frozen -/
theorem Gr.own {H G : Hp} {p : Addr} {o : HO} (s : Same G H) (h : H p = none) : Gr H G (upd H p o) G :=
  ⟨same_upd h, Same.refl G, s.trans (same_upd h), fun _ _ _ _ => rfl, fun _ _ _ h => h⟩
/-- .. and frozen later -/
theorem Gr.freeze {H G H' G' : Hp} {p : Addr} {o : HO} (g : Gr H G H' G') (hp : H p = none) (hp' : H' p = some o) (gp : G' p = none) (hf : isFrz o = false := by rfl) : Gr H G H' (upd G' p o) :=
  ⟨g.ex, g.gx.trans (same_upd gp), fun b x e => by
      by_cases hb : b = p
      · subst hb; rw [upd_same] at e; cases e; exact hp'
      · rw [upd_ne hb] at e; exact g.sub b x e, fun a x e n => by rw [upd_ne (ne_of_none e hp)]; exact g.old a x e n, fun a x u e => g.lk a x u (upd_lk hf a x u e)⟩
/-- a tuple that stands already -/
theorem Gr.tup {H G : Hp} {p : Addr} {xs : List V} (s : Same G H) (h : H p = some (.tup xs)) : Gr H G H (upd G p (.tup xs)) := by
  refine ⟨Same.refl H, fun b o e => ?_, fun b o e => ?_, fun a o e n => ?_, upd_lk rfl⟩
  · by_cases hb : b = p
    · subst hb
      have := s b o e
      rw [h] at this; cases this
      exact upd_same
    · rw [upd_ne hb]; exact e
  · by_cases hb : b = p
    · subst hb; rw [upd_same] at e; cases e; exact h
    · rw [upd_ne hb] at e; exact s b o e
  · refine upd_ne fun z => ?_
    subst z
    rw [h] at e; cases e
    exact n xs rfl
/-- what an evaluation may have changed, seen from a heap below -/
theorem Gr.of {H G H' : Hp} (s : Same G H) (e : Same H H') : Gr H G H' G := ⟨e, Same.refl G, s.trans e, fun _ _ _ _ => rfl, fun _ _ _ h => h⟩
/-- what an object that may change holds; all below it is frozen -/
inductive M where
  | lst (ds : List D) | dK (kvs : List (Key × D)) | dT (kvs : List (List Key × D)) | ins (C : Addr) (fs : List (Str × D))
def M.st (G H : Hp) (p : Addr) : M → Prop
  | .lst ds => ∃ xs, H p = some (.lst xs) ∧ Reps G ds xs
  | .dK kvs => ∃ xs, H p = some (.dK xs) ∧ RepD G kvs xs
  | .dT kvs => ∃ xs, H p = some (.dT xs) ∧ RepD G kvs xs
  | .ins C fs => ∃ dx xs, H p = some (.ins C dx xs) ∧ RepD G fs xs
structure Root (G H : Hp) (p : Addr) (m : M) : Prop where
  gp : G p = none
  at' : m.st G H p
theorem M.st_gr {H G H' G' : Hp} {p : Addr} {m : M} (r : m.st G H p) (g : Gr H G H' G') : m.st G' H' p := by
  cases m with
  | lst ds => obtain ⟨xs, h1, h2⟩ := r; exact ⟨xs, g.ex _ _ h1, h2.mono g.gx⟩
  | dK ds => obtain ⟨xs, h1, h2⟩ := r; exact ⟨xs, g.ex _ _ h1, h2.mono g.gx⟩
  | dT ds => obtain ⟨xs, h1, h2⟩ := r; exact ⟨xs, g.ex _ _ h1, h2.mono g.gx⟩
  | ins C ds => obtain ⟨dx, xs, h1, h2⟩ := r; exact ⟨dx, xs, g.ex _ _ h1, h2.mono g.gx⟩
theorem M.st_ob {H G : Hp} {p : Addr} {m : M} (r : m.st G H p) : ∃ o, H p = some o ∧ (∀ xs, o ≠ .tup xs) ∧ isFrz o = false := by
  cases m with
  | lst ds => obtain ⟨xs, h1, h2⟩ := r; exact ⟨_, h1, (fun _ z => nomatch z), rfl⟩
  | dK ds => obtain ⟨xs, h1, h2⟩ := r; exact ⟨_, h1, (fun _ z => nomatch z), rfl⟩
  | dT ds => obtain ⟨xs, h1, h2⟩ := r; exact ⟨_, h1, (fun _ z => nomatch z), rfl⟩
  | ins C ds => obtain ⟨dx, xs, h1, h2⟩ := r; exact ⟨_, h1, (fun _ z => nomatch z), rfl⟩
theorem Root.gr {H G H' G' : Hp} {p : Addr} {m : M} (r : Root G H p m) (g : Gr H G H' G') : Root G' H' p m := by
  obtain ⟨o, h1, h2, _⟩ := M.st_ob r.at'
  exact ⟨(g.old p o h1 h2).trans r.gp, M.st_gr r.at' g⟩
/-- fl: nothing is locked in the frozen part; rt: the objects that may change -/
structure Bx where
  fl : Bool
  rt : List (Addr × M)
structure Lk (b : Bx) (G H : Hp) : Prop where
  fl : b.fl = true → ∀ a o u, G a ≠ some (.frz o u)
  rt : ∀ x ∈ b.rt, Root G H x.1 x.2
theorem Lk.gr {b : Bx} {H G H' G' : Hp} (l : Lk b G H) (g : Gr H G H' G') : Lk b G' H' := ⟨fun hb a o u e => l.fl hb a o u (g.lk a o u e), fun x hx => (l.rt x hx).gr g⟩
theorem Lk.less {b b' : Bx} {G H : Hp} (l : Lk b G H) (h1 : b'.fl = true → b.fl = true) (h2 : ∀ x ∈ b'.rt, x ∈ b.rt) : Lk b' G H := ⟨fun h => l.fl (h1 h), fun x hx => l.rt x (h2 x hx)⟩

/-! ### environments -/
abbrev Ro := List (Option D)
structure Env (G : Hp) (σ : St) (ρ : Ro) : Prop where
  len : ρ.length = σ.length
  at' : ∀ (i : Nat) (d : D), ρ[i]? = some (some d) → ∃ v, σ[i]? = some (some v) ∧ Rep G d v
theorem Env.mono {G G' : Hp} {σ : St} {ρ : Ro} (E : Env G σ ρ) (e : Same G G') : Env G' σ ρ :=
  ⟨E.len, fun i d h => let ⟨v, h1, h2⟩ := E.at' i d h; ⟨v, h1, h2.mono e⟩⟩
theorem Env.set {G : Hp} {σ : St} {ρ : Ro} (E : Env G σ ρ) (i : Nat) {d : D} {v : V} (r : Rep G d v) : Env G (σ.set i (some v)) (ρ.set i (some d)) := by
  refine ⟨by simp [E.len], fun j d' h => ?_⟩
  by_cases hj : i = j
  · subst hj
    have hi : i < ρ.length := by
      have := (List.getElem?_eq_some_iff.mp h).1
      simpa using this
    rw [List.getElem?_set_self hi] at h
    cases h
    exact ⟨v, List.getElem?_set_self (by rw [← E.len]; exact hi), r⟩
  · rw [List.getElem?_set_ne hj] at h
    rw [List.getElem?_set_ne hj]
    exact E.at' j d' h
/-- a slot whose value is not told -/
theorem Env.put {G : Hp} {σ : St} {ρ : Ro} (E : Env G σ ρ) (i : Nat) (x : Option V) : Env G (σ.set i x) (ρ.set i none) := by
  refine ⟨by simp [E.len], fun j d' h => ?_⟩
  by_cases hj : i = j
  · subst hj
    have hi : i < ρ.length := by
      have := (List.getElem?_eq_some_iff.mp h).1
      simpa using this
    rw [List.getElem?_set_self hi] at h
    cases h
  · rw [List.getElem?_set_ne hj] at h
    rw [List.getElem?_set_ne hj]
    exact E.at' j d' h
def wipeD (ρ : Ro) : List Nat → Ro
  | [] => ρ
  | v :: vs => (wipeD ρ vs).set v none
theorem Env.wipe {G : Hp} {σ : St} {ρ : Ro} (E : Env G σ ρ) : ∀ vs : List Nat, Env G (wipe σ vs) (wipeD ρ vs)
  | [] => E
  | v :: vs => (Env.wipe E vs).put v none
/-- less is known -/
theorem Env.less {G : Hp} {σ : St} {ρ ρ' : Ro} (E : Env G σ ρ) (hl : ρ'.length = ρ.length) (h : ∀ (i : Nat) (d : D), ρ'[i]? = some (some d) → ρ[i]? = some (some d)) : Env G σ ρ' :=
  ⟨hl.trans E.len, fun i d e => E.at' i d (h i d e)⟩
theorem Env.start {G : Hp} {ds : List D} {vs : List V} {N : List Str} (h : Reps G ds vs) : Env G (start N vs) (ds.map some ++ List.replicate (N.length - ds.length) none) := by
  unfold L2.start
  refine ⟨by simp [h.length], fun i d e => ?_⟩
  rcases Nat.lt_or_ge i ds.length with hi | hi
  · rw [List.getElem?_append_left (by simpa using hi)] at e
    rw [List.getElem?_map] at e
    cases hq : ds[i]? with
    | none => rw [hq] at e; cases e
    | some q =>
      rw [hq] at e
      cases e
      obtain ⟨v, h1, h2⟩ := h.get hq
      refine ⟨v, ?_, h2⟩
      rw [List.getElem?_append_left (by rw [List.length_map, ← h.length]; exact hi), List.getElem?_map, h1]
      rfl
  · rw [List.getElem?_append_right (by simpa using hi)] at e
    rw [List.getElem?_replicate] at e
    split at e
    · cases e
    · cases e

/-! ### judgements (b: nothing is locked) -/
/-- e gives (what stands for) d, in whatever state bears ρ -/
def Ev (b : Bx) (te : TE) (ρ : Ro) (d : D) : Prop := ∀ σ G H, Lk b G H → Env G σ ρ → Same G H → ∀ Q : VK, (∀ v H' G', Gr H G H' G' → Rep G' d v → Q v H') → te σ H Q
/-- e gives a new list, not frozen yet -/
def EvN (b : Bx) (te : TE) (ρ : Ro) (ds : List D) : Prop := ∀ σ G H, Lk b G H → Env G σ ρ → Same G H → ∀ Q : VK, (∀ p xs H' G', Gr H G H' G' → H p = none → H' p = some (.lst xs) → G' p = none → Reps G' ds xs → Q (.ref p) H') → te σ H Q
def EvT (b : Bx) (tt : TT) (ρ : Ro) (c : Bool) : Prop := ∀ σ G H, Lk b G H → Env G σ ρ → Same G H → ∀ Q : Bool → Hp → Prop, (∀ H' G', Gr H G H' G' → Q c H') → tt σ H Q
def EvA (b : Bx) (ta : TA) (ρ : Ro) (ds : List D) : Prop := ∀ σ G H, Lk b G H → Env G σ ρ → Same G H → ∀ Q : List V → Hp → Prop, (∀ vs H' G', Gr H G H' G' → Reps G' ds vs → Q vs H') → ta σ H Q
def EvO (b : Bx) (to : TO) (ρ : Ro) (o : Option Int) : Prop := ∀ σ G H, Lk b G H → Env G σ ρ → Same G H → ∀ Q : Option Int → Hp → Prop, (∀ H' G', Gr H G H' G' → Q o H') → to σ H Q
/-- an operation on values that stand -/
def RD (b : Bx) (r : R2) (x y z : D) : Prop := ∀ G H u v, Lk b G H → Same G H → Rep G x u → Rep G y v → ∀ Q : VK, (∀ w H' G', Gr H G H' G' → Rep G' z w → Q w H') → r u v H Q
def RN (b : Bx) (r : R2) (x y : D) (zs : List D) : Prop := ∀ G H u v, Lk b G H → Same G H → Rep G x u → Rep G y v → ∀ Q : VK, (∀ p xs H' G', Gr H G H' G' → H p = none → H' p = some (.lst xs) → G' p = none → Reps G' zs xs → Q (.ref p) H') → r u v H Q
def RC (b : Bx) (r : List V → Hp → VK → Prop) (xs : List D) (z : D) : Prop := ∀ G H us, Lk b G H → Same G H → Reps G xs us → ∀ Q : VK, (∀ w H' G', Gr H G H' G' → Rep G' z w → Q w H') → r us H Q
def RCN (b : Bx) (r : List V → Hp → VK → Prop) (xs : List D) (zs : List D) : Prop := ∀ G H us, Lk b G H → Same G H → Reps G xs us → ∀ Q : VK, (∀ p xs H' G', Gr H G H' G' → H p = none → H' p = some (.lst xs) → G' p = none → Reps G' zs xs → Q (.ref p) H') → r us H Q

section
variable {b : Bx} {ρ : Ro} {ta tb te tx : TE} {t u : TT} {x y z d : D} {ds es zs : List D} {r : R2} {K : PySem.W.Frag}
theorem EvN.ev (h : EvN b te ρ ds) : Ev b te ρ (.lst ds) := fun σ G H l E s Q q => h σ G H l E s Q fun p xs H' G' g hp hp' gp r =>
  q (.ref p) H' (upd G' p (.lst xs)) (g.freeze hp hp' gp) ⟨p, xs, rfl, upd_same, r.mono (same_upd gp)⟩
theorem Ev.is {d' : D} (h : Ev b te ρ d) (e : d = d') : Ev b te ρ d' := e ▸ h
theorem EvN.is {es : List D} (h : EvN b te ρ ds) (e : ds = es) : EvN b te ρ es := e ▸ h
theorem EvT.is {c c' : Bool} (h : EvT b t ρ c) (e : c = c') : EvT b t ρ c' := e ▸ h
theorem ev_var {i : Nat} (h : ρ[i]? = some (some d)) : Ev b (tVar i) ρ d := fun σ G H l E s Q q => by
  obtain ⟨v, h1, h2⟩ := E.at' i d h
  exact ⟨v, h1, q v H G (.refl s) h2⟩
theorem ev_int {n : Int} : Ev b (tC (.int n)) ρ (.int n) := fun σ G H l E s Q q => q _ H G (.refl s) rfl
theorem ev_bl {n : Bool} : Ev b (tC (.bl n)) ρ (.bl n) := fun σ G H l E s Q q => q _ H G (.refl s) rfl
theorem ev_str {n : Str} : Ev b (tC (.str n)) ρ (.str n) := fun σ G H l E s Q q => q _ H G (.refl s) rfl
theorem ev_non : Ev b (tC .non) ρ .non := fun σ G H l E s Q q => q _ H G (.refl s) rfl
theorem ev_ty {n : String} : Ev b (tC (.ty n)) ρ (.ty n) := fun σ G H l E s Q q => q _ H G (.refl s) rfl
theorem ev_op (ha : Ev b ta ρ x) (hb : Ev b tb ρ y) (hr : RD b r x y z) : Ev b (tOp r ta tb) ρ z := fun σ G H l E s Q q =>
  ha σ G H l E s _ fun v H1 G1 g1 r1 => hb σ G1 H1 (l.gr g1) (E.mono g1.gx) g1.sub _ fun u H2 G2 g2 r2 =>
    hr G2 H2 v u ((l.gr g1).gr g2) g2.sub (r1.mono g2.gx) r2 Q fun w H3 G3 g3 r3 => q w H3 G3 ((g1.trans g2).trans g3) r3
theorem evn_op (ha : Ev b ta ρ x) (hb : Ev b tb ρ y) (hr : RN b r x y zs) : EvN b (tOp r ta tb) ρ zs := fun σ G H l E s Q q =>
  ha σ G H l E s _ fun v H1 G1 g1 r1 => hb σ G1 H1 (l.gr g1) (E.mono g1.gx) g1.sub _ fun u H2 G2 g2 r2 =>
    hr G2 H2 v u ((l.gr g1).gr g2) g2.sub (r1.mono g2.gx) r2 Q fun p xs H3 G3 g3 hp hp' gp r3 => q p xs H3 G3 ((g1.trans g2).trans g3) ((g1.trans g2).ex.free hp) hp' gp r3
theorem ev_un {n m : Int} {g : Int → V} (ha : Ev b ta ρ (.int n)) (hg : g n = .int m) : Ev b (tUn (rU g) ta) ρ (.int m) := fun σ G H l E s Q q =>
  ha σ G H l E s _ fun v H1 G1 g1 r1 => ⟨n, r1, by rw [hg]; exact q _ H1 G1 g1 rfl⟩
/-! operations -/
theorem rd_I0 {g : Int → Int → V} {i j k : Int} (e : g i j = .int k) : RD b (rI0 g) (.int i) (.int j) (.int k) := fun G H u v l s r1 r2 Q q => ⟨i, j, r1, r2, by rw [e]; exact q _ H G (.refl s) rfl⟩
theorem rd_I0b {g : Int → Int → V} {i j : Int} {k : Bool} (e : g i j = .bl k) : RD b (rI0 g) (.int i) (.int j) (.bl k) := fun G H u v l s r1 r2 Q q => ⟨i, j, r1, r2, by rw [e]; exact q _ H G (.refl s) rfl⟩
theorem rd_I {C : Int → Int → Prop} {g : Int → Int → V} {i j k : Int} (e : g i j = .int k) (hc : C i j) : RD b (rI C g) (.int i) (.int j) (.int k) := fun G H u v l s r1 r2 Q q => ⟨i, j, r1, r2, hc, by rw [e]; exact q _ H G (.refl s) rfl⟩
theorem rd_addS {i j : Str} (h : i.length + j.length ≤ sizeLine) : RD b (fun x y H Q => ∃ i j, x = .str i ∧ y = .str j ∧ i.length + j.length ≤ sizeLine ∧ Q (.str (i ++ j)) H) (.str i) (.str j) (.str (i ++ j)) :=
  fun G H u v l s r1 r2 Q q => ⟨i, j, r1, r2, h, q _ H G (.refl s) rfl⟩
theorem rd_eqI {i j : Int} : RD b rEq (.int i) (.int j) (.bl (decide (i = j))) := fun G H u v l s r1 r2 Q q => by
  cases r1; cases r2
  exact ⟨rfl, by
    have : decide ((V.int i) = V.int j) = decide (i = j) := by by_cases e : i = j <;> simp [e]
    rw [this]
    exact q _ H G (.refl s) rfl⟩
theorem rd_neI {i j : Int} : RD b rNe (.int i) (.int j) (.bl (!decide (i = j))) := fun G H u v l s r1 r2 Q q => by
  cases r1; cases r2
  exact ⟨rfl, by
    have : decide ((V.int i) = V.int j) = decide (i = j) := by by_cases e : i = j <;> simp [e]
    rw [this]
    exact q _ H G (.refl s) rfl⟩
theorem rd_eqS {i j : Str} : RD b rEq (.str i) (.str j) (.bl (decide (i = j))) := fun G H u v l s r1 r2 Q q => by
  cases r1; cases r2
  exact ⟨rfl, by
    have : decide ((V.str i) = V.str j) = decide (i = j) := by by_cases e : i = j <;> simp [e]
    rw [this]
    exact q _ H G (.refl s) rfl⟩
theorem rd_neS {i j : Str} : RD b rNe (.str i) (.str j) (.bl (!decide (i = j))) := fun G H u v l s r1 r2 Q q => by
  cases r1; cases r2
  exact ⟨rfl, by
    have : decide ((V.str i) = V.str j) = decide (i = j) := by by_cases e : i = j <;> simp [e]
    rw [this]
    exact q _ H G (.refl s) rfl⟩
theorem rd_neB {i j : Bool} : RD b rNe (.bl i) (.bl j) (.bl (!decide (i = j))) := fun G H u v l s r1 r2 Q q => by
  cases r1; cases r2
  exact ⟨rfl, by
    have : decide ((V.bl i) = V.bl j) = decide (i = j) := by by_cases e : i = j <;> simp [e]
    rw [this]
    exact q _ H G (.refl s) rfl⟩
end
end Sh
set_option Elab.async false
set_option linter.all false
set_option maxRecDepth 100000
/-! ShC: arguments, displays, indices, dicts, tests, slices, built-in calls, fields, calls of defs. -/
namespace Sh
open PySem L2

/-! ### pairs of a text and a number -/
abbrev Pr := Str × Nat
def pD (p : Pr) : D := .tup [.str p.1, .int p.2]
def pK (p : Pr) : List Key := [Sum.inr p.1, Sum.inl (p.2 : Int)]
theorem pK_inj {p q : Pr} (h : pK p = pK q) : p = q := by
  obtain ⟨a, i⟩ := p
  obtain ⟨b, j⟩ := q
  unfold pK at h
  injection h with h1 h2
  injection h2 with h2 _
  injection h1 with h1
  injection h2 with h2
  have : i = j := by omega
  subst h1 this
  rfl
def kD : Key → D
  | .inl i => .int i
  | .inr s => .str s
theorem rep_kD {G : Hp} {k : Key} {v : V} (h : Rep G (kD k) v) : v = kV k := by
  cases k <;> exact h
theorem rep_kV (G : Hp) (k : Key) : Rep G (kD k) (kV k) := by cases k <;> rfl
theorem rep_pD {G : Hp} {p : Pr} {v : V} (h : Rep G (pD p) v) : ∃ a, v = .ref a ∧ G a = some (.tup ((pK p).map kV)) := by
  obtain ⟨a, xs, h1, h2, v1, r1, e1, q1, v2, r2, e2, q2, e3⟩ := h
  refine ⟨a, h1, ?_⟩
  rw [h2, e1, e2, e3, show v1 = V.str p.1 from q1, show v2 = V.int p.2 from q2]
  rfl
theorem rep_pD_of {G : Hp} {p : Pr} {a : Addr} (h : G a = some (.tup ((pK p).map kV))) : Rep G (pD p) (.ref a) := ⟨a, _, rfl, h, _, _, rfl, rfl, _, _, rfl, rfl, rfl⟩

section
variable {b : Bx} {ρ : Ro} {ta tb tc te tx : TE} {t u : TT} {x y z d : D} {ds es zs : List D} {r : R2} {K : PySem.W.Frag}
/-! ### arguments, displays -/
theorem ea_nil : EvA b tNil ρ [] := fun σ G H l E s Q q => q [] H G (.refl s) rfl
theorem ea_cons {tr : TA} (h : Ev b ta ρ x) (hr : EvA b tr ρ ds) : EvA b (tCons ta tr) ρ (x :: ds) := fun σ G H l E s Q q =>
  h σ G H l E s _ fun v H1 G1 g1 r1 => hr σ G1 H1 (l.gr g1) (E.mono g1.gx) g1.sub _ fun vs H2 G2 g2 r2 => q (v :: vs) H2 G2 (g1.trans g2) ⟨v, vs, rfl, r1.mono g2.gx, r2⟩
theorem ev_tup {ta : TA} (h : EvA b ta ρ ds) (hl : ds.length ≤ 1000) : Ev b (tTup ta) ρ (.tup ds) := fun σ G H l E s Q q =>
  h σ G H l E s _ fun vs H1 G1 g1 r1 => ⟨by rw [← r1.length]; exact Nat.le_of_lt (small1000 hl), fun p hp =>
    q _ _ (upd G1 p (.tup vs)) (g1.trans (.new g1.sub hp)) ⟨p, vs, rfl, upd_same, r1.mono (same_upd (g1.sub.free hp))⟩⟩
theorem evn_lst {ta : TA} (h : EvA b ta ρ ds) (hl : ds.length ≤ 1000) : EvN b (tLst ta) ρ ds := fun σ G H l E s Q q =>
  h σ G H l E s _ fun vs H1 G1 g1 r1 => ⟨by rw [← r1.length]; exact Nat.le_of_lt (small1000 hl), fun p hp =>
    q p vs _ G1 (g1.trans (.own g1.sub hp)) (g1.ex.free hp) upd_same (g1.sub.free hp) r1⟩
/-! ### indices -/
theorem Reps.atI {G : Hp} {xs : List V} {i : Int} (h : Reps G ds xs) (e : atI ds i = some d) : ∃ v, L2.atI xs i = some v ∧ Rep G d v := by
  unfold L2.atI at e ⊢
  rw [← h.length]
  cases hq : ixN ds.length i with
  | none => rw [hq] at e; cases e
  | some j =>
    rw [hq] at e
    exact h.get e
theorem rd_ixL {i : Int} (e : atI ds i = some d) : RD b (rIxL K) (.lst ds) (.int i) d := fun G H u v l s r1 r2 Q q => by
  obtain ⟨a, xs, rfl, h2, h3⟩ := r1
  obtain ⟨w, h4, h5⟩ := h3.atI e
  exact ⟨a, xs, i, w, rfl, r2, SqL.of (s _ _ h2), h4, q w H G (.refl s) h5⟩
theorem rd_ixT {i : Int} (e : atI ds i = some d) : RD b (rIxT K) (.tup ds) (.int i) d := fun G H u v l s r1 r2 Q q => by
  obtain ⟨a, xs, rfl, h2, h3⟩ := r1
  obtain ⟨w, h4, h5⟩ := h3.atI e
  exact ⟨a, xs, i, w, rfl, r2, SqT.of (s _ _ h2), h4, q w H G (.refl s) h5⟩
theorem rd_ixS {z : Str} {i : Int} {c : Nat} (hl : z.length ≤ sizeLine) (e : atI z.cps.toList i = some c) : RD b rIxS (.str z) (.int i) (.str ⟨#[c]⟩) := fun G H u v l s r1 r2 Q q =>
  ⟨z, i, c, r1, r2, hl, e, q _ H G (.refl s) rfl⟩
theorem rd_fst {p : Pr} : RD b (rIxT K) (pD p) (.int 0) (.str p.1) := rd_ixT rfl
theorem rd_snd {p : Pr} : RD b (rIxT K) (pD p) (.int 1) (.int p.2) := rd_ixT rfl
/-! ### lists put behind one another, repeated -/
theorem rn_cat (h : ds.length + es.length ≤ sizeLine) : RN b rCat (.lst ds) (.lst es) (ds ++ es) := fun G H u v l s r1 r2 Q q => by
  obtain ⟨a, xs, rfl, h2, h3⟩ := r1
  obtain ⟨a', ys, rfl, h5, h6⟩ := r2
  exact ⟨a, a', xs, ys, rfl, rfl, s _ _ h2, s _ _ h5, by rw [← h3.length, ← h6.length]; exact h, fun p hp => q p _ _ G (.own s hp) hp upd_same (s.free hp) (h3.append h6)⟩
/-! ### dicts -/
theorem ev_dgetK {kvs : List (Key × D)} {k : Key} (hd : Ev b ta ρ (.dK kvs)) (hk : Ev b tb ρ (kD k)) (e : valD kvs k = some d) : Ev b (tDGet ta tb) ρ d := fun σ G H l E s Q q =>
  hd σ G H l E s _ fun v H1 G1 g1 r1 => hk σ G1 H1 (l.gr g1) (E.mono g1.gx) g1.sub _ fun u H2 G2 g2 r2 => by
    obtain ⟨a, xs, rfl, h2, h3⟩ := r1
    rcases (repK_iff.mp h3).val k with ⟨n, _⟩ | ⟨d', w, e1, e2, e3⟩
    · rw [n] at e; cases e
    · rw [e1] at e; cases e
      exact ⟨a, w, rfl, .inl ⟨xs, k, rd_same (g1.sub.trans g2.ex) h2, rep_kD r2, e2.symm⟩, q w H2 G2 (g1.trans g2) (e3.mono g2.gx)⟩
theorem ev_dgetT {kvs : List (List Key × D)} {p : Pr} (hd : Ev b ta ρ (.dT kvs)) (hk : Ev b tb ρ (pD p)) (e : valD kvs (pK p) = some d) : Ev b (tDGet ta tb) ρ d := fun σ G H l E s Q q =>
  hd σ G H l E s _ fun v H1 G1 g1 r1 => hk σ G1 H1 (l.gr g1) (E.mono g1.gx) g1.sub _ fun u H2 G2 g2 r2 => by
    obtain ⟨a, xs, rfl, h2, h3⟩ := r1
    obtain ⟨c, rfl, h5⟩ := rep_pD r2
    rcases (repT_iff.mp h3).val (pK p) with ⟨n, _⟩ | ⟨d', w, e1, e2, e3⟩
    · rw [n] at e; cases e
    · rw [e1] at e; cases e
      exact ⟨a, w, rfl, .inr ⟨xs, pK p, c, rd_same (g1.sub.trans g2.ex) h2, rfl, g2.sub _ _ h5, e2.symm⟩, q w H2 G2 (g1.trans g2) (e3.mono g2.gx)⟩
theorem ev_inK {kvs : List (Key × D)} {k : Key} {c : Bool} (hk : Ev b tb ρ (kD k)) (hd : Ev b ta ρ (.dK kvs)) (e : (valD kvs k).isSome = c) : Ev b (tDIn tb ta) ρ (.bl c) := fun σ G H l E s Q q =>
  hk σ G H l E s _ fun u H1 G1 g1 r1 => hd σ G1 H1 (l.gr g1) (E.mono g1.gx) g1.sub _ fun v H2 G2 g2 r2 => by
    obtain ⟨a, xs, rfl, h2, h3⟩ := r2
    refine ⟨a, valV xs k, rfl, .inl ⟨xs, k, rd_same g2.sub h2, rep_kD r1, rfl⟩, ?_⟩
    rw [(repK_iff.mp h3).isSome k, e]
    exact q _ H2 G2 (g1.trans g2) rfl
theorem ev_inT {kvs : List (List Key × D)} {p : Pr} {c : Bool} (hk : Ev b tb ρ (pD p)) (hd : Ev b ta ρ (.dT kvs)) (e : (valD kvs (pK p)).isSome = c) : Ev b (tDIn tb ta) ρ (.bl c) := fun σ G H l E s Q q =>
  hk σ G H l E s _ fun u H1 G1 g1 r1 => hd σ G1 H1 (l.gr g1) (E.mono g1.gx) g1.sub _ fun v H2 G2 g2 r2 => by
    obtain ⟨a, xs, rfl, h2, h3⟩ := r2
    obtain ⟨c', rfl, h5⟩ := rep_pD r1
    refine ⟨a, valV xs (pK p), rfl, .inr ⟨xs, pK p, c', rd_same g2.sub h2, rfl, g2.ex _ _ (g1.sub _ _ h5), rfl⟩, ?_⟩
    rw [(repT_iff.mp h3).isSome (pK p), e]
    exact q _ H2 G2 (g1.trans g2) rfl
theorem ev_ninK {kvs : List (Key × D)} {k : Key} {c : Bool} (hk : Ev b tb ρ (kD k)) (hd : Ev b ta ρ (.dK kvs)) (e : (!(valD kvs k).isSome) = c) : Ev b (tDNotIn tb ta) ρ (.bl c) := fun σ G H l E s Q q =>
  hk σ G H l E s _ fun u H1 G1 g1 r1 => hd σ G1 H1 (l.gr g1) (E.mono g1.gx) g1.sub _ fun v H2 G2 g2 r2 => by
    obtain ⟨a, xs, rfl, h2, h3⟩ := r2
    refine ⟨a, valV xs k, rfl, .inl ⟨xs, k, rd_same g2.sub h2, rep_kD r1, rfl⟩, ?_⟩
    rw [(repK_iff.mp h3).isSome k, e]
    exact q _ H2 G2 (g1.trans g2) rfl
theorem ev_ninT {kvs : List (List Key × D)} {p : Pr} {c : Bool} (hk : Ev b tb ρ (pD p)) (hd : Ev b ta ρ (.dT kvs)) (e : (!(valD kvs (pK p)).isSome) = c) : Ev b (tDNotIn tb ta) ρ (.bl c) := fun σ G H l E s Q q =>
  hk σ G H l E s _ fun u H1 G1 g1 r1 => hd σ G1 H1 (l.gr g1) (E.mono g1.gx) g1.sub _ fun v H2 G2 g2 r2 => by
    obtain ⟨a, xs, rfl, h2, h3⟩ := r2
    obtain ⟨c', rfl, h5⟩ := rep_pD r1
    refine ⟨a, valV xs (pK p), rfl, .inr ⟨xs, pK p, c', rd_same g2.sub h2, rfl, g2.ex _ _ (g1.sub _ _ h5), rfl⟩, ?_⟩
    rw [(repT_iff.mp h3).isSome (pK p), e]
    exact q _ H2 G2 (g1.trans g2) rfl
/-! ### tests -/
variable {c c1 c2 : Bool}
theorem et_test (h : Ev b te ρ (.bl c)) : EvT b (tTest te) ρ c := fun σ G H l E s Q q => h σ G H l E s _ fun v H1 G1 g1 r1 => ⟨c, r1, q H1 G1 g1⟩
theorem et_B (h : Ev b te ρ (.bl c)) : EvT b (tB te) ρ c := fun σ G H l E s Q q => h σ G H l E s _ fun v H1 G1 g1 r1 => ⟨c, r1, q H1 G1 g1⟩
theorem et_and (h1 : EvT b t ρ c1) (h2 : c1 = true → EvT b u ρ c2) : EvT b (tAnd t u) ρ (c1 && c2) := fun σ G H l E s Q q => h1 σ G H l E s _ fun H1 G1 g1 => by
  cases c1 with
  | true => exact h2 rfl σ G1 H1 (l.gr g1) (E.mono g1.gx) g1.sub Q fun H2 G2 g2 => q H2 G2 (g1.trans g2)
  | false => exact q H1 G1 g1
theorem et_or (h1 : EvT b t ρ c1) (h2 : c1 = false → EvT b u ρ c2) : EvT b (tOr t u) ρ (c1 || c2) := fun σ G H l E s Q q => h1 σ G H l E s _ fun H1 G1 g1 => by
  cases c1 with
  | true => exact q H1 G1 g1
  | false => exact h2 rfl σ G1 H1 (l.gr g1) (E.mono g1.gx) g1.sub Q fun H2 G2 g2 => q H2 G2 (g1.trans g2)
theorem et_not (h1 : EvT b t ρ c) : EvT b (tNot t) ρ (!c) := fun σ G H l E s Q q => h1 σ G H l E s _ fun H1 G1 g1 => q H1 G1 g1
theorem ev_andV (h1 : Ev b ta ρ (.bl c1)) (h2 : c1 = true → Ev b tb ρ (.bl c2)) : Ev b (tAndV ta tb) ρ (.bl (c1 && c2)) := fun σ G H l E s Q q => h1 σ G H l E s _ fun v H1 G1 g1 r1 => ⟨c1, r1, by
  cases c1 with
  | true => exact h2 rfl σ G1 H1 (l.gr g1) (E.mono g1.gx) g1.sub Q fun v H2 G2 g2 r2 => q v H2 G2 (g1.trans g2) r2
  | false => exact q _ H1 G1 g1 rfl⟩
theorem ev_orV (h1 : Ev b ta ρ (.bl c1)) (h2 : c1 = false → Ev b tb ρ (.bl c2)) : Ev b (tOrV ta tb) ρ (.bl (c1 || c2)) := fun σ G H l E s Q q => h1 σ G H l E s _ fun v H1 G1 g1 r1 => ⟨c1, r1, by
  cases c1 with
  | true => exact q _ H1 G1 g1 rfl
  | false => exact h2 rfl σ G1 H1 (l.gr g1) (E.mono g1.gx) g1.sub Q fun v H2 G2 g2 r2 => q v H2 G2 (g1.trans g2) r2⟩
theorem ev_notV (h1 : Ev b ta ρ (.bl c)) : Ev b (tNotV ta) ρ (.bl (!c)) := fun σ G H l E s Q q => h1 σ G H l E s _ fun v H1 G1 g1 r1 => ⟨c, r1, q _ H1 G1 g1 rfl⟩
theorem ev_if (h : EvT b t ρ c) (h1 : c = true → Ev b ta ρ x) (h2 : c = false → Ev b tb ρ y) : Ev b (tIf t ta tb) ρ (if c then x else y) := fun σ G H l E s Q q => h σ G H l E s _ fun H1 G1 g1 => by
  cases c with
  | true => exact h1 rfl σ G1 H1 (l.gr g1) (E.mono g1.gx) g1.sub Q fun v H2 G2 g2 r2 => q v H2 G2 (g1.trans g2) r2
  | false => exact h2 rfl σ G1 H1 (l.gr g1) (E.mono g1.gx) g1.sub Q fun v H2 G2 g2 r2 => q v H2 G2 (g1.trans g2) r2
/-- is None of what is a number, a text or None -/
def isNonD : D → Bool
  | .non => true
  | _ => false
theorem rep_non {G : Hp} {v : V} (r : Rep G x v) : decide (v = V.non) = isNonD x := by
  cases x with
  | non => cases r; rfl
  | bl b => cases r; rfl
  | int b => cases r; rfl
  | str b => cases r; rfl
  | ty b => cases r; rfl
  | ref b => cases r; rfl
  | tup _ => obtain ⟨a, xs, rfl, _⟩ := r; rfl
  | lst _ => obtain ⟨a, xs, rfl, _⟩ := r; rfl
  | dK _ => obtain ⟨a, xs, rfl, _⟩ := r; rfl
  | dT _ => obtain ⟨a, xs, rfl, _⟩ := r; rfl
  | ins _ _ => obtain ⟨a, dx, xs, rfl, _⟩ := r; rfl
theorem rd_isN : RD b (fun x y H Q => y = .non ∧ Q (.bl (decide (x = .non))) H) x .non (.bl (isNonD x)) := fun G H u v l s r1 r2 Q q => ⟨r2, by rw [rep_non r1]; exact q _ H G (.refl s) rfl⟩
theorem rd_notN : RD b (fun x y H Q => y = .non ∧ Q (.bl (!decide (x = .non))) H) x .non (.bl (!isNonD x)) := fun G H u v l s r1 r2 Q q => ⟨r2, by rw [rep_non r1]; exact q _ H G (.refl s) rfl⟩
/-! ### slices -/
theorem eo_none : EvO b tNoPart ρ none := fun σ G H l E s Q q => q H G (.refl s)
theorem eo_some {n : Int} (h : Ev b te ρ (.int n)) : EvO b (tPart te) ρ (some n) := fun σ G H l E s Q q => h σ G H l E s _ fun v H1 G1 g1 r1 => ⟨n, r1, q H1 G1 g1⟩
theorem ev_slS {z : Str} {tl th : TO} {lo hi : Option Int} (h : Ev b te ρ (.str z)) (h1 : EvO b tl ρ lo) (h2 : EvO b th ρ hi) (hl : z.length ≤ sizeLine) : Ev b (tSl rSlS te tl th) ρ (.str (cutS z lo hi)) := fun σ G H l E s Q q =>
  h σ G H l E s _ fun v H1 G1 g1 r1 => h1 σ G1 H1 (l.gr g1) (E.mono g1.gx) g1.sub _ fun H2 G2 g2 => h2 σ G2 H2 ((l.gr g1).gr g2) ((E.mono g1.gx).mono g2.gx) g2.sub _ fun H3 G3 g3 =>
    ⟨z, r1, hl, q _ H3 G3 ((g1.trans g2).trans g3) rfl⟩
def cutD (xs : List D) (lo hi : Option Int) : List D := (xs.drop (HT.sIx xs.length 0 lo)).take (HT.sIx xs.length xs.length hi - HT.sIx xs.length 0 lo)
theorem evn_slL {tl th : TO} {lo hi : Option Int} (h : Ev b te ρ (.lst ds)) (h1 : EvO b tl ρ lo) (h2 : EvO b th ρ hi) : EvN b (tSl (rSlL K) te tl th) ρ (cutD ds lo hi) := fun σ G H l E s Q q =>
  h σ G H l E s _ fun v H1 G1 g1 r1 => h1 σ G1 H1 (l.gr g1) (E.mono g1.gx) g1.sub _ fun H2 G2 g2 => h2 σ G2 H2 ((l.gr g1).gr g2) ((E.mono g1.gx).mono g2.gx) g2.sub _ fun H3 G3 g3 => by
    obtain ⟨a, xs, rfl, h4, h5⟩ := r1
    refine ⟨a, xs, rfl, SqL.of (g3.ex _ _ (g2.ex _ _ (g1.sub _ _ h4))), fun p hp => ?_⟩
    refine q p _ _ G3 (((g1.trans g2).trans g3).trans (.own g3.sub hp)) (((g1.trans g2).trans g3).ex.free hp) upd_same (g3.sub.free hp) ?_
    unfold cutD cutV
    rw [h5.length]
    exact (((h5.mono g2.gx).mono g3.gx).drop _).take _
/-! ### built-in calls -/
theorem ev_cb {r : List V → Hp → VK → Prop} {ta : TA} (ha : EvA b ta ρ ds) (hr : RC b r ds z) : Ev b (tCB r ta) ρ z := fun σ G H l E s Q q =>
  ha σ G H l E s _ fun vs H1 G1 g1 r1 => hr G1 H1 vs (l.gr g1) g1.sub r1 Q fun w H2 G2 g2 r2 => q w H2 G2 (g1.trans g2) r2
theorem evn_cb {r : List V → Hp → VK → Prop} {ta : TA} (ha : EvA b ta ρ ds) (hr : RCN b r ds zs) : EvN b (tCB r ta) ρ zs := fun σ G H l E s Q q =>
  ha σ G H l E s _ fun vs H1 G1 g1 r1 => hr G1 H1 vs (l.gr g1) g1.sub r1 Q fun p xs H2 G2 g2 hp => q p xs H2 G2 (g1.trans g2) (g1.ex.free hp)
theorem Reps.one' {G : Hp} {xs : List V} (h : Reps G [d] xs) : ∃ v, xs = [v] ∧ Rep G d v := by
  obtain ⟨v, r, rfl, h2, e⟩ := h
  cases e
  exact ⟨v, rfl, h2⟩
theorem Reps.two' {G : Hp} {xs : List V} (h : Reps G [x, y] xs) : ∃ v w, xs = [v, w] ∧ Rep G x v ∧ Rep G y w := by
  obtain ⟨v, r, rfl, h2, w, r', rfl, h3, e⟩ := h
  cases e
  exact ⟨v, w, rfl, h2, h3⟩
theorem rc_lenL {X : Cx} : RC b (fun xs H Q => ∃ p ys, xs = [.ref p] ∧ (SqL X.K H p ys ∨ SqT X.K H p ys) ∧ Q (.int ys.length) H) [.lst ds] (.int ds.length) := fun G H us l s r Q q => by
  obtain ⟨v, rfl, a, xs, rfl, h2, h3⟩ := r.one'
  exact ⟨a, xs, rfl, .inl (SqL.of (s _ _ h2)), by rw [← h3.length]; exact q _ H G (.refl s) rfl⟩
theorem rc_lenT {X : Cx} : RC b (fun xs H Q => ∃ p ys, xs = [.ref p] ∧ (SqL X.K H p ys ∨ SqT X.K H p ys) ∧ Q (.int ys.length) H) [.tup ds] (.int ds.length) := fun G H us l s r Q q => by
  obtain ⟨v, rfl, a, xs, rfl, h2, h3⟩ := r.one'
  exact ⟨a, xs, rfl, .inr (SqT.of (s _ _ h2)), by rw [← h3.length]; exact q _ H G (.refl s) rfl⟩
theorem rc_lenS {z : Str} (hl : z.length ≤ sizeLine) : RC b (fun xs H Q => ∃ z, xs = [.str z] ∧ z.length ≤ sizeLine ∧ Q (.int z.length) H) [.str z] (.int z.length) := fun G H us l s r Q q => by
  obtain ⟨v, rfl, rfl⟩ := r.one'
  exact ⟨z, rfl, hl, q _ H G (.refl s) rfl⟩
theorem rc_intB {k : Bool} : RC b (fun xs H Q => (∃ i, xs = [.int i] ∧ Q (.int i) H) ∨ ∃ k, xs = [.bl k] ∧ Q (.int (if k then 1 else 0)) H) [.bl k] (.int (if k then 1 else 0)) := fun G H us l s r Q q => by
  obtain ⟨v, rfl, rfl⟩ := r.one'
  exact .inr ⟨k, rfl, q _ H G (.refl s) rfl⟩
theorem rc_min {i j : Int} : RC b (fun xs H Q => ∃ i j, xs = [.int i, .int j] ∧ Q (.int (if j < i then j else i)) H) [.int i, .int j] (.int (if j < i then j else i)) := fun G H us l s r Q q => by
  obtain ⟨v, w, rfl, rfl, rfl⟩ := r.two'
  exact ⟨i, j, rfl, q _ H G (.refl s) rfl⟩
theorem rcn_listL {X : Cx} : RCN b (fun xs H Q => ∃ p ys, xs = [.ref p] ∧ (SqL X.K H p ys ∨ SqT X.K H p ys) ∧ ∀ l, H l = none → Q (.ref l) (upd H l (.lst ys))) [.lst ds] ds := fun G H us l s r Q q => by
  obtain ⟨v, rfl, a, xs, rfl, h2, h3⟩ := r.one'
  exact ⟨a, xs, rfl, .inl (SqL.of (s _ _ h2)), fun p hp => q p xs _ G (.own s hp) hp upd_same (s.free hp) h3⟩
theorem rcn_listT {X : Cx} : RCN b (fun xs H Q => ∃ p ys, xs = [.ref p] ∧ (SqL X.K H p ys ∨ SqT X.K H p ys) ∧ ∀ l, H l = none → Q (.ref l) (upd H l (.lst ys))) [.tup ds] ds := fun G H us l s r Q q => by
  obtain ⟨v, rfl, a, xs, rfl, h2, h3⟩ := r.one'
  exact ⟨a, xs, rfl, .inr (SqT.of (s _ _ h2)), fun p hp => q p xs _ G (.own s hp) hp upd_same (s.free hp) h3⟩
theorem rc_tupL {X : Cx} : RC b (fun xs H Q => ∃ p ys, xs = [.ref p] ∧ ((SqL X.K H p ys ∧ ∀ l, H l = none → Q (.ref l) (upd H l (.tup ys))) ∨ (SqT X.K H p ys ∧ Q (.ref p) H))) [.lst ds] (.tup ds) := fun G H us l s r Q q => by
  obtain ⟨v, rfl, a, xs, rfl, h2, h3⟩ := r.one'
  exact ⟨a, xs, rfl, .inl ⟨SqL.of (s _ _ h2), fun p hp => q _ _ (upd G p (.tup xs)) (.new s hp) ⟨p, xs, rfl, upd_same, h3.mono (same_upd (s.free hp))⟩⟩⟩
theorem rc_all {bs : List Bool} : RC b (rAll K) [.lst (bs.map D.bl)] (.bl (bs.all id)) := fun G H us l s r Q q => by
  obtain ⟨v, rfl, a, xs, rfl, h2, h3⟩ := r.one'
  rw [h3.bls] at h2
  exact ⟨a, bs, rfl, SqL.of (s _ _ h2), q _ H G (.refl s) rfl⟩
theorem rc_any {bs : List Bool} : RC b (rAny K) [.lst (bs.map D.bl)] (.bl (bs.any id)) := fun G H us l s r Q q => by
  obtain ⟨v, rfl, a, xs, rfl, h2, h3⟩ := r.one'
  rw [h3.bls] at h2
  exact ⟨a, bs, rfl, SqL.of (s _ _ h2), q _ H G (.refl s) rfl⟩
/-- isinstance of a built-in class -/
def tyD : D → Option String
  | .non => some "NoneType" | .bl _ => some "bool" | .int _ => some "int" | .str _ => some "str" | .tup _ => some "tuple" | .lst _ => some "list" | .dK _ => some "dict" | .dT _ => some "dict"
  | _ => none
theorem rep_ty {G H : Hp} {v : V} {T : String} (hT : tyD x = some T) (hlk : ∀ a o u, G a ≠ some (.frz o u)) (s : Same G H) (r : Rep G x v) : TyX K H v (.type T) := by
  cases x with
  | non => cases hT; cases r; exact .base .non
  | bl _ => cases hT; cases r; exact .base (.bl _)
  | int _ => cases hT; cases r; exact .base (.int _)
  | str _ => cases hT; cases r; exact .base (.str _)
  | ty _ => cases hT
  | ref _ => cases hT
  | tup _ => cases hT; obtain ⟨a, xs, rfl, h, _⟩ := r; exact .base (.tup (s _ _ h))
  | lst _ => cases hT; obtain ⟨a, xs, rfl, h, _⟩ := r; exact .base (.lst (s _ _ h))
  | dK _ =>
    cases hT; obtain ⟨a, xs, rfl, h, _⟩ := r
    rcases h with h | ⟨o, h⟩
    · exact .base (.dK (s _ _ h))
    · exact absurd h (hlk a o _)
  | dT _ =>
    cases hT; obtain ⟨a, xs, rfl, h, _⟩ := r
    rcases h with h | ⟨o, h⟩
    · exact .base (.dT (s _ _ h))
    · exact absurd h (hlk a o _)
  | ins _ _ => cases hT
/-- .. of what is no dict, locked or not -/
def noDict : D → Bool
  | .dK _ | .dT _ => false
  | _ => true
theorem rep_ty' {G H : Hp} {v : V} {T : String} (hT : tyD x = some T) (nd : noDict x = true) (s : Same G H) (r : Rep G x v) : TyX K H v (.type T) := by
  cases x with
  | non => cases hT; cases r; exact .base .non
  | bl _ => cases hT; cases r; exact .base (.bl _)
  | int _ => cases hT; cases r; exact .base (.int _)
  | str _ => cases hT; cases r; exact .base (.str _)
  | ty _ => cases hT
  | ref _ => cases hT
  | tup _ => cases hT; obtain ⟨a, xs, rfl, h, _⟩ := r; exact .base (.tup (s _ _ h))
  | lst _ => cases hT; obtain ⟨a, xs, rfl, h, _⟩ := r; exact .base (.lst (s _ _ h))
  | dK _ => cases nd
  | dT _ => cases nd
  | ins _ _ => cases hT
theorem rc_isi {T : String} {n : String} {c : Bool} (hT : tyD x = some T) (hc : kitB T n = some c) (nd : noDict x = true) : RC b (rIsi K) [x, .ty n] (.bl c) := fun G H us l s r Q q => by
  obtain ⟨v, w, rfl, h1, rfl⟩ := r.two'
  exact ⟨v, _, _, _, c, rfl, .ty n, rep_ty' hT nd s h1, kit_ty hc, q _ H G (.refl s) rfl⟩
theorem rc_isiD {T : String} {n : String} {c : Bool} (hT : tyD x = some T) (hc : kitB T n = some c) (hb : b.fl = true) : RC b (rIsi K) [x, .ty n] (.bl c) := fun G H us l s r Q q => by
  obtain ⟨v, w, rfl, h1, rfl⟩ := r.two'
  exact ⟨v, _, _, _, c, rfl, .ty n, rep_ty hT (l.fl hb) s h1, kit_ty hc, q _ H G (.refl s) rfl⟩
/-! ### fields -/
theorem RepD.lookup {G : Hp} : ∀ {fs : List (Str × D)} {xs : List (Str × V)} {f : Str}, RepD G fs xs → fs.lookup f = some d → ∃ v, xs.lookup f = some v ∧ Rep G d v
  | _, _, f, .nil, e => by cases e
  | _, _, f, .cons (k := k) (d := d') (v := v) r t, e => by
    rw [List.lookup_cons] at e ⊢
    cases hq : f == k with
    | true =>
      rw [hq] at e
      cases e
      exact ⟨v, rfl, r⟩
    | false =>
      rw [hq] at e
      exact RepD.lookup t e
theorem RepD.lookup_none {G : Hp} : ∀ {fs : List (Str × D)} {xs : List (Str × V)} {f : Str}, RepD G fs xs → fs.lookup f = none → xs.lookup f = none
  | _, _, f, .nil, e => rfl
  | _, _, f, .cons (k := k) (d := d') (v := v) r t, e => by
    rw [List.lookup_cons] at e ⊢
    cases hq : f == k with
    | true => rw [hq] at e; cases e
    | false =>
      rw [hq] at e
      exact RepD.lookup_none t e
theorem ev_fld {C : Addr} {fs : List (Str × D)} {f : Str} (h : Ev b te ρ (.ins C fs)) (hc : Cls K C) (hn : NoAttr K C f) (e : fs.lookup f = some d) : Ev b (tFld K te f) ρ d := fun σ G H l E s Q q =>
  h σ G H l E s _ fun v H1 G1 g1 r1 => by
    obtain ⟨a, dx, xs, rfl, h2, h3⟩ := r1
    obtain ⟨w, h4, h5⟩ := (repF_iff.mp h3).lookup e
    exact ⟨a, C, dx, xs, w, rfl, g1.sub _ _ h2, hc, hn, h4, q w H1 G1 g1 h5⟩
/-! ### calls: a def that only tells -/
/-- R of the arguments and what comes back; lk: no dict that is handed in is locked -/
def PureSp (lk : Bool) (n : Nat) (R : List D → D → Prop) : Sp := fun vs H Q _ => vs.length = n ∧ ∃ G ds d, Lk ⟨lk, []⟩ G H ∧ Same G H ∧ Reps G ds vs ∧ R ds d ∧ ∀ v H' G', Gr H G H' G' → Rep G' d v → Q v H'
theorem ev_call {n : Nat} {R : List D → D → Prop} {ta : TA} {E0 : XK} {lk : Bool} (ha : EvA b ta ρ ds) (hn : ds.length = n) (hr : R ds d) (hb : lk = true → b.fl = true) : Ev b (tCall (PureSp lk n R) [] E0 ta) ρ d := fun σ G H l E s Q q =>
  ha σ G H l E s _ fun vs H1 G1 g1 r1 => ⟨by rw [List.append_nil, ← r1.length, hn], G1, ds, d, (l.gr g1).less hb (fun _ z => nomatch z), g1.sub, by rw [List.append_nil]; exact r1, hr, fun v H2 G2 g2 r2 => q v H2 G2 (g1.trans g2) r2⟩
theorem ev_meth {n : Nat} {R : List D → D → Prop} {ta : TA} {E0 : XK} {C : Addr} {fs : List (Str × D)} {m : Str} {lk : Bool} (ho : Ev b te ρ (.ins C fs)) (hm : fs.lookup m = none) (ha : EvA b ta ρ ds) (hn : ds.length + 1 = n) (hr : R (.ins C fs :: ds) d) (hb : lk = true → b.fl = true) :
    Ev b (tMeth C m (PureSp lk n R) [] E0 te ta) ρ d := fun σ G H l E s Q q =>
  ho σ G H l E s _ fun v H1 G1 g1 r1 => by
    obtain ⟨a, dx, xs, rfl, h2, h3⟩ := id r1
    refine ⟨a, dx, xs, rfl, g1.sub _ _ h2, (repF_iff.mp h3).lookup_none hm, ?_⟩
    refine ha σ G1 H1 (l.gr g1) (E.mono g1.gx) g1.sub _ fun vs H2 G2 g2 r2 => ?_
    exact ⟨by rw [List.append_nil, List.length_cons, ← r2.length, hn], G2, .ins C fs :: ds, d, ((l.gr g1).gr g2).less hb (fun _ z => nomatch z), g2.sub, ⟨_, _, rfl, r1.mono g2.gx, by rw [List.append_nil]; exact r2⟩, hr, fun v H3 G3 g3 r3 => q v H3 G3 ((g1.trans g2).trans g3) r3⟩
end
/-! ### pure bodies: what a block hands back -/
def St (b : Bx) (ts : TS) (ρ : Ro) (d : D) : Prop := ∀ σ G H (D : Ends), Lk b G H → Env G σ ρ → Same G H → (∀ v H' G', Gr H G H' G' → Rep G' d v → D.rt v H') → ts D σ H
section
variable {b : Bx} {ρ : Ro} {ta tb tc te tx : TE} {t u : TT} {x y z d : D} {ds es zs : List D} {tz tw : TS} {c : Bool}
theorem st_is {d' : D} (h : St b tz ρ d) (e : d = d') : St b tz ρ d' := e ▸ h
theorem st_ret (h : Ev b te ρ d) : St b (tRet te) ρ d := fun σ G H D l E s q => h σ G H l E s _ fun v H1 G1 g1 r1 => q v H1 G1 g1 r1
theorem st_set {i : Nat} (h : Ev b te ρ x) (k : St b tz (ρ.set i (some x)) d) : St b (tSeq (tAsg te (gName i)) tz) ρ d := fun σ G H D l E s q =>
  h σ G H l E s _ fun v H1 G1 g1 r1 => k _ G1 H1 _ (l.gr g1) ((E.mono g1.gx).set i r1) g1.sub fun v H2 G2 g2 r2 => q v H2 G2 (g1.trans g2) r2
theorem st_drop (h : Ev b te ρ x) (k : St b tz ρ d) : St b (tSeq (tDrop te) tz) ρ d := fun σ G H D l E s q =>
  h σ G H l E s _ fun v H1 G1 g1 r1 => k _ G1 H1 _ (l.gr g1) (E.mono g1.gx) g1.sub fun v H2 G2 g2 r2 => q v H2 G2 (g1.trans g2) r2
theorem st_ifR (h : EvT b t ρ c) (h1 : c = true → St b tz ρ d) (h2 : c = false → St b tw ρ d) {ts : TS} : St b (tSeq (tIfS t tz tNext) tw) ρ d := fun σ G H D l E s q =>
  h σ G H l E s _ fun H1 G1 g1 => by
    cases c with
    | true => exact h1 rfl _ G1 H1 _ (l.gr g1) (E.mono g1.gx) g1.sub fun v H2 G2 g2 r2 => q v H2 G2 (g1.trans g2) r2
    | false => exact h2 rfl _ G1 H1 _ (l.gr g1) (E.mono g1.gx) g1.sub fun v H2 G2 g2 r2 => q v H2 G2 (g1.trans g2) r2
/-- an if whose body is never reached -/
theorem st_no (h : EvT b t ρ false) (k : St b tw ρ d) : St b (tSeq (tIfS t tz tNext) tw) ρ d := fun σ G H D l E s q =>
  h σ G H l E s _ fun H1 G1 g1 => k _ G1 H1 _ (l.gr g1) (E.mono g1.gx) g1.sub fun v H2 G2 g2 r2 => q v H2 G2 (g1.trans g2) r2
/-- a, b = a pair -/
theorem st_pair {K : PySem.W.Frag} {i j : Nat} (h : Ev b te ρ (.tup [x, y])) (k : St b tz ((ρ.set i (some x)).set j (some y)) d) : St b (tSeq (tAsg te (gTup K 2 (gCons (gName i) (gCons (gName j) gNil)))) tz) ρ d := fun σ G H D l E s q =>
  h σ G H l E s _ fun v H1 G1 g1 r1 => by
    obtain ⟨a, xs, rfl, h2, h3⟩ := r1
    obtain ⟨v1, v2, rfl, r1, r2⟩ := h3.two'
    refine ⟨a, _, rfl, SqT.of (g1.sub _ _ h2), rfl, v1, _, rfl, v2, _, rfl, rfl, ?_⟩
    exact k _ G1 H1 _ (l.gr g1) (((E.mono g1.gx).set i r1).set j r2) g1.sub fun v H2 G2 g2 r2 => q v H2 G2 (g1.trans g2) r2
end
/-- the last step of a pure def's proof -/
theorem body_ok {lk : Bool} {n : Nat} {R : List D → D → Prop} {N : List Str} {vs : List V} {H : Hp} {Q : VK} {E : XK} {t : TS} (h : PureSp lk n R vs H Q E) (k : ∀ ds d, ds.length = n → R ds d → St ⟨lk, []⟩ t (ds.map some ++ List.replicate (N.length - ds.length) none) d) :
    t { nx := fun _ H' => Q .non H', rt := Q } (start N vs) H := by
  obtain ⟨hn, G, ds, d, l, s, r, hr, q⟩ := h
  exact k ds d (r.length.trans hn) hr _ G H _ l (Env.start r) s q
end Sh
set_option Elab.async false
set_option linter.all false
set_option maxRecDepth 100000
/-! ShD: what is walked, comprehensions, locks. -/
namespace Sh
open PySem L2

/-! ### what stands for a D may be read in another part of the heap, where locks have changed -/
structure Tr (G G' : Hp) : Prop where
  lst : ∀ a xs, G a = some (.lst xs) → G' a = some (.lst xs)
  tup : ∀ a xs, G a = some (.tup xs) → G' a = some (.tup xs)
  ins : ∀ a C dx xs, G a = some (.ins C dx xs) → G' a = some (.ins C dx xs)
  dk : ∀ a xs, Rd G a (.dK xs) → Rd G' a (.dK xs)
  dt : ∀ a xs, Rd G a (.dT xs) → Rd G' a (.dT xs)
mutual
theorem Rep.tr {G G' : Hp} (e : Tr G G') : ∀ {d : D} {v : V}, Rep G d v → Rep G' d v
  | .non, _, h => h
  | .bl _, _, h => h
  | .int _, _, h => h
  | .str _, _, h => h
  | .ty _, _, h => h
  | .ref _, _, h => h
  | .tup ds, _, h => by
    obtain ⟨a, xs, h1, h2, h3⟩ := h
    exact ⟨a, xs, h1, e.tup _ _ h2, Reps.tr e h3⟩
  | .lst ds, _, h => by
    obtain ⟨a, xs, h1, h2, h3⟩ := h
    exact ⟨a, xs, h1, e.lst _ _ h2, Reps.tr e h3⟩
  | .dK ds, _, h => by
    obtain ⟨a, xs, h1, h2, h3⟩ := h
    exact ⟨a, xs, h1, e.dk _ _ h2, RepK.tr e h3⟩
  | .dT ds, _, h => by
    obtain ⟨a, xs, h1, h2, h3⟩ := h
    exact ⟨a, xs, h1, e.dt _ _ h2, RepT.tr e h3⟩
  | .ins C fs, _, h => by
    obtain ⟨a, dx, xs, h1, h2, h3⟩ := h
    exact ⟨a, dx, xs, h1, e.ins _ _ _ _ h2, RepF.tr e h3⟩
theorem Reps.tr {G G' : Hp} (e : Tr G G') : ∀ {ds : List D} {xs : List V}, Reps G ds xs → Reps G' ds xs
  | [], _, h => h
  | d :: ds, _, h => by
    obtain ⟨v, r, h1, h2, h3⟩ := h
    exact ⟨v, r, h1, Rep.tr e h2, Reps.tr e h3⟩
theorem RepK.tr {G G' : Hp} (e : Tr G G') : ∀ {ds : List (Key × D)} {xs : List (Key × V)}, RepK G ds xs → RepK G' ds xs
  | [], _, h => h
  | d :: ds, _, h => by
    obtain ⟨v, r, h1, h2, h3⟩ := h
    exact ⟨v, r, h1, Rep.tr e h2, RepK.tr e h3⟩
theorem RepT.tr {G G' : Hp} (e : Tr G G') : ∀ {ds : List (List Key × D)} {xs : List (List Key × V)}, RepT G ds xs → RepT G' ds xs
  | [], _, h => h
  | d :: ds, _, h => by
    obtain ⟨v, r, h1, h2, h3⟩ := h
    exact ⟨v, r, h1, Rep.tr e h2, RepT.tr e h3⟩
theorem RepF.tr {G G' : Hp} (e : Tr G G') : ∀ {ds : List (Str × D)} {xs : List (Str × V)}, RepF G ds xs → RepF G' ds xs
  | [], _, h => h
  | d :: ds, _, h => by
    obtain ⟨v, r, h1, h2, h3⟩ := h
    exact ⟨v, r, h1, Rep.tr e h2, RepF.tr e h3⟩
end
/-- a dict -/
def isDic : HO → Bool
  | .dK _ | .dT _ => true
  | _ => false
theorem Tr.lock {G : Hp} {a : Addr} {o : Obj} {u : HO} (h : G a = some u) (hu : isDic u = true) : Tr G (upd G a (.frz o u)) := by
  have ne : ∀ b x, G b = some x → isDic x = false → b ≠ a := fun b x e n z => by subst z; rw [h] at e; cases e; rw [hu] at n; cases n
  have rd : ∀ b x, isFrz x = false → Rd G b x → Rd (upd G a (.frz o u)) b x := fun b x nf r => by
    by_cases hb : b = a
    · subst hb
      rcases r with r | ⟨o', r⟩
      · rw [h] at r; cases r; exact .inr ⟨o, upd_same⟩
      · rw [h] at r; cases r; cases hu
    · rcases r with r | ⟨o', r⟩
      · exact .inl (by rw [upd_ne hb]; exact r)
      · exact .inr ⟨o', by rw [upd_ne hb]; exact r⟩
  exact ⟨fun b x e => by rw [upd_ne (ne b _ e rfl)]; exact e, fun b x e => by rw [upd_ne (ne b _ e rfl)]; exact e, fun b C dx x e => by rw [upd_ne (ne b _ e rfl)]; exact e, fun b x => rd b _ rfl, fun b x => rd b _ rfl⟩
theorem Tr.unlock {G : Hp} {a : Addr} {o : Obj} {u : HO} (h : G a = some (.frz o u)) (hu : isDic u = true) : Tr G (upd G a u) := by
  have ne : ∀ b x, G b = some x → isFrz x = false → b ≠ a := fun b x e n z => by subst z; rw [h] at e; cases e; cases n
  have rd : ∀ b x, isFrz x = false → Rd G b x → Rd (upd G a u) b x := fun b x nf r => by
    by_cases hb : b = a
    · subst hb
      rcases r with r | ⟨o', r⟩
      · rw [h] at r; cases r; cases nf
      · rw [h] at r; cases r; exact .inl upd_same
    · rcases r with r | ⟨o', r⟩
      · exact .inl (by rw [upd_ne hb]; exact r)
      · exact .inr ⟨o', by rw [upd_ne hb]; exact r⟩
  exact ⟨fun b x e => by rw [upd_ne (ne b _ e rfl)]; exact e, fun b x e => by rw [upd_ne (ne b _ e rfl)]; exact e, fun b C dx x e => by rw [upd_ne (ne b _ e rfl)]; exact e, fun b x => rd b _ rfl, fun b x => rd b _ rfl⟩
theorem Env.tr {G G' : Hp} {σ : L2.St} {ρ : Ro} (E : Env G σ ρ) (e : Tr G G') : Env G' σ ρ := ⟨E.len, fun i d h => let ⟨v, h1, h2⟩ := E.at' i d h; ⟨v, h1, h2.tr e⟩⟩
/-- out of a locked part -/
theorem Gr.unlock {H G H' G' : Hp} {a : Addr} {o : Obj} {u : HO} (hG : G a = some u) (hH : H a = some u) (hu : isDic u = true) (g : Gr (upd H a (.frz o u)) (upd G a (.frz o u)) H' G') :
    G' a = some (.frz o u) ∧ H' a = some (.frz o u) ∧ Gr H G (upd H' a u) (upd G' a u) := by
  have h1 : G' a = some (.frz o u) := g.gx _ _ upd_same
  refine ⟨h1, g.sub _ _ h1, fun b x e => ?_, fun b x e => ?_, same_upd2 g.sub, fun b x e n => ?_, fun b ob x e => ?_⟩
  · by_cases hb : b = a
    · subst hb; rw [hH] at e; cases e; exact upd_same
    · rw [upd_ne hb]; exact g.ex b x (by rw [upd_ne hb]; exact e)
  · by_cases hb : b = a
    · subst hb; rw [hG] at e; cases e; exact upd_same
    · rw [upd_ne hb]; exact g.gx b x (by rw [upd_ne hb]; exact e)
  · by_cases hb : b = a
    · subst hb; rw [upd_same, hG]
    · rw [upd_ne hb]
      exact (g.old b x (by rw [upd_ne hb]; exact e) n).trans (upd_ne hb)
  · by_cases hb : b = a
    · subst hb; rw [upd_same] at e; cases e; cases hu
    · rw [upd_ne hb] at e
      have := g.lk b ob x e
      rw [upd_ne hb] at this
      exact this
theorem Gr.mut {H G H' G' : Hp} {p : Addr} {o : HO} (g : Gr H G H' G') (hp : H p = none) (gp : G' p = none) : Gr H G (upd H' p o) G' :=
  ⟨fun b x e => by rw [upd_ne (ne_of_none e hp)]; exact g.ex b x e, g.gx, fun b x e => by rw [upd_ne (ne_of_none e gp)]; exact g.sub b x e, g.old, g.lk⟩
/-- what is not in the frozen part, and no tuple, stays out of it -/
theorem Gr.out {H G H' G' : Hp} {p : Addr} {o : HO} (g : Gr H G H' G') (h : H p = some o) (n : ∀ xs, o ≠ .tup xs) (gp : G p = none) : G' p = none := (g.old p o h n).trans gp

/-! ### sources -/
structure SrcOk (J : It) (G : Hp) (ds : List D) : Prop where
  go : ∀ i G2 H, Same G G2 → Same G2 H → i < ds.length → J.go i H
  stop : ∀ G2 H, Same G G2 → Same G2 H → J.stop ds.length H
  yld : ∀ i G2 H x H', Same G G2 → Same G2 H → i < ds.length → J.yld i H x H' → ∃ G3 d, Gr H G2 H' G3 ∧ ds[i]? = some d ∧ Rep G3 d x
def Src (b : Bx) (wi : TI) (ρ : Ro) (ds : List D) : Prop := ∀ σ G H, Lk b G H → Env G σ ρ → Same G H → ∀ R : It → Hp → Prop, (∀ J H' G', Gr H G H' G' → SrcOk J G' ds → R J H') → wi σ H R
section
variable {b : Bx} {ρ : Ro} {ta tb tc te tx tl : TE} {t u : TT} {x y z d : D} {ds es zs : List D} {K : PySem.W.Frag}
theorem Src.is (h : Src b wi ρ ds) (e : ds = es) : Src b wi ρ es := e ▸ h
theorem srcok_list {G : Hp} {a : Addr} {xs : List V} (h : G a = some (.lst xs)) (r : Reps G ds xs) : SrcOk (Itl K a) G ds :=
  ⟨fun i G2 H e s hi => walk_list.goes i H (by rw [← r.length]; exact hi) (SqL.of (s _ _ (e _ _ h))), fun G2 H e s => by rw [r.length]; exact walk_list.stops H (SqL.of (s _ _ (e _ _ h))),
   fun i G2 H x H' e s hi y => by
    obtain ⟨e1, e2⟩ := walk_list.yields i H x H' (by rw [← r.length]; exact hi) (SqL.of (s _ _ (e _ _ h))) y
    subst e1
    obtain ⟨d, h1, h2⟩ := r.back e2
    exact ⟨G2, d, .refl s, h1, h2.mono e⟩⟩
theorem srcok_tup {G : Hp} {a : Addr} {xs : List V} (h : G a = some (.tup xs)) (r : Reps G ds xs) : SrcOk (Itt K a) G ds :=
  ⟨fun i G2 H e s hi => walk_tup.goes i H (by rw [← r.length]; exact hi) (SqT.of (s _ _ (e _ _ h))), fun G2 H e s => by rw [r.length]; exact walk_tup.stops H (SqT.of (s _ _ (e _ _ h))),
   fun i G2 H x H' e s hi y => by
    obtain ⟨e1, e2⟩ := walk_tup.yields i H x H' (by rw [← r.length]; exact hi) (SqT.of (s _ _ (e _ _ h))) y
    subst e1
    obtain ⟨d, h1, h2⟩ := r.back e2
    exact ⟨G2, d, .refl s, h1, h2.mono e⟩⟩
theorem src_list (h : Ev b tl ρ (.lst ds)) : Src b (iList K tl) ρ ds := fun σ G H l E s R q =>
  h σ G H l E s _ fun v H1 G1 g1 r1 => by
    obtain ⟨a, xs, rfl, h2, h3⟩ := r1
    exact ⟨a, rfl, ⟨xs, SqL.of (g1.sub _ _ h2)⟩, q _ _ _ g1 (srcok_list h2 h3)⟩
theorem src_tup (h : Ev b tl ρ (.tup ds)) : Src b (iTup K tl) ρ ds := fun σ G H l E s R q =>
  h σ G H l E s _ fun v H1 G1 g1 r1 => by
    obtain ⟨a, xs, rfl, h2, h3⟩ := r1
    exact ⟨a, rfl, ⟨xs, SqT.of (g1.sub _ _ h2)⟩, q _ _ _ g1 (srcok_tup h2 h3)⟩
theorem srcok_rng {G : Hp} {lo : Int} {n : Nat} : SrcOk (Itr lo n) G ((List.range n).map fun (i : Nat) => D.int (lo + (i : Int))) :=
  ⟨fun i G2 H e s hi => by show i < n; simpa using hi, fun G2 H e s => by show n ≤ _; simp, fun i G2 H x H' e s hi y => by
    obtain ⟨e1, e2⟩ := y
    subst e1 e2
    have hi' : i < n := by simpa using hi
    exact ⟨G2, .int (lo + (i : Int)), .refl s, by simp [hi'], rfl⟩⟩
theorem src_rng1 {ta : TA} {n : Int} (h : EvA b ta ρ [.int n]) (hn : -1000000 ≤ n ∧ n ≤ 1000000) : Src b (iRng1 ta) ρ ((List.range n.toNat).map fun (i : Nat) => D.int (i : Int)) := fun σ G H l E s R q =>
  h σ G H l E s _ fun vs H1 G1 g1 r1 => by
    obtain ⟨v, rfl, rfl⟩ := r1.one'
    refine ⟨n, rfl, by omega, by omega, q _ _ _ g1 ?_⟩
    have := srcok_rng (G := G1) (lo := 0) (n := n.toNat)
    simpa using this
theorem src_rng2 {ta : TA} {lo n : Int} (h : EvA b ta ρ [.int lo, .int n]) (hn : (-1000000 ≤ lo ∧ lo ≤ 1000000) ∧ -1000000 ≤ n ∧ n ≤ 1000000) : Src b (iRng2 ta) ρ ((List.range (n - lo).toNat).map fun (i : Nat) => D.int (lo + (i : Int))) := fun σ G H l E s R q =>
  h σ G H l E s _ fun vs H1 G1 g1 r1 => by
    obtain ⟨v, w, rfl, rfl, rfl⟩ := r1.two'
    exact ⟨lo, n, rfl, by omega, q _ _ _ g1 srcok_rng⟩
theorem src_str {zt : Str} (h : Ev b te ρ (.str zt)) : Src b (iStr te) ρ (zt.cps.toList.map fun c => D.str ⟨#[c]⟩) := fun σ G H l E s R q =>
  h σ G H l E s _ fun v H1 G1 g1 r1 => by
    cases r1
    refine ⟨zt, rfl, q _ _ _ g1 ⟨fun i G2 H e s hi => by simpa [Its] using hi, fun G2 H e s => by show zt.cps.size ≤ _; simp, fun i G2 H x H' e s hi y => ?_⟩⟩
    obtain ⟨e1, c, e2, e3⟩ := y
    subst e1 e3
    exact ⟨G2, .str ⟨#[c]⟩, .refl s, by
      rw [List.getElem?_map, Array.getElem?_toList, e2]
      rfl, rfl⟩
theorem src_rev {ta : TA} (h : EvA b ta ρ [.lst ds]) : Src b (iRev K ta) ρ ds.reverse := fun σ G H l E s R q =>
  h σ G H l E s _ fun vs H1 G1 g1 r1 => by
    obtain ⟨v, rfl, a, xs, rfl, h2, h3⟩ := r1.one'
    refine ⟨a, xs, rfl, SqL.of (g1.sub _ _ h2), q _ _ _ g1 ⟨fun i G2 H e s hi => ?_, fun G2 H e s => ?_, fun i G2 H x H' e s hi y => ?_⟩⟩
    · exact walk_rev.goes i H (by rw [← h3.length]; simpa using hi) (SqL.of (s _ _ (e _ _ h2)))
    · rw [List.length_reverse, h3.length]; exact walk_rev.stops H (SqL.of (s _ _ (e _ _ h2)))
    · have hi' : i < ds.length := by simpa using hi
      obtain ⟨e1, e2⟩ := walk_rev.yields i H x H' (by rw [← h3.length]; exact hi') (SqL.of (s _ _ (e _ _ h2))) y
      subst e1
      obtain ⟨d, h4, h5⟩ := h3.back e2
      refine ⟨G2, d, .refl s, ?_, h5.mono e⟩
      rw [List.getElem?_reverse hi', h3.length]
      exact h4
theorem src_enum {ta : TA} (h : EvA b ta ρ [.lst ds]) : Src b (iEnum K ta) ρ (ds.zipIdx.map fun p => D.tup [.int (p.2 : Nat), p.1]) := fun σ G H l E s R q =>
  h σ G H l E s _ fun vs H1 G1 g1 r1 => by
    obtain ⟨v, rfl, a, xs, rfl, h2, h3⟩ := r1.one'
    refine ⟨a, xs, rfl, SqL.of (g1.sub _ _ h2), q _ _ _ g1 ⟨fun i G2 H e s hi => ?_, fun G2 H e s => ?_, fun i G2 H x H' e s hi y => ?_⟩⟩
    · exact walk_enum.goes i H (by rw [← h3.length]; simpa using hi) (SqL.of (s _ _ (e _ _ h2)))
    · rw [List.length_map, List.length_zipIdx, h3.length]; exact walk_enum.stops H (SqL.of (s _ _ (e _ _ h2)))
    · obtain ⟨T, u, w, rfl, hT, rfl, e1, e2⟩ := walk_enum.yields i H x H' (by rw [← h3.length]; simpa using hi) (SqL.of (s _ _ (e _ _ h2))) y
      cases e1
      obtain ⟨d, h4, h5⟩ := h3.back e2
      exact ⟨upd G2 T (.tup [.int (i : Nat), w]), .tup [.int (i : Nat), d], .new s hT, by rw [List.getElem?_map, List.getElem?_zipIdx, h4]; simp, T, _, rfl, upd_same, _, _, rfl, rfl, _, _, rfl, (h5.mono e).mono (same_upd (s.free hT)), rfl⟩
theorem src_zip {ta : TA} (h : EvA b ta ρ [.lst ds, .lst es]) : Src b (iZip K ta) ρ (List.zipWith (fun x y => D.tup [x, y]) ds es) := fun σ G H l E s R q =>
  h σ G H l E s _ fun vs H1 G1 g1 r1 => by
    obtain ⟨v, w, rfl, ⟨a, xs, rfl, h2, h3⟩, a', ys, rfl, h2', h3'⟩ := r1.two'
    have W : ∀ G2 H, Same G1 G2 → Same G2 H → SqL K H a xs ∧ SqL K H a' ys := fun G2 H e s => ⟨SqL.of (s _ _ (e _ _ h2)), SqL.of (s _ _ (e _ _ h2'))⟩
    have hl : (List.zipWith (fun x y => D.tup [x, y]) ds es).length = min xs.length ys.length := by rw [List.length_zipWith, h3.length, h3'.length]
    refine ⟨a, a', xs, ys, rfl, SqL.of (g1.sub _ _ h2), SqL.of (g1.sub _ _ h2'), q _ _ _ g1 ⟨fun i G2 H e s hi => ?_, fun G2 H e s => ?_, fun i G2 H x H' e s hi y => ?_⟩⟩
    · exact (walk_zip rfl).goes i H (by rw [← hl]; exact hi) (W G2 H e s)
    · rw [hl]; exact (walk_zip rfl).stops H (W G2 H e s)
    · obtain ⟨T, u, w, rfl, hT, rfl, e1, e2⟩ := (walk_zip rfl).yields i H x H' (by rw [← hl]; exact hi) (W G2 H e s) y
      obtain ⟨d, h4, h5⟩ := h3.back e1
      obtain ⟨d', h4', h5'⟩ := h3'.back e2
      exact ⟨upd G2 T (.tup [u, w]), .tup [d, d'], .new s hT, by rw [List.getElem?_zipWith, h4, h4'], T, _, rfl, upd_same, _, _, rfl, (h5.mono e).mono (same_upd (s.free hT)), _, _, rfl, (h5'.mono e).mono (same_upd (s.free hT)), rfl⟩
/-! dicts that are locked -/
theorem srcok_keysK {G : Hp} {a : Addr} {o : Obj} {kvs : List (Key × D)} {xs : List (Key × V)} (h : G a = some (.frz o (.dK xs))) (r : RepD G kvs xs) : SrcOk (Itk a o xs) G (kvs.map fun kv => kD kv.1) := by
  have hl : (kvs.map fun kv => kD kv.1).length = xs.length := by rw [List.length_map, r.len]
  refine ⟨fun i G2 H e s hi => walk_keys.goes i H (by rw [← hl]; exact hi) (s _ _ (e _ _ h)), fun G2 H e s => by rw [hl]; exact walk_keys.stops H (s _ _ (e _ _ h)), fun i G2 H x H' e s hi y => ?_⟩
  obtain ⟨e1, k, v, e2, e3⟩ := walk_keys.yields i H x H' (by rw [← hl]; exact hi) (s _ _ (e _ _ h)) y
  subst e1 e3
  obtain ⟨d, h4, _⟩ := r.get e2
  exact ⟨G2, kD k, .refl s, by rw [List.getElem?_map, h4]; rfl, rep_kV _ _⟩
theorem reps_keys {G : Hp} : ∀ (k : List Key), Reps G (k.map kD) (k.map kV)
  | [] => rfl
  | k :: ks => ⟨kV k, ks.map kV, rfl, rep_kV G k, reps_keys ks⟩
theorem srcok_keysT {G : Hp} {a : Addr} {o : Obj} {kvs : List (List Key × D)} {xs : List (List Key × V)} (h : G a = some (.frz o (.dT xs))) (r : RepD G kvs xs) : SrcOk (Itkt a o xs) G (kvs.map fun kv => .tup (kv.1.map kD)) := by
  have hl : (kvs.map fun kv => D.tup (kv.1.map kD)).length = xs.length := by rw [List.length_map, r.len]
  refine ⟨fun i G2 H e s hi => walk_keysT.goes i H (by rw [← hl]; exact hi) (s _ _ (e _ _ h)), fun G2 H e s => by rw [hl]; exact walk_keysT.stops H (s _ _ (e _ _ h)), fun i G2 H x H' e s hi y => ?_⟩
  obtain ⟨e1, k, v, p, e2, e3, e4⟩ := walk_keysT.yields i H x H' (by rw [← hl]; exact hi) (s _ _ (e _ _ h)) y
  subst e1 e3
  obtain ⟨d, h4, _⟩ := r.get e2
  exact ⟨upd G2 p (.tup (k.map kV)), .tup (k.map kD), .tup s e4, by rw [List.getElem?_map, h4]; rfl, p, _, rfl, upd_same, reps_keys k⟩
theorem srcok_valsK {G : Hp} {a : Addr} {o : Obj} {kvs : List (Key × D)} {xs : List (Key × V)} (h : G a = some (.frz o (.dK xs))) (r : RepD G kvs xs) : SrcOk (Itd a o xs) G (kvs.map fun kv => kv.2) := by
  have hl : (kvs.map fun kv => kv.2).length = xs.length := by rw [List.length_map, r.len]
  refine ⟨fun i G2 H e s hi => walk_values.goes i H (by rw [← hl]; exact hi) (s _ _ (e _ _ h)), fun G2 H e s => by rw [hl]; exact walk_values.stops H (s _ _ (e _ _ h)), fun i G2 H x H' e s hi y => ?_⟩
  obtain ⟨e1, k, e2⟩ := walk_values.yields i H x H' (by rw [← hl]; exact hi) (s _ _ (e _ _ h)) y
  subst e1
  obtain ⟨d, h4, h5⟩ := r.get e2
  exact ⟨G2, d, .refl s, by rw [List.getElem?_map, h4]; rfl, h5.mono e⟩
theorem srcok_itemsK {G : Hp} {a : Addr} {o : Obj} {kvs : List (Key × D)} {xs : List (Key × V)} (h : G a = some (.frz o (.dK xs))) (r : RepD G kvs xs) : SrcOk (Iti a o xs) G (kvs.map fun kv => .tup [kD kv.1, kv.2]) := by
  have hl : (kvs.map fun kv => D.tup [kD kv.1, kv.2]).length = xs.length := by rw [List.length_map, r.len]
  refine ⟨fun i G2 H e s hi => walk_items.goes i H (by rw [← hl]; exact hi) (s _ _ (e _ _ h)), fun G2 H e s => by rw [hl]; exact walk_items.stops H (s _ _ (e _ _ h)), fun i G2 H x H' e s hi y => ?_⟩
  obtain ⟨T, u, w, rfl, hT, rfl, e1, e2⟩ := walk_items.yields i H x H' (by rw [← hl]; exact hi) (s _ _ (e _ _ h)) y
  simp only at e1 e2
  cases hq : xs[i]? with
  | none => rw [hq] at e1; cases e1
  | some kv =>
    obtain ⟨k, v⟩ := kv
    rw [hq] at e1 e2
    cases e1; cases e2
    obtain ⟨d, h4, h5⟩ := r.get hq
    exact ⟨upd G2 T (.tup [kV k, v]), .tup [kD k, d], .new s hT, by rw [List.getElem?_map, h4]; rfl, T, _, rfl, upd_same, _, _, rfl, rep_kV _ _, _, _, rfl, (h5.mono e).mono (same_upd (s.free hT)), rfl⟩
end

/-! ### comprehensions -/
theorem wipe_get (σ : L2.St) : ∀ (vs : List Nat) (i : Nat), (wipe σ vs)[i]? = if i ∈ vs then (σ[i]?).map (fun _ => none) else σ[i]?
  | [], i => by simp [wipe]
  | v :: vs, i => by
    unfold wipe
    rw [List.getElem?_set]
    by_cases h : v = i
    · subst h
      simp only [if_true, List.mem_cons, true_or]
      rw [wipe_length]
      by_cases hv : v < σ.length
      · simp [hv]
      · simp [hv]
    · rw [if_neg h, wipe_get σ vs i]
      by_cases h2 : i ∈ vs
      · rw [if_pos h2, if_pos (List.mem_cons_of_mem _ h2)]
      · rw [if_neg h2, if_neg (by simp [h2]; exact fun e => h e.symm)]
theorem wipe_eq {σ τ : L2.St} {vs : List Nat} (h : ∀ i, i ∉ vs → τ[i]? = σ[i]?) (hl : τ.length = σ.length) : wipe τ vs = wipe σ vs := by
  apply List.ext_getElem?
  intro i
  rw [wipe_get, wipe_get]
  by_cases hi : i ∈ vs
  · rw [if_pos hi, if_pos hi]
    by_cases h2 : i < σ.length
    · rw [List.getElem?_eq_getElem h2, List.getElem?_eq_getElem (hl ▸ h2)]
      rfl
    · rw [List.getElem?_eq_none (by omega), List.getElem?_eq_none (by omega)]
  · rw [if_neg hi, if_neg hi, h i hi]
theorem wipe_out' {σ : L2.St} {vs : List Nat} {i : Nat} (h : i ∉ vs) : (wipe σ vs)[i]? = σ[i]? := by rw [wipe_get, if_neg h]

section
variable {b : Bx} {ρ : Ro} {ta tb tc te tx tl tk tv : TE} {t u tt : TT} {x y z d e : D} {ds es zs : List D} {K : PySem.W.Frag} {g : TG} {vs : List Nat} {wi : TI}
theorem et_yes : EvT b tYes ρ true := fun σ G H l E s Q q => q H G (.refl s)
/-- a target takes d: what is known behind it -/
def TgT (g : TG) (vs : List Nat) (ρ : Ro) (d : D) (ρ' : Ro) : Prop := ∀ σ G H x, Env G σ ρ → Same G H → Rep G d x → ∀ Q : L2.St → Hp → Prop, (∀ σ', Env G σ' ρ' → (∀ i, i ∉ vs → σ'[i]? = σ[i]?) → σ'.length = σ.length → Q σ' H) → g x σ H Q
theorem tg_name {j : Nat} (hj : j ∈ vs) : TgT (gName j) vs ρ d (ρ.set j (some d)) := fun σ G H v E s r Q q =>
  q _ (E.set j r) (fun i hi => List.getElem?_set_ne (fun (z : j = i) => hi (z ▸ hj))) (List.length_set ..)
theorem tg_pair {i j : Nat} (hi : i ∈ vs) (hj : j ∈ vs) : TgT (gTup K 2 (gCons (gName i) (gCons (gName j) gNil))) vs ρ (.tup [x, y]) ((ρ.set i (some x)).set j (some y)) := fun σ G H v E s r Q q => by
  obtain ⟨a, xs, rfl, h2, h3⟩ := r
  obtain ⟨v1, v2, rfl, r1, r2⟩ := h3.two'
  refine ⟨a, _, rfl, SqT.of (s _ _ h2), rfl, v1, _, rfl, v2, _, rfl, rfl, ?_⟩
  refine q _ ((E.set i r1).set j r2) (fun k hk => ?_) (by simp)
  show ((σ.set i (some v1)).set j (some v2))[k]? = _
  rw [List.getElem?_set_ne (fun (z : j = k) => hk (z ▸ hj)), List.getElem?_set_ne (fun (z : i = k) => hk (z ▸ hi))]
/-- one turn: d is taken, c says whether e is given -/
structure LcT (b : Bx) (g : TG) (tt : TT) (te : TE) (vs : List Nat) (ρ : Ro) (d : D) (c : Bool) (e : D) : Prop where
  ex : ∃ ρ', TgT g vs (wipeD ρ vs) d ρ' ∧ EvT b tt ρ' c ∧ (c = true → Ev b te ρ' e)
theorem lct {ρ' : Ro} {c : Bool} (hg : TgT g vs (wipeD ρ vs) d ρ') (ht : EvT b tt ρ' c) (he : c = true → Ev b te ρ' e) : LcT b g tt te vs ρ d c e := ⟨ρ', hg, ht, he⟩
theorem LcT.run {c : Bool} (L : LcT b g tt te vs ρ d c e) {σ : L2.St} {G H : Hp} {v : V} (l : Lk b G H) (E : Env G σ ρ) (s : Same G H) (r : Rep G d v) {Qs : VK} {Qn : Hp → Prop}
    (q1 : c = true → ∀ v H' G', Gr H G H' G' → Rep G' e v → Qs v H') (q2 : c = false → ∀ H' G', Gr H G H' G' → Qn H') :
    g v (wipe σ vs) H fun σ2 H2 => wipe σ2 vs = wipe σ vs ∧ tt σ2 H2 fun bb H3 => if bb = true then te σ2 H3 Qs else Qn H3 := by
  obtain ⟨ρ', hg, ht, he⟩ := L.ex
  refine hg (wipe σ vs) G H v (E.wipe vs) s r _ fun σ2 E2 e2 l2 => ⟨?_, ?_⟩
  · exact wipe_eq (fun i hi => by rw [e2 i hi, wipe_out' hi]) (by rw [l2, wipe_length])
  · refine ht σ2 G H l E2 s _ fun H3 G3 g3 => ?_
    cases c with
    | true => exact he rfl σ2 G3 H3 (l.gr g3) (E2.mono g3.gx) g3.sub _ fun v H4 G4 g4 r4 => q1 rfl v H4 G4 (g3.trans g4) r4
    | false => exact q2 rfl H3 G3 g3
/-- the loop of a list comprehension -/
theorem lc_run {α : Type} {J : It} {G H : Hp} {Dl : Addr} {σ : L2.St} {xs : List α} {enc : α → D} {c : α → Bool} {f : α → D} {Qd : Hp → Prop} (S : SrcOk J G (xs.map enc)) (l : Lk b G H) (E : Env G σ ρ) (s : Same G H) (hD : H Dl = none)
    (hn : xs.length ≤ 1000) (turn : ∀ x ∈ xs, LcT b g tt te vs ρ (enc x) (c x) (f x))
    (q : ∀ H' G' ys, Gr H G H' G' → G' Dl = none → H' Dl = some (.lst ys) → Reps G' ((xs.filter c).map f) ys → Qd H') :
    ∃ W : Nat → Nat → Hp → Prop, (∃ m, W 0 m (upd H Dl (.lst []))) ∧ ∀ i m H, W i m H →
      (J.stop i H ∧ Qd H) ∨ (J.go i H ∧ ∃ Nx : Hp → Prop, (∀ H', Nx H' → ∃ m', m' < m ∧ W (i + 1) m' H') ∧ ∀ x H', J.yld i H x H' → g x (wipe σ vs) H' fun σ2 H2 => wipe σ2 vs = wipe σ vs ∧ tt σ2 H2 fun b H3 =>
        if b = true then te σ2 H3 fun y H4 => ∃ acc, H4 Dl = some (.lst acc) ∧ acc.length < sizeLine ∧ Nx (upd H4 Dl (.lst (acc ++ [y]))) else Nx H3) := by
  let Pv : Nat → Hp → Prop := fun i H' => ∃ G' ys, Gr H G H' G' ∧ G' Dl = none ∧ H' Dl = some (.lst ys) ∧ Reps G' (((xs.take i).filter c).map f) ys
  refine ⟨fun i m H' => m = xs.length - i ∧ i ≤ xs.length ∧ Pv i H', ⟨xs.length, by simp, Nat.zero_le _, G, [], .own s hD, s.free hD, upd_same, rfl⟩, ?_⟩
  rintro i m H1 ⟨rfl, hi, G1, ys, g1, gD, hD1, r1⟩
  by_cases hlt : i < xs.length
  · refine .inr ⟨S.go i G1 H1 g1.gx g1.sub (by simpa using hlt), Pv (i + 1), fun H' p => ⟨xs.length - (i + 1), by omega, rfl, hlt, p⟩, fun v H2 y => ?_⟩
    obtain ⟨G2, d, g2, e2, r2⟩ := S.yld i G1 H1 v H2 g1.gx g1.sub (by simpa using hlt) y
    have hx : xs[i]? = some xs[i] := List.getElem?_eq_getElem hlt
    rw [List.getElem?_map, hx] at e2
    cases e2
    have ht : xs.take (i + 1) = xs.take i ++ [xs[i]] := by rw [List.take_add_one, hx]; rfl
    have gD2 : G2 Dl = none := g2.out hD1 (by intro xs z; cases z) gD
    have hD2 : H2 Dl = some (.lst ys) := g2.ex _ _ hD1
    have hlen : ys.length ≤ i := by
      rw [← r1.length, List.length_map]
      exact Nat.le_trans (List.length_filter_le ..) (by rw [List.length_take]; omega)
    refine (turn xs[i] (List.getElem_mem hlt)).run ((l.gr g1).gr g2) ((E.mono g1.gx).mono g2.gx) g2.sub r2 (fun hc w H3 G3 g3 r3 => ?_) (fun hc H3 G3 g3 => ?_)
    · have gD3 : G3 Dl = none := g3.out hD2 (by intro xs z; cases z) gD2
      refine ⟨ys, g3.ex _ _ hD2, Nat.lt_of_le_of_lt hlen (small1000 (by omega)), G3, ys ++ [w], ((g1.trans g2).trans g3).mut hD gD3, gD3, upd_same, ?_⟩
      rw [ht, List.filter_append, List.map_append, List.filter_cons, if_pos hc]
      exact ((r1.mono g2.gx).mono g3.gx).snoc r3
    · have gD3 : G3 Dl = none := g3.out hD2 (by intro xs z; cases z) gD2
      refine ⟨G3, ys, (g1.trans g2).trans g3, gD3, g3.ex _ _ hD2, ?_⟩
      rw [ht, List.filter_append, List.map_append, List.filter_cons, if_neg (by rw [hc]; decide)]
      simpa using (r1.mono g2.gx).mono g3.gx
  · have ei : i = xs.length := by omega
    subst ei
    refine .inl ⟨by have := S.stop G1 H1 g1.gx g1.sub; simpa using this, q H1 G1 ys g1 gD hD1 ?_⟩
    rw [List.take_length] at r1
    exact r1
theorem evn_lc {α : Type} {xs : List α} {enc : α → D} {c : α → Bool} {f : α → D} (hs : Src b wi ρ (xs.map enc)) (hn : xs.length ≤ 1000) (turn : ∀ x ∈ xs, LcT b g tt te vs ρ (enc x) (c x) (f x)) :
    EvN b (tLc wi g tt te vs) ρ ((xs.filter c).map f) := fun σ G H l E s Q q =>
  hs σ G H l E s _ fun J H1 G1 g1 S => fun Dl hD => lc_run S (l.gr g1) (E.mono g1.gx) g1.sub hD hn turn fun H2 G2 ys g2 gD hD2 r2 => q Dl ys H2 G2 (g1.trans g2) (g1.ex.free hD) hD2 gD r2
theorem evn_lcY {α : Type} {xs : List α} {enc : α → D} {f : α → D} (hs : Src b wi ρ (xs.map enc)) (hn : xs.length ≤ 1000) (turn : ∀ x ∈ xs, LcT b g tYes te vs ρ (enc x) true (f x)) :
    EvN b (tLc wi g tYes te vs) ρ (xs.map f) := by
  have h := evn_lc (c := fun _ => true) hs hn turn
  rw [List.filter_eq_self.mpr (fun _ _ => rfl)] at h
  exact h
end
end Sh
set_option Elab.async false
set_option linter.all false
set_option maxRecDepth 100000
/-! ShT: the text by places, what the top leaves for the defs, calls of own defs. -/
namespace Sh
open PySem L2
def topS (i : Nat) : Stmt := PySem.Challenge.pw_shardread_k36_whole_papers_by_hand.main.body.getD i (.Pass ⟨0, 0, 0, 0⟩)

/-- a def of the text, as its callers want it -/
structure Fn (P : Program) (w : World) (K : PySem.W.Frag) (mg : Str → Option Value) (base : Heap) (k : Nat) (x : Str) (ps : List Str) (sp : Sp) : Prop where
  ex : ∃ f fd, FnOk P w K mg base CX0 k f fd ps sp ∧ mg x = some (.ref f) ∧ PySem.W.keepIn K (.ref f) = true ∧ Binds K fd ps []
/-- a method of the class at C -/
structure Me (P : Program) (w : World) (K : PySem.W.Frag) (mg : Str → Option Value) (base : Heap) (k : Nat) (C : Addr) (m : Str) (ps : List Str) (sp : Sp) : Prop where
  ex : ∃ f fd, FnOk P w K mg base CX0 k f fd ps sp ∧ Cls K C ∧ Meth K C m f ∧ Binds K fd ps []
/-- a class that is made by its __init__ -/
structure Mke (P : Program) (w : World) (K : PySem.W.Frag) (mg : Str → Option Value) (base : Heap) (k : Nat) (C : Addr) (x : Str) (ps : List Str) (sp : Sp) : Prop where
  ex : ∃ f fd, FnOk P w K mg base CX0 k f fd ps sp ∧ Mk K C f ∧ mg x = some (.ref C) ∧ Binds K fd ps []
section
variable {X : Cx} {k : Nat} {x m : Str} {ps : List Str} {sp : Sp} {e o : Expr} {es : List Expr} {t : TA} {to : TE} {p pos apos : Pos} {C : Addr} {pl : Sem Bool}
theorem pe_fn (c : Fn X.prog X.w X.K X.mg X.base k x ps sp) (hr : Room k X.A) (hg : Gl X x) (ha : PA X (e :: es) t) (hdb : (x == ("__debug__" : Str)) = false := by decide)
    (he : starEach (e :: es) X.env = (false, eval e X.env) :: starEach es X.env := by rfl) (hpl : (backTo pos (starEach es X.env)).any (·.1) = false := by rfl) : PE X (.Call (.Name x p) (e :: es) [] pos) (tCall sp [] E0 t) := by
  obtain ⟨f, fd, F, mf, kp, b⟩ := c.ex
  exact pe_call F hr hg mf kp b .nil pass0 ha hdb he hpl
theorem pe_me (c : Me X.prog X.w X.K X.mg X.base k C m ps sp) (ho : PE X o to) (hr : Room k X.A) (ha : PA X (e :: es) t)
    (hst : starEach (e :: es) X.env = (false, eval e X.env) :: starEach es X.env := by rfl) (hpl : (backTo pos (starEach es X.env)).any (·.1) = false := by rfl)
    (ht : eval (.Call (.Attribute o m apos) (e :: es) [] pos) X.env = (do
      let ov ← eval o X.env
      standAt apos.atName
      let (f, first) ← holding [ov] (getMethod ov m pl)
      callWith pos f first (backTo pos (starEach (e :: es) X.env)) (backToKw pos (keywordEach [] X.env))) := by rfl) : PE X (.Call (.Attribute o m apos) (e :: es) [] pos) (tMeth C m sp [] E0 to t) := by
  obtain ⟨f, fd, F, hc, hm, b⟩ := c.ex
  exact pe_meth (pl := pl) ho hc hm F hr b .nil pass0 ha hst hpl ht
theorem pe_me0 (c : Me X.prog X.w X.K X.mg X.base k C m ps sp) (ho : PE X o to) (hr : Room k X.A)
    (ht : eval (.Call (.Attribute o m apos) [] [] pos) X.env = (do
      let ov ← eval o X.env
      standAt apos.atName
      let (f, first) ← holding [ov] (getMethod ov m pl)
      callWith pos f first (backTo pos (starEach [] X.env)) (backToKw pos (keywordEach [] X.env))) := by rfl) : PE X (.Call (.Attribute o m apos) [] [] pos) (tMeth C m sp [] E0 to tNil) := by
  obtain ⟨f, fd, F, hc, hm, b⟩ := c.ex
  exact pe_meth0 (pl := pl) ho hc hm F hr b .nil pass0 ht
theorem pe_mk (c : Mke X.prog X.w X.K X.mg X.base k C x ps sp) (hr : Room (k + 1) X.A) (hg : Gl X x) (ha : PA X (e :: es) t) (hdb : (x == ("__debug__" : Str)) = false := by decide)
    (he : starEach (e :: es) X.env = (false, eval e X.env) :: starEach es X.env := by rfl) (hpl : (backTo pos (starEach es X.env)).any (·.1) = false := by rfl) : PE X (.Call (.Name x p) (e :: es) [] pos) (tMake C sp [] E0 t) := by
  obtain ⟨f, fd, F, M, mc, b⟩ := c.ex
  exact pe_make M F hr hg mc b .nil pass0 ha hdb he hpl
theorem pe_const {x : Str} {n : Int} (hg : Gl X x) (hm : ∃ t, X.mg x = some (.int n t)) (hd : (x == ("__debug__" : Str)) = false := by decide) : PE X (.Name x pos) (tC (.int n)) := by
  obtain ⟨t, h⟩ := hm
  exact pe_glob hg h ⟨_, rfl⟩ hd
end
theorem hu65_of {A : Around} {k : Nat} (hr : Room k A) : A.units + 65 < cLine := by have := hr.un; omega
/-- the built-in names that the text leaves as they are -/
structure Bt (K : PySem.W.Frag) (mg : Str → Option Value) : Prop where
  n_len : mg "len" = none
  n_isinstance : mg "isinstance" = none
  n_int : mg "int" = none
  n_bool : mg "bool" = none
  n_str : mg "str" = none
  n_list : mg "list" = none
  n_tuple : mg "tuple" = none
  n_dict : mg "dict" = none
  n_set : mg "set" = none
  n_all : mg "all" = none
  n_any : mg "any" = none
  n_range : mg "range" = none
  n_enumerate : mg "enumerate" = none
  n_zip : mg "zip" = none
  n_reversed : mg "reversed" = none
  n_sorted : mg "sorted" = none
  n_min : mg "min" = none
  gMOST : ∃ t, mg "MOST_WORDS" = some (.int 40 t)
end Sh
set_option Elab.async false
set_option linter.all false
set_option maxRecDepth 100000
/-! ShR: rules of the layer that are not there: == [] of any list, text * number, a sign in a written dict; deep == by D's. -/
namespace Sh
open PySem PySem.Spec PyProof.Rows L2

section
variable {X : Cx}
/-- a list beside an empty one -/
def rNil (neg : Bool) (K : PySem.W.Frag) : R2 := fun x y H Q => ∃ a b xs, x = .ref a ∧ y = .ref b ∧ SqL K H a xs ∧ SqL K H b [] ∧ Q (.bl (if neg then !xs.isEmpty else xs.isEmpty)) H
theorem nil_items {us : List Value} (r : Vals [] us) : us = [] := by cases r; rfl
theorem op_eqNil (hu : X.A.units < cLine) : OpR X (compareOp .Eq) (rNil false X.K) := by
  intro pins s σ H x y v u Q I rx ry h
  obtain ⟨a, b, xs, rfl, rfl, ha, hb, q⟩ := h
  cases (show v = Value.ref a from rx)
  cases (show u = Value.ref b from ry)
  obtain ⟨its, r1, l1, _⟩ := I.list ha
  obtain ⟨its2, r2, l2, _⟩ := I.list hb
  cases nil_items r2
  have hl := r1.length
  cases xs with
  | nil =>
    cases nil_items r1
    exact SeqAt.eq_listAt (e := fun _ => true) l1.isList l2.isList rfl hu (fun j h1 _ => by simp at h1) ⟨.bl true, H, I, rfl, q⟩
  | cons x xs =>
    refine SeqAt.eq_list_lengthsAt l1.isList l2.isList ?_ hu ⟨.bl false, H, I, rfl, q⟩
    simp only [List.size_toArray, ← hl]
    simp
theorem op_neNil (hu : X.A.units < cLine) : OpR X (compareOp .NotEq) (rNil true X.K) := by
  intro pins s σ H x y v u Q I rx ry h
  obtain ⟨a, b, xs, rfl, rfl, ha, hb, q⟩ := h
  cases (show v = Value.ref a from rx)
  cases (show u = Value.ref b from ry)
  obtain ⟨its, r1, l1, _⟩ := I.list ha
  obtain ⟨its2, r2, l2, _⟩ := I.list hb
  cases nil_items r2
  have hl := r1.length
  cases xs with
  | nil =>
    cases nil_items r1
    exact SeqAt.RcNeAt.lists (e := fun _ => true) l1.isList l2.isList rfl hu (fun j h1 _ => by simp at h1) X.prog X.w _ _ ⟨.bl false, H, I, rfl, q⟩
  | cons x xs =>
    refine SeqAt.RcNeAt.lists_lengths l1.isList l2.isList ?_ hu X.prog X.w _ _ ⟨.bl true, H, I, rfl, q⟩
    simp only [List.size_toArray, ← hl]
    simp
/-- text * number -/
def rMulS : R2 := fun x y H Q => ∃ z n, x = .str z ∧ y = .int n ∧ (z.length ≤ 1000 ∧ -1000 ≤ n ∧ n ≤ 1000) ∧ Q (.str (Txt.mul z n)) H
theorem mulOk {z : Str} {n : Int} (h : z.length ≤ 1000 ∧ -1000 ≤ n ∧ n ≤ 1000) : MulOk z n := by
  obtain ⟨h1, h2, h3⟩ := h
  refine ⟨?_, fun p q => ?_, fun p q => ?_⟩
  · rw [decide_eq_false (by omega), decide_eq_false (by omega)]; rfl
  · have e : (2 ^ 63 - 1 : Int) / n ≥ 9223372036854775 := by
      have : (9223372036854775 : Int) * n ≤ 2 ^ 63 - 1 := by
        have := Int.mul_le_mul_of_nonneg_left h3 (by decide : (0 : Int) ≤ 9223372036854775)
        omega
      exact (Int.le_ediv_iff_mul_le (by omega)).mpr this
    have : (z.length : Int) ≤ 1000 := by omega
    omega
  · have hn : n.toNat ≤ 1000 := by omega
    have : z.length * n.toNat ≤ 1000 * 1000 := Nat.mul_le_mul h1 hn
    unfold Builtin.Str.tooLong
    have hs : sizeLine = 16777216 := sizeLine_eq
    rw [decide_eq_false_iff_not]
    omega
theorem op_mulS : OpR X (binaryOp .Mult) rMulS := by
  intro pins s σ H x y v u Q I rx ry h
  obtain ⟨z, n, rfl, rfl, hok, q⟩ := h
  obtain ⟨t, rfl⟩ := rx
  obtain ⟨t', rfl⟩ := ry
  exact SB.mul (mulOk hok) fun t' k => ⟨.str _, H, I.tok k, ⟨_, rfl⟩, q⟩
/-- a written dict whose keys are texts, those of S among them -/
structure KDic (K : PySem.W.Frag) (w : World) (a : Addr) (S : List Str) : Prop where
  ex : ∃ es n, K.lookup a = some ⟨.type "dict", none, .dict es n, #[]⟩ ∧ PySem.W.KeysLit w.params es.toList ∧ (a == sysModules) = false ∧ ∀ x ∈ S, ∃ v, PySem.W.nsIn K a x = some (some v)
def tInK (S : List Str) (tk : TE) : TE := fun σ H Q => tk σ H fun y H1 => ∃ z, y = .str z ∧ z ∈ S ∧ Q (.bl true) H1
theorem pc_inK {x : Str} {p : Pos} {i : Expr} {ty : TE} {S : List Str} (hg : Gl X x) (hm : ∃ a, X.mg x = some (.ref a) ∧ KDic X.K X.w a S) (hi : PE X i ty) (hd : (x == ("__debug__" : Str)) = false := by decide) : PC X .In i (.Name x p) (tInK S ty) := by
  refine ⟨fun pins s σ H Q I h => ?_⟩
  obtain ⟨a, hma, ⟨es, n, hl, hk, low, hS⟩⟩ := hm
  refine thn (hi.run pins s σ H _ I h) fun iv s1 ⟨y, H1, I1, ry, z, ey, hz, q1⟩ => ?_
  subst ey
  obtain ⟨t, rfl⟩ := (show ∃ t, iv = Value.str z t from ry)
  refine ld_glob I1 hg hma ?_ hd
  have hm' := PySem.W.mapOf_K (prog := X.prog) (w := X.w) I1.kIn hl hk
  obtain ⟨v, hv⟩ := hS z hz
  refine wpAny_in_of (strKind_is X.prog X.w z t) low hm' ?_
  rw [PySem.W.find_K hl hv]
  exact ⟨.bl true, H1, I1.tok _, rfl, q1⟩
end

/-- a written tuple of numbers -/
structure KTup (K : PySem.W.Frag) (a : Addr) (ns : List Int) : Prop where
  ex : ∃ (o : Obj) (its : Array Value) (n : Nat), K.lookup a = some o ∧ o.cls = .type "tuple" ∧ o.data = .seq its n ∧ its.size ≤ sizeLine ∧ Vals (ns.map V.int) its.toList
def tInKT (ns : List Int) (tk : TE) : TE := fun σ H Q => tk σ H fun y H1 => ∃ i, y = .int i ∧ Q (.bl (decide (i ∈ ns))) H1
theorem inV_ints (i : Int) : ∀ ns : List Int, inV (.int i) (ns.map V.int) = decide (i ∈ ns)
  | [] => rfl
  | y :: ys => by
    show (eqV (.int y) (.int i) || inV (.int i) (ys.map V.int)) = _
    rw [inV_ints i ys]
    by_cases e : y = i
    · simp [eqV, e]
    · have e' : ¬ i = y := fun z => e z.symm
      simp [eqV, e, e']
theorem pc_inKT {X : Cx} {x : Str} {p : Pos} {i : Expr} {ty : TE} {ns : List Int} (hg : Gl X x) (hm : ∃ a, X.mg x = some (.ref a) ∧ KTup X.K a ns) (hi : PE X i ty) (hd : (x == ("__debug__" : Str)) = false := by decide) : PC X .In i (.Name x p) (tInKT ns ty) := by
  refine ⟨fun pins s σ H Q I h => ?_⟩
  obtain ⟨a, hma, kt⟩ := hm
  refine thn (hi.run pins s σ H _ I h) fun iv s1 ⟨y, H1, I1, ry, i, ey, q1⟩ => ?_
  refine ld_glob I1 hg hma ?_ hd
  subst ey
  refine op_in_seq pins s1 σ H1 _ (.ref a) iv (.ref a) Q I1 ry rfl ⟨a, ns.map V.int, rfl, .inr (.inr kt.ex), rfl, ?_, ?_⟩
  · simp [flatV]
  · rw [if_neg (by decide), inV_ints]; exact q1
section
variable {X : Cx} {pins : List (Addr × Obj)} {σ : L2.St} {H : Hp} {s : Shared}
theorem eqV_strs (a c : Str) : eqV (.str a) (.str c) = decide (a = c) := by
  show (a == c) = _
  by_cases e : a = c <;> simp [e]
theorem eqV_ints (i j : Int) : eqV (.int i) (.int j) = decide (i = j) := by
  show (i == j) = _
  by_cases e : i = j <;> simp [e]
/-- two tuples (text, number) -/
theorem eqAt_pr {A : Around} (I : Inv X pins σ H s) (hu : A.units + 1 < cLine) {a c : Addr} {z z' : Str} {n n' : Int} (h1 : SqT X.K H a [.str z, .int n]) (h2 : SqT X.K H c [.str z', .int n']) :
    SeqAt.EqAt A s (.ref a) (.ref c) (decide (z = z') && decide (n = n')) := by
  by_cases e : a = c
  · subst e
    have := I.tuple_inj h1 h2
    simp only [List.cons.injEq, V.str.injEq, V.int.injEq, and_true] at this
    obtain ⟨rfl, rfl⟩ := this
    simp only [decide_true, Bool.and_self]
    exact SeqAt.EqAt.same _
  · obtain ⟨its, r1, t1, _⟩ := I.tuple h1
    obtain ⟨its2, r2, t2, _⟩ := I.tuple h2
    obtain ⟨u1, u2, rfl, q1, q2⟩ := vals2 r1
    obtain ⟨w1, w2, rfl, q3, q4⟩ := vals2 r2
    refine SeqAt.EqAt.of_refs e ?_
    have key := SeqAt.RcAt.tuples (A := A) (s := s) (e := fun j => if j = 0 then decide (z = z') else decide (n = n')) t1 t2 (by omega) (fun j h1 h2 => ?_)
    · simpa [List.range_succ] using key
    · have hj : j = 0 ∨ j = 1 := by simp at h1; omega
      rcases hj with rfl | rfl
      · have := eqAt_V (A := A.in1) (s := s) q1 q3 rfl rfl
        rw [eqV_strs] at this
        simpa using this
      · have := eqAt_V (A := A.in1) (s := s) q2 q4 rfl rfl
        rw [eqV_ints] at this
        simpa using this
def rEqPr (K : PySem.W.Frag) : R2 := fun x y H Q => ∃ a c z n z' n', x = .ref a ∧ y = .ref c ∧ SqT K H a [.str z, .int n] ∧ SqT K H c [.str z', .int n'] ∧ Q (.bl (decide (z = z') && decide (n = n'))) H
end
section
variable {X : Cx}
theorem op_eqPr (hu : X.A.units + 1 < cLine) : OpR X (compareOp .Eq) (rEqPr X.K) := by
  intro pins s σ H x y v u Q I rx ry h
  obtain ⟨a, c, z, n, z', n', rfl, rfl, h1, h2, q⟩ := h
  cases (show v = Value.ref a from rx)
  cases (show u = Value.ref c from ry)
  obtain ⟨its, r1, t1, _⟩ := I.tuple h1
  obtain ⟨its2, r2, t2, _⟩ := I.tuple h2
  obtain ⟨u1, u2, rfl, q1, q2⟩ := vals2 r1
  obtain ⟨w1, w2, rfl, q3, q4⟩ := vals2 r2
  refine SeqAt.eq_tupleAt (e := fun j => if j = 0 then decide (z = z') else decide (n = n')) t1 t2 (by omega) (fun j h1 h2 => ?_) ?_
  · have hj : j = 0 ∨ j = 1 := by simp at h1; omega
    rcases hj with rfl | rfl
    · have := eqAt_V (A := X.A.in1) (s := s) q1 q3 rfl rfl
      rw [eqV_strs] at this
      simpa using this
    · have := eqAt_V (A := X.A.in1) (s := s) q2 q4 rfl rfl
      rw [eqV_ints] at this
      simpa using this
  · refine ⟨.bl _, H, I, ?_, q⟩
    show Value.bool _ = Value.bool _
    simp [List.range_succ]
def rEqStrs (K : PySem.W.Frag) : R2 := fun x y H Q => ∃ (a c : Addr) (as cs : List Str), x = .ref a ∧ y = .ref c ∧ SqL K H a (as.map .str) ∧ SqL K H c (cs.map .str) ∧ Q (.bl (decide (as = cs))) H
theorem all_eq : ∀ (as cs : List Str), as.length = cs.length → ((List.range as.length).all fun j => decide (as[j]? = cs[j]?)) = decide (as = cs) := by
  intro as cs hl
  by_cases e : as = cs
  · subst e; simp
  · rw [decide_eq_false e, List.all_eq_false]
    have : ∃ j, j < as.length ∧ as[j]? ≠ cs[j]? := Classical.byContradiction fun n => e (List.ext_getElem? fun i => by
      rcases Nat.lt_or_ge i as.length with h | h
      · exact Classical.byContradiction fun m => n ⟨i, h, m⟩
      · rw [List.getElem?_eq_none h, List.getElem?_eq_none (by omega)])
    obtain ⟨j, h1, h2⟩ := this
    exact ⟨j, List.mem_range.mpr h1, by simpa using h2⟩
theorem op_eqStrs (hu : X.A.units < cLine) : OpR X (compareOp .Eq) (rEqStrs X.K) := by
  intro pins s σ H x y v u Q I rx ry h
  obtain ⟨a, c, as, cs, rfl, rfl, h1, h2, q⟩ := h
  cases (show v = Value.ref a from rx)
  cases (show u = Value.ref c from ry)
  obtain ⟨its, r1, l1, _⟩ := I.list h1
  obtain ⟨its2, r2, l2, _⟩ := I.list h2
  have e1 := r1.length
  have e2 := r2.length
  rw [List.length_map] at e1 e2
  by_cases hl : as.length = cs.length
  · refine SeqAt.eq_listAt (e := fun j => decide (as[j]? = cs[j]?)) l1.isList l2.isList (by simp; omega) hu (fun j h1 h2 => ?_) ?_
    · have j1 : j < its.length := by simpa using h1
      have j2 : j < its2.length := by simpa using h2
      have g1 : as[j]? = some as[j] := List.getElem?_eq_getElem (by omega)
      have g2 : cs[j]? = some cs[j] := List.getElem?_eq_getElem (by omega)
      obtain ⟨u1, p1, q1⟩ := r1.get (i := j) (x := .str as[j]) (by rw [List.getElem?_map, g1]; rfl)
      obtain ⟨u2, p2, q2⟩ := r2.get (i := j) (x := .str cs[j]) (by rw [List.getElem?_map, g2]; rfl)
      have := eqAt_V (A := X.A.in1) (s := s) q1 q2 rfl rfl
      rw [eqV_strs] at this
      rw [List.getElem?_eq_getElem j1] at p1
      rw [List.getElem?_eq_getElem j2] at p2
      cases p1; cases p2
      simp only [g1, g2, Option.some.injEq]
      exact this
    · refine ⟨.bl _, H, I, ?_, q⟩
      show Value.bool _ = Value.bool _
      have : (List.map V.str as).length = its.length := by simpa using e1
      simp only [List.size_toArray, ← e1]
      rw [all_eq as cs hl]
  · refine SeqAt.eq_list_lengthsAt l1.isList l2.isList (by simp; omega) hu ⟨.bl _, H, I, ?_, q⟩
    show Value.bool _ = Value.bool _
    rw [decide_eq_false (fun e => hl (by rw [e]))]
/-- a pair in a list of pairs -/
def rInPr (neg : Bool) (K : PySem.W.Frag) : R2 := fun x y H Q => ∃ (a c : Addr) (p : Pr) (ps : List Pr) (xs : List V), x = .ref a ∧ y = .ref c ∧ SqT K H a [.str p.1, .int p.2] ∧ SqL K H c xs ∧
  Paired (fun x p => ∃ a, x = V.ref a ∧ SqT K H a [.str p.1, .int p.2]) xs ps ∧ Q (.bl (if neg then !decide (p ∈ ps) else decide (p ∈ ps))) H
theorem prEq (p q : Pr) : (decide (p.1 = q.1) && decide ((p.2 : Int) = q.2)) = decide (p = q) := by
  obtain ⟨a, i⟩ := p
  obtain ⟨c, j⟩ := q
  by_cases e : a = c
  · by_cases e2 : i = j
    · simp [e, e2]
    · have : ¬ (i : Int) = j := by omega
      simp [e, e2, this]
  · simp [e]
open Classical in
theorem in_run {pins : List (Addr × Obj)} {σ : L2.St} {H : Hp} {s : Shared} (I : Inv X pins σ H s) (hu : X.A.units + 2 < cLine) {a : Addr} {p : Pr} (h1 : SqT X.K H a [.str p.1, .int p.2]) : ∀ {xs : List V} {us : List Value} {ps : List Pr}, Vals xs us →
    Paired (fun x p => ∃ a, x = V.ref a ∧ SqT X.K H a [.str p.1, .int p.2]) xs ps →
    (∀ u ∈ us, SeqAt.EqAt X.A.in1 s u (.ref a) ((fun u : Value => match u with | .ref c => decide (SqT X.K H c [.str p.1, .int p.2]) | _ => false) u)) ∧
      us.any (fun u : Value => match u with | .ref c => decide (SqT X.K H c [.str p.1, .int p.2]) | _ => false) = decide (p ∈ ps)
  | _, _, _, .nil, .nil => ⟨fun u hu => (by cases hu), (by simp)⟩
  | _, _, _, .cons r1 t1, .cons (b := q) r2 t2 => by
    obtain ⟨ih1, ih2⟩ := in_run I hu h1 t1 t2
    obtain ⟨c, rfl, hc⟩ := r2
    cases (show _ = Value.ref c from r1)
    have key : (decide (q.1 = p.1) && decide ((q.2 : Int) = p.2)) = decide (SqT X.K H c [.str p.1, .int p.2]) := by
      rw [prEq]
      by_cases e : q = p
      · subst e; rw [decide_eq_true rfl, decide_eq_true hc]
      · rw [decide_eq_false e, decide_eq_false]
        intro h
        have := I.tuple_inj hc h
        simp only [List.cons.injEq, V.str.injEq, V.int.injEq, and_true] at this
        exact e (Prod.ext this.1 (by have := this.2; omega))
    refine ⟨fun u hm => ?_, ?_⟩
    · rcases List.mem_cons.mp hm with rfl | hm
      · have := eqAt_pr (A := X.A.in1) I (by show X.A.units + 1 + 1 < cLine; exact hu) hc h1
        rw [key] at this
        exact this
      · exact ih1 u hm
    · rw [List.any_cons, ih2]
      show (decide (SqT X.K H c [.str p.1, .int p.2]) || decide (p ∈ _)) = _
      rw [← key, prEq]
      by_cases e : q = p
      · subst e; simp
      · have e' : ¬ p = q := fun z => e z.symm
        simp [e, e']
theorem op_inPr (hu : X.A.units + 2 < cLine) : OpR X (compareOp .In) (rInPr false X.K) := by
  intro pins s σ H x y v u Q I rx ry h
  obtain ⟨a, c, p, ps, xs, rfl, rfl, h1, h2, h3, q⟩ := h
  cases (show v = Value.ref a from rx)
  cases (show u = Value.ref c from ry)
  obtain ⟨its, r, l, _⟩ := I.list h2
  obtain ⟨k1, k2⟩ := in_run I hu h1 r h3
  refine SeqAt.in_listAt _ l.isList (fun y hy => k1 y (by simpa using hy)) ⟨.bl _, H, I, ?_, q⟩
  show Value.bool _ = Value.bool _
  rw [← k2]
  simp
theorem op_notInPr (hu : X.A.units + 2 < cLine) : OpR X (compareOp .NotIn) (rInPr true X.K) := by
  intro pins s σ H x y v u Q I rx ry h
  obtain ⟨a, c, p, ps, xs, rfl, rfl, h1, h2, h3, q⟩ := h
  cases (show v = Value.ref a from rx)
  cases (show u = Value.ref c from ry)
  obtain ⟨its, r, l, _⟩ := I.list h2
  obtain ⟨k1, k2⟩ := in_run I hu h1 r h3
  refine SeqAt.notIn_listAt _ l.isList (fun y hy => k1 y (by simpa using hy)) ⟨.bl _, H, I, ?_, q⟩
  show Value.bool _ = Value.bool _
  rw [if_pos rfl, ← k2]
  simp
end

/-! ### by D's -/
section
variable {b : Bx} {ρ : Ro} {ta tb tc te tx : TE} {t u : TT} {x y z d : D} {ds es zs : List D} {r : R2} {K : PySem.W.Frag}
theorem rd_nil {neg : Bool} : RD b (rNil neg K) (.lst ds) (.lst []) (.bl (if neg then !ds.isEmpty else ds.isEmpty)) := fun G H u v l s r1 r2 Q q => by
  obtain ⟨a, xs, rfl, h2, h3⟩ := r1
  obtain ⟨a', ys, rfl, h2', h3'⟩ := r2
  cases h3'
  refine ⟨a, a', xs, rfl, rfl, SqL.of (s _ _ h2), SqL.of (s _ _ h2'), ?_⟩
  have e : xs.isEmpty = ds.isEmpty := by
    have := h3.length
    cases ds with
    | nil => cases h3; rfl
    | cons => obtain ⟨v, r, rfl, _⟩ := h3; rfl
  rw [e]
  exact q _ H G (.refl s) rfl
theorem rd_mulS {z : Str} {n : Int} (h : z.length ≤ 1000 ∧ -1000 ≤ n ∧ n ≤ 1000) : RD b rMulS (.str z) (.int n) (.str (Txt.mul z n)) := fun G H u v l s r1 r2 Q q => ⟨z, n, r1, r2, h, q _ H G (.refl s) rfl⟩
theorem ev_inKd {S : List Str} {z : Str} (hk : Ev b ta ρ (.str z)) (hz : z ∈ S) : Ev b (tInK S ta) ρ (.bl true) := fun σ G H l E s Q q =>
  hk σ G H l E s _ fun v H1 G1 g1 r1 => ⟨z, r1, hz, q _ H1 G1 g1 rfl⟩
theorem ev_inKT {ns : List Int} {i : Int} (hk : Ev b ta ρ (.int i)) : Ev b (tInKT ns ta) ρ (.bl (decide (i ∈ ns))) := fun σ G H l E s Q q =>
  hk σ G H l E s _ fun v H1 G1 g1 r1 => ⟨i, r1, q _ H1 G1 g1 rfl⟩
/-! pairs and lists of texts, compared -/
theorem rd_eqPr {p q : Pr} : RD b (rEqPr K) (pD p) (pD q) (.bl (decide (p = q))) := fun G H u v l s r1 r2 Q k => by
  obtain ⟨a, rfl, h1⟩ := rep_pD r1
  obtain ⟨c, rfl, h2⟩ := rep_pD r2
  refine ⟨a, c, p.1, p.2, q.1, q.2, rfl, rfl, SqT.of (s _ _ h1), SqT.of (s _ _ h2), ?_⟩
  rw [prEq]
  exact k _ H G (.refl s) rfl
theorem rd_eqStrs {as cs : List Str} : RD b (rEqStrs K) (.lst (as.map .str)) (.lst (cs.map .str)) (.bl (decide (as = cs))) := fun G H u v l s r1 r2 Q k => by
  obtain ⟨a, xs, rfl, h1, h2⟩ := r1
  obtain ⟨c, ys, rfl, h3, h4⟩ := r2
  rw [h2.strs] at h1
  rw [h4.strs] at h3
  exact ⟨a, c, as, cs, rfl, rfl, SqL.of (s _ _ h1), SqL.of (s _ _ h3), k _ H G (.refl s) rfl⟩
theorem reps_prs {G H : Hp} (s : Same G H) : ∀ {ps : List Pr} {xs : List V}, Reps G (ps.map pD) xs → Paired (fun x p => ∃ a, x = V.ref a ∧ SqT K H a [.str p.1, .int p.2]) xs ps
  | [], _, e => by cases e; exact .nil
  | p :: ps, _, e => by
    obtain ⟨v, r, rfl, h2, h3⟩ := e
    obtain ⟨a, h4, h5⟩ := rep_pD h2
    exact .cons ⟨a, h4, SqT.of (s _ _ h5)⟩ (reps_prs s h3)
theorem rd_inPr {p : Pr} {ps : List Pr} : RD b (rInPr false K) (pD p) (.lst (ps.map pD)) (.bl (decide (p ∈ ps))) := fun G H u v l s r1 r2 Q k => by
  obtain ⟨a, rfl, h1⟩ := rep_pD r1
  obtain ⟨c, xs, rfl, h3, h4⟩ := r2
  exact ⟨a, c, p, ps, xs, rfl, rfl, SqT.of (s _ _ h1), SqL.of (s _ _ h3), reps_prs s h4, k _ H G (.refl s) rfl⟩
theorem rd_ninPr {p : Pr} {ps : List Pr} : RD b (rInPr true K) (pD p) (.lst (ps.map pD)) (.bl (!decide (p ∈ ps))) := fun G H u v l s r1 r2 Q k => by
  obtain ⟨a, rfl, h1⟩ := rep_pD r1
  obtain ⟨c, xs, rfl, h3, h4⟩ := r2
  exact ⟨a, c, p, ps, xs, rfl, rfl, SqT.of (s _ _ h1), SqL.of (s _ _ h3), reps_prs s h4, k _ H G (.refl s) rfl⟩
/-! flat things in a list -/
theorem inV_strs (w : Str) : ∀ ws : List Str, inV (.str w) (ws.map V.str) = decide (w ∈ ws)
  | [] => rfl
  | y :: ys => by
    show (eqV (.str y) (.str w) || inV (.str w) (ys.map V.str)) = _
    rw [inV_strs w ys]
    by_cases e : y = w
    · simp [eqV, e]
    · have e' : ¬ w = y := fun z => e z.symm
      simp [eqV, e, e']
theorem flat_strs (ws : List Str) : (ws.map V.str).all flatV = true := by simp [flatV]
theorem rd_inS {w : Str} {ws : List Str} : RD b (rIn K false) (.str w) (.lst (ws.map .str)) (.bl (decide (w ∈ ws))) := fun G H u v l s r1 r2 Q k => by
  obtain ⟨a, ys, rfl, h2, h3⟩ := r2
  have e := h3.strs
  subst e
  cases (show u = V.str w from r1)
  exact ⟨a, _, rfl, .inl (SqL.of (s _ _ h2)), rfl, flat_strs ws, by
    show Q (.bl (inV (.str w) (ws.map V.str))) H
    rw [inV_strs]
    exact k _ H G (.refl s) rfl⟩
end
end Sh

namespace Sh
open PySem L2
def signs : List Str := ["a", "c", "g", "t"]
/-- .. and what the text itself writes -/
structure Bu (K : PySem.W.Frag) (w : World) (mg : Str → Option Value) : Prop extends Bt K mg where
  gPARTNERS : ∃ a, mg "PARTNERS" = some (.ref a) ∧ KDic K w a signs
  gSIZES : ∃ a, mg "SIZES" = some (.ref a) ∧ KTup K a [3, 5, 7, 9]
end Sh
set_option Elab.async false
set_option linter.all false
set_option maxRecDepth 100000
set_option maxHeartbeats 1000000
/-! ShK: dicts with tuple keys: walked by pairs and by values, made by a comprehension, by dict(pairs), changed by update. -/
namespace Sh
open PySem PySem.Spec PyProof.Rows L2

section
variable {X : Cx} {pins : List (Addr × Obj)} {σ : L2.St} {H : Hp} {s : Shared} {d : Addr} {o : Obj}
/-- a locked dict of tuple keys, entry by entry -/
theorem rawT {kvs : List (List Key × V)} (I : Inv X pins σ H s) (h : H d = some (.frz o (.dT kvs))) : (d == sysModules) = false ∧ s.heap.get? d = some o ∧ ∃ (es : Array DictEntry) (ep : Nat), o.data = .dict es ep ∧ s.heap.DictRaw d es ep ∧ es.size = kvs.length ∧
    ∀ (i : Nat) (k : List Key) (v : V), kvs[i]? = some (k, v) → ∃ (q : Addr) (hi : i < es.size), es[i].key = .ref q ∧ H q = some (.tup (k.map kV)) ∧ RelV v es[i].val := by
  obtain ⟨e1, ⟨hz, hsm, xs, pr, o', es, ep, e2, hx, hdt, he, _⟩⟩ := I.hok d _ h
  rw [e1] at e2
  cases e2
  have l1 : es.size = xs.length := size_of_entries he
  have l2 : kvs.length = xs.length := Paired.length pr
  refine ⟨hsm, e1, es, ep, hdt, ⟨o, e1, hx, hdt⟩, by omega, fun i k v e => ?_⟩
  obtain ⟨b, hb, b1, b2, b3⟩ := paired_get pr e
  have q := entry_at he i
  rw [hb] at q
  obtain ⟨hi, q2⟩ := Array.getElem?_eq_some_iff.mp (show es[i]? = some _ from q)
  refine ⟨b.2.1, hi, ?_, b2, ?_⟩
  · rw [q2]; rfl
  · rw [q2]; exact b3
end
/-- the pairs of the locked dict at d, each a new tuple (key's own tuple, value) -/
def ItmT (d : Addr) (o : Obj) (kvs : List (List Key × V)) : It :=
  ⟨fun i H => H d = some (.frz o (.dT kvs)) ∧ i < kvs.length, fun i H x H' => ∃ T k v q, kvs[i]? = some (k, v) ∧ H q = some (.tup (k.map kV)) ∧ x = .ref T ∧ H T = none ∧ H' = upd H T (.tup [.ref q, v]), fun i H => H d = some (.frz o (.dT kvs)) ∧ kvs.length ≤ i⟩
def ValT (d : Addr) (o : Obj) (kvs : List (List Key × V)) : It :=
  ⟨fun i H => H d = some (.frz o (.dT kvs)) ∧ i < kvs.length, fun i H x H' => H' = H ∧ ∃ k, kvs[i]? = some (k, x), fun i H => H d = some (.frz o (.dT kvs)) ∧ kvs.length ≤ i⟩
section
variable {P : Program} {w : World} {K : PySem.W.Frag} {tg : Expr} {d : Addr} {o : Obj} {es : Array DictEntry} {ep : Nat}
theorem turn_valsT {kvs : List (List Key × V)} (it : Addr) (hod : o.data = .dict es ep) : Turn P w K tg (ValT d o kvs) [it] it (fun i h => h.IsValIter it d i es.size ep) where
  mem := List.mem_singleton.mpr rfl
  obj := fun i h st b hb => by
    cases List.mem_singleton.mp hb
    obtain ⟨oi, e, c, dd⟩ := st
    exact ⟨oi, e, fun v z => by rw [dd] at z; cases z⟩
  keep := fun i h h' st k => st.at fun oi e => k it (List.mem_singleton.mpr rfl) oi e
  item := by
    intro X eP ew eK calm i pins s σ H E I hf st go
    subst eP ew eK
    obtain ⟨hd, hi⟩ := go
    obtain ⟨f0, f1, f2, f3, f4, f5⟩ := hf it (List.mem_singleton.mpr rfl)
    obtain ⟨hsm, hgd, es', ep', hdt, raw, hsz, ent⟩ := rawT I hd
    obtain ⟨rfl, rfl⟩ := dict_ep hod hdt
    have hkv := List.getElem?_eq_getElem hi
    obtain ⟨q, hi2, _, _, rv⟩ := ent i _ _ hkv
    refine wpAny_pyNext_values_item_raw st raw hi2 fun h' st' sb => ?_
    have J : Inv X pins σ H { s with heap := h' } := I.turned (t' := s.toks) (fun b ob hb e => (sb.2 b hb).trans e) f0 f1 f3 f4 f5
    obtain ⟨oi, e, c, dd⟩ := id st'
    exact ⟨_, rfl, go_of (s := { s with heap := h' }) e c dd (by decide) ⟨_, H, J, rv, ⟨rfl, _, hkv⟩, st', fun b hb => (hf b hb).1⟩⟩
  done := by
    intro X eP ew eK calm i pins s σ H E I hf st go
    subst eP ew eK
    obtain ⟨hd, hi⟩ := go
    obtain ⟨f0, f1, f2, f3, f4, f5⟩ := hf it (List.mem_singleton.mpr rfl)
    obtain ⟨hsm, hgd, es', ep', hdt, raw, hsz, ent⟩ := rawT I hd
    obtain ⟨rfl, rfl⟩ := dict_ep hod hdt
    exact wpAny_pyNext_values_end_raw (I.ok.hd calm) st raw (by omega) fun h' eb => ⟨rfl, I.turned (t' := s.toks) (fun b ob hb e => eb b ob hb e) f0 f1 f3 f4 f5⟩
  self := fun A i s Q E st h => wpAny_pyIter_valiter st h
theorem turn_itemsT {kvs : List (List Key × V)} {elts : List Expr} {kk : Nat} {tpos : Pos} (it : Addr) (hod : o.data = .dict es ep) :
    Turn P w K (.Tuple elts kk tpos) (ItmT d o kvs) [it] it (fun i h => ∃ ok ov, IsItemIter h it d i es.size ep ok ov) where
  mem := List.mem_singleton.mpr rfl
  obj := fun i h st b hb => by
    cases List.mem_singleton.mp hb
    obtain ⟨ok, ov, e⟩ := st
    exact ⟨_, e, fun v z => nomatch z⟩
  keep := fun i h h' st k => let ⟨ok, ov, e⟩ := st; ⟨ok, ov, k it (List.mem_singleton.mpr rfl) _ e⟩
  item := by
    intro X eP ew eK calm i pins s σ H E I hf st go
    subst eP ew eK
    obtain ⟨hd, hi⟩ := go
    obtain ⟨hsm, hgd, es', ep', hdt, raw, hsz, ent⟩ := rawT I hd
    obtain ⟨rfl, rfl⟩ := dict_ep hod hdt
    have hkv := List.getElem?_eq_getElem hi
    obtain ⟨q, hi2, ek, hq, rv⟩ := ent i _ _ hkv
    obtain ⟨ok, ov, he⟩ := st
    have hlt : it < s.heap.objs.size := Heap.lt_size he
    refine wpAny_pyNext_items_item_raw he raw hi2 fun h' out hT hz hk => ?_
    refine ⟨_, rfl, wpAny_letOwnedTupleGo_items (s := { s with heap := h' }) out fun h2 he2 sb => ?_⟩
    have hT2 : h2.get? s.heap.objs.size = some { cls := .type "tuple", data := .seq #[es'[i].key, es'[i].val] } := (sb.2 _ (Nat.ne_of_gt hlt)).trans hT
    have new : ObjOk X.prog X.w (upd H s.heap.objs.size (.tup [.ref q, kvs[i].2])) h2 s.heap.objs.size (.tup [.ref q, kvs[i].2]) :=
      ⟨by show 2 ≤ sizeLine; decide, [es'[i].key, es'[i].val], .cons ek (.cons rv .nil), ⟨_, hT2, rfl, _, rfl⟩⟩
    have J : Inv X pins σ (upd H s.heap.objs.size (.tup [.ref q, kvs[i].2])) { s with heap := h2 } :=
      I.turnedNew (t' := s.toks) (ch := [it]) (fun b ob hb e => (sb.2 b (fun z => hb (z ▸ List.mem_singleton.mpr rfl))).trans (hk b ob (fun z => hb (z ▸ List.mem_singleton.mpr rfl)) e)) hf (Nat.le_refl _) new
    refine ⟨.ref s.heap.objs.size, _, J, rfl, ⟨_, kvs[i].1, kvs[i].2, q, hkv, hq, rfl, I.hok.fresh (Nat.le_refl _), rfl⟩, ⟨_, _, he2⟩, fun b hb => ?_⟩
    cases List.mem_singleton.mp hb
    rw [upd_ne (Nat.ne_of_lt hlt)]
    exact (hf it (List.mem_singleton.mpr rfl)).1
  done := by
    intro X eP ew eK calm i pins s σ H E I hf st go
    subst eP ew eK
    obtain ⟨hd, hi⟩ := go
    obtain ⟨f0, f1, f2, f3, f4, f5⟩ := hf it (List.mem_singleton.mpr rfl)
    obtain ⟨hsm, hgd, es', ep', hdt, raw, hsz, ent⟩ := rawT I hd
    obtain ⟨rfl, rfl⟩ := dict_ep hod hdt
    obtain ⟨ok, ov, he⟩ := st
    exact wpAny_pyNext_items_end_raw (I.ok.hd calm) he raw (by omega) fun h' eb => ⟨rfl, I.turned (t' := s.toks) (fun b ob hb e => eb b ob hb e) f0 f1 f3 f4 f5⟩
  self := fun A i s Q E st h => let ⟨_, _, e⟩ := st; wpAny_pyIter_itemiter e h
end
def iValsT (td : TE) : TI := fun σ H R => td σ H fun x H1 => ∃ d o kvs, x = .ref d ∧ H1 d = some (.frz o (.dT kvs)) ∧ R (ValT d o kvs) H1
def iItemsT (td : TE) : TI := fun σ H R => td σ H fun x H1 => ∃ d o kvs, x = .ref d ∧ H1 d = some (.frz o (.dT kvs)) ∧ R (ItmT d o kvs) H1
section
variable {X : Cx} {tg e : Expr} {td : TE} {apos cpos : Pos}
theorem pi_valuesT (he : PE X e td) (hb1 : attributeBase e "values" X.env (eval e X.env) = eval e X.env := by rfl) (hb2 : (apos.endLine == cpos.line) = true := by rfl) : PI X tg (.Call (.Attribute e "values" apos) [] [] cpos) (iValsT td) := by
  refine ⟨fun pins s σ H R I h => ?_⟩
  refine wpAny_Call_method (T := "dict") (id := "dict.values") hb1 rfl hb2 F.plainAttrs_dict F.slot_dict_values F.type_dict_values (thn (he.run pins s σ H _ I h) fun u s1 ⟨x, H1, I1, rx, d, o, kvs, ex, hd, q⟩ => ?_)
  subst ex
  obtain rfl : u = Value.ref d := rx
  obtain ⟨hsm, hgd, es, ep, hdt, raw, hsz, ent⟩ := rawT I1 hd
  obtain ⟨od, hod, hcd, hdd⟩ := id raw
  refine ⟨raw.typeIs, fun b z => by cases z; exact ⟨od, hod, hcd.2.1⟩, ?_⟩
  have J : Inv X pins σ H1 { s1 with heap := s1.heap.push { cls := .type "dict_values", data := .fields #[.ref d] } } := I1.kept (t' := s1.toks) fun b ob q => Heap.get?_push_of_some _ q
  show wpAny _ _ (callWith cpos (.builtin "dict.values") [.ref d] [] []) _ X.xe s1
  refine method_meetsIn F.slot_dict_values F.entry_dict_values rfl (PySem.evalArgs_none ⟨rfl, raw.typeIs, F.args_dict_values_1 _, _, meets_dict_values_raw d hsm, ⟨es, ep, raw⟩, ?_⟩)
  show wpAny _ _ (pyIter (.ref s1.heap.objs.size)) _ _ _
  exact wpAny_pyIter_values_raw (s := { s1 with heap := _ }) ⟨_, Heap.get?_push_size _ rfl, rfl, rfl⟩ (raw.at fun _ e => Heap.get?_push_of_some _ e) (pi_one (tk := s1.toks) J _ (turn_valsT _ hdt) ⟨_, Heap.get?_push_size _ rfl, rfl, rfl⟩ q)
theorem pi_itemsT {elts : List Expr} {kk : Nat} {tpos : Pos} (he : PE X e td) (hb1 : attributeBase e "items" X.env (eval e X.env) = eval e X.env := by rfl) (hb2 : (apos.endLine == cpos.line) = true := by rfl) :
    PI X (.Tuple elts kk tpos) (.Call (.Attribute e "items" apos) [] [] cpos) (iItemsT td) := by
  refine ⟨fun pins s σ H R I h => ?_⟩
  refine wpAny_Call_method (T := "dict") (id := "dict.items") hb1 rfl hb2 F.plainAttrs_dict F.slot_dict_items F.type_dict_items (thn (he.run pins s σ H _ I h) fun u s1 ⟨x, H1, I1, rx, d, o, kvs, ex, hd, q⟩ => ?_)
  subst ex
  obtain rfl : u = Value.ref d := rx
  obtain ⟨hsm, hgd, es, ep, hdt, raw, hsz, ent⟩ := rawT I1 hd
  obtain ⟨od, hod, hcd, hdd⟩ := id raw
  refine ⟨raw.typeIs, fun b z => by cases z; exact ⟨od, hod, hcd.2.1⟩, ?_⟩
  have J : Inv X pins σ H1 { s1 with heap := s1.heap.push { cls := .type "dict_items", data := .fields #[.ref d] } } := I1.kept (t' := s1.toks) fun b ob q => Heap.get?_push_of_some _ q
  show wpAny _ _ (callWith cpos (.builtin "dict.items") [.ref d] [] []) _ X.xe s1
  refine method_meetsIn F.slot_dict_items F.entry_dict_items rfl (PySem.evalArgs_none ⟨rfl, raw.typeIs, F.args_dict_items_1 _, _, meets_dict_items_raw d hsm, ⟨es, ep, raw⟩, ?_⟩)
  show wpAny _ _ (pyIter (.ref s1.heap.objs.size)) _ _ _
  exact wpAny_pyIter_items_raw (s := { s1 with heap := _ }) ⟨_, Heap.get?_push_size _ rfl, rfl, rfl⟩ (raw.at fun _ e => Heap.get?_push_of_some _ e) (pi_one (tk := s1.toks) J _ (turn_itemsT _ hdt) ⟨_, _, Heap.get?_push_size _ rfl⟩ q)
end
end Sh
set_option Elab.async false
set_option linter.all false
set_option maxRecDepth 100000
set_option maxHeartbeats 1000000
/-! ShL: dict comprehensions, dict(pairs), update and list(values()) of dicts with tuple keys. -/
namespace Sh
open PySem PySem.Spec PyProof.Rows L2

/-- put one behind another -/
def mergeT (kvs more : List (List Key × V)) : List (List Key × V) := more.foldl (fun acc kv => putK acc kv.1 kv.2) kvs
theorem length_mergeT : ∀ (more kvs : List (List Key × V)), (mergeT kvs more).length ≤ kvs.length + more.length
  | [], kvs => Nat.le_refl _
  | p :: more, kvs => by
    have h1 := length_mergeT more (putK kvs p.1 p.2)
    have h2 := length_putK kvs p.1 p.2
    show (mergeT (putK kvs p.1 p.2) more).length ≤ _
    rw [List.length_cons]
    omega
section
variable {P : Program} {w : World} {H : Hp} {h : Heap} {d : Addr}
theorem kt_all {H : Hp} : ∀ {more : List (List Key × V)} {qs : List (List Key × Addr × Value)} {kvs : List (List Key × V)} {xs : List (List Key × Addr × Value)}, KT H more qs → KT H kvs xs → KT H (mergeT kvs more) (storedAllH xs qs)
  | _, _, kvs, xs, .nil, r => r
  | _, _, kvs, xs, .cons (a := p) (b := q) ⟨e1, e2, e3⟩ t, r => by
    show KT H (mergeT (putK kvs p.1 p.2) _) (storedAllH (storedH xs q.1 q.2.1 q.2.2) _)
    refine kt_all t ?_
    rw [← e1]
    exact r.put p.1 e2 e3
/-- what the layer keeps of such a dict -/
theorem dt_new {kvs : List (List Key × V)} {xs : List (List Key × Addr × Value)} (hz : kvs.length ≤ sizeLine) (low : (d == sysModules) = false) (r : KT H kvs xs) (m : h.DictOfH (tupleKind (mixKind P w)) d xs) : ObjOk P w H h d (.dT kvs) := by
  obtain ⟨o, es, ep, ho, hx, hd, he, _, hn⟩ := m
  exact ⟨hz, low, xs, r, o, es, ep, ho, hx, hd, he, hn⟩
theorem kt_len {kvs : List (List Key × V)} {xs : List (List Key × Addr × Value)} (r : KT H kvs xs) : kvs.length = xs.length := Paired.length r
theorem is_keep {ks : List Key} {a : Addr} {h h' : Heap} (x : (tupleKind (mixKind P w)).is h ks a) (k : ∀ o, h.get? a = some o → h'.get? a = some o) : (tupleKind (mixKind P w)).is h' ks a := by
  obtain ⟨o, items, n, ho, rr⟩ := (show IsTupleKey (mixKind P w) h ks a from x)
  exact (show IsTupleKey (mixKind P w) h' ks a from ⟨o, items, n, k o ho, rr⟩)
end
section
variable {X : Cx} {pins : List (Addr × Obj)} {σ : L2.St} {H : Hp} {s : Shared}
theorem new_low (I : Inv X pins σ H s) : (s.heap.objs.size == sysModules) = false := beq_eq_false_iff_ne.mpr (Nat.ne_of_gt I.big)
/-- d[k] = v by a comprehension, k a tuple -/
theorem dictSetT {E : Value → Shared → Prop} {D b : Addr} {kvs : List (List Key × V)} {k : List Key} {v : V} {r : Value} {Q : Unit → Shared → Prop} (hu : X.A.units < cLine) (I : Inv X pins σ H s) (hD : H D = some (.dT kvs)) (hz : kvs.length < sizeLine)
    (hb : H b = some (.tup (k.map kV))) (rv : RelV v r) (h : ∀ s', Inv X pins σ (upd H D (.dT (putK kvs k v))) s' → Q () s') : wpAny (model X.prog X.w) X.A (dictSet D (.ref b) r) Q E s := by
  obtain ⟨_, low, xs, rel, m⟩ := dt_of I.hok hD
  have hx : xs.length ≤ sizeLine := by rw [← kt_len rel]; omega
  have hl : (putK kvs k v).length ≤ sizeLine := by have := length_putK kvs k v; omega
  refine wpAny_dictSet_heap (hsz := hx) (show (tupleKind (mixKind X.prog X.w)).room X.A from hu) (key_of I.hok hb) m fun h' m' sb => ?_
  have he : ∃ q, h'.get? D = some q := let ⟨q, _, _, hq, _⟩ := m'; ⟨q, hq⟩
  refine h _ (d_write I (by rw [hD]; exact True.intro) sb he (dt_new hl low ((rel.put k hb rv).keeps fun c ys ec => ?_) m'))
  rw [upd_ne (ne_of ec hD (fun z => nomatch z))]
  exact ec
end
section
variable {X : Cx}
/-- {k: v for target in iter if ..}, the keys tuples -/
def tDcT (wi : TI) (g : TG) (tt : TT) (tk tv : TE) (vs : List Nat) : TE := fun σ H Q => wi σ H fun J H1 => ∀ D, H1 D = none → ∃ W : Nat → Nat → Hp → Prop, (∃ m, W 0 m (upd H1 D (.dT []))) ∧ ∀ i m H, W i m H →
  (J.stop i H ∧ Q (.ref D) H) ∨ (J.go i H ∧ ∃ Nx : Hp → Prop, (∀ H', Nx H' → ∃ m', m' < m ∧ W (i + 1) m' H') ∧ ∀ x H', J.yld i H x H' → g x (wipe σ vs) H' fun σ2 H2 => wipe σ2 vs = wipe σ vs ∧ tt σ2 H2 fun b H3 =>
    if b = true then tk σ2 H3 fun y H4 => tv σ2 H4 fun z H5 => ∃ (kvs : List (List Key × V)) (k : List Key) (c : Addr), y = .ref c ∧ H5 c = some (.tup (k.map kV)) ∧ H5 D = some (.dT kvs) ∧ kvs.length < sizeLine ∧ Nx (upd H5 D (.dT (putK kvs k z))) else Nx H3)
theorem dcT_core {pins : List (Addr × Obj)} {s : Shared} {σ : L2.St} {H : Hp} {Q : VK} {kx vx tg iter : Expr} {ifs : List Expr} {scope : Scope} {own : List (Str × Nat)} {pos pos' : Pos} {wi : TI} {g : TG} {tt : TT} {tk tv : TE} {use : Option (Value → Sem Unit)} {Qf : Value → Shared → Prop} (hu : X.A.units < cLine) (hc : X.calm = true) (hN : X.N.Nodup) (I : Inv X pins σ H s) (hi : PI X tg iter wi) (ok : BlkOk X.N X.env.scope scope own)
    (hg : ∀ (s : Shared) (H : Hp) (C : Addr) (cl : List (Str × Addr)) (fp : List Addr), PG (X.blk s H scope (compEnvC scope cl C X.env) fp) tg g) (ht : ∀ (s : Shared) (H : Hp) (C : Addr) (cl : List (Str × Addr)) (fp : List Addr), PTs (X.blk s H scope (compEnvC scope cl C X.env) fp) ifs tt)
    (hk : ∀ (s : Shared) (H : Hp) (C : Addr) (cl : List (Str × Addr)) (fp : List Addr), PE (X.blk s H scope (compEnvC scope cl C X.env) fp) kx tk)
    (hv : ∀ (s : Shared) (H : Hp) (C : Addr) (cl : List (Str × Addr)) (fp : List Addr), PE (X.blk s H scope (compEnvC scope cl C X.env) fp) vx tv) (hs : ∀ x, foldedSetIterable iter X.env x = pure x)
    (h : tDcT wi g tt tk tv (own.map (·.2)) σ H Q)
    (hRR : ∀ D C s' m H', Inv X pins σ H' s' → Q (.ref D) H' → s'.heap.Ns C m → FpOk X pins H' C → compPost (model X.prog X.w) X.A X.xe use Qf (.ref D) C (.ok .next) s') :
    wpAny (model X.prog X.w) X.A (comprehension (.DictComp kx vx [⟨tg, iter, ifs, 0⟩] scope pos) scope X.env pos' newDict false (eval iter X.env) use) Qf X.xe s := by
  have cap : ∀ y ∈ scope.names, y.2 = .free → ∃ c, X.env.cells.lookup y.1 = some c := fun y hy e => (ok.free y hy e).elim (fun z => I.ok.has _ (.inl z)) fun z => I.ok.has _ (.inr z)
  refine wpAny_comprehension_free (use := use) rfl hs (closure_ok cap) ok.kind (fun y hy e => by rw [ok.uniq y hy, e]) (thn (hi.run pins s σ H _ I h) fun xv s1 h1 => thn h1 fun iv s2 ⟨it, fp, tn, J, H2, e2, I2, T, st2, f2, q2⟩ => ?_)
  subst e2
  refine wpAny_newObj_type (newEnv_comp ?_)
  generalize eD : s2.heap.objs.size = D
  have nD : H2 D = none := I2.hok.fresh (Nat.le_of_eq eD)
  obtain ⟨W, ⟨m0, w0⟩, turn⟩ := q2 D nD
  -- the new dict is laid
  generalize e3 : ({ s2 with heap := s2.heap.push { cls := .type "dict", data := .dict #[] } } : Shared) = s3
  have heap3 : s3.heap = s2.heap.push { cls := .type "dict", data := .dict #[] } := by rw [← e3]
  have old3 : ∀ b o, s2.heap.get? b = some o → s3.heap.get? b = some o := fun b o q => by rw [heap3]; exact Heap.get?_push_of_some _ q
  generalize eH : upd H2 D (.dT []) = H3 at w0
  have I3 : Inv X pins σ H3 s3 := by
    rw [← e3, ← eH]
    refine I2.laid (t' := s2.toks) (fun b o q => Heap.get?_push_of_some _ q) (Nat.le_of_eq eD) ?_
    rw [← eD]
    exact dt_empty s2.heap I2.big
  have f3 : ∀ b ∈ fp, FpOk X pins H3 b ∧ b < s3.heap.objs.size := fun b hb => by
    obtain ⟨o, q, _⟩ := T.obj _ _ st2 b hb
    have lt2 := Heap.lt_size q
    refine ⟨⟨?_, (f2 b hb).2⟩, Heap.lt_size (old3 b o q)⟩
    rw [← eH, upd_ne (by rw [← eD]; exact Nat.ne_of_lt lt2)]
    exact (f2 b hb).1
  have st3 : tn 0 s3.heap := T.keep _ _ _ st2 fun b _ o q => old3 b o q
  have I4 := block_start I3 ok hN f3
  have gg := hg s3 H3 s3.heap.objs.size (cellsFrom (s3.heap.objs.size + 1) scope.names (cloFrom X.env.cells scope.names [])) fp
  have gt := ht s3 H3 s3.heap.objs.size (cellsFrom (s3.heap.objs.size + 1) scope.names (cloFrom X.env.cells scope.names [])) fp
  have gk := hk s3 H3 s3.heap.objs.size (cellsFrom (s3.heap.objs.size + 1) scope.names (cloFrom X.env.cells scope.names [])) fp
  have gv := hv s3 H3 s3.heap.objs.size (cellsFrom (s3.heap.objs.size + 1) scope.names (cloFrom X.env.cells scope.names [])) fp
  show codeAny _ _ (.compStart (.DictComp kx vx [⟨tg, iter, ifs, 0⟩] scope pos) 0 (.ref it) (.ref D) (compEnvC scope (cellsFrom (s3.heap.objs.size + 1) scope.names (cloFrom X.env.cells scope.names [])) s3.heap.objs.size X.env)) (compPost (model X.prog X.w) X.A X.xe use Qf (.ref D) s3.heap.objs.size) { s3 with heap := pushCells (s3.heap.push { cls := .type "dict", data := .dict #[] }) scope.names }
  generalize eE : compEnvC scope (cellsFrom (s3.heap.objs.size + 1) scope.names (cloFrom X.env.cells scope.names [])) s3.heap.objs.size X.env = blkE at I4 gg gt gk gv ⊢
  have loc : blkE.locals = s3.heap.objs.size := by rw [← eE]; rfl
  generalize e4 : ({ s3 with heap := pushCells (s3.heap.push { cls := .type "dict", data := .dict #[] }) scope.names } : Shared) = s4 at I4 ⊢
  have st4 : tn 0 s4.heap := T.keep _ _ _ st3 fun b _ o q => by rw [← e4]; exact pushCells_keeps _ _ _ _ (Heap.get?_push_of_some _ q)
  have fpk : ∀ {τ : L2.St} {H' : Hp} {s' : Shared}, Inv (X.blk s3 H3 scope blkE fp) [] τ H' s' → (∀ b ∈ fp, H' b = none) → ∀ b ∈ fp, FpOk (X.blk s3 H3 scope blkE fp) [] H' b := fun {τ H' s'} J hn b hb =>
    ⟨hn b hb, (J.ok.exf b hb).1, J.ok.exfs b hb, .inl hb, fun x c q => (J.ok.exf b hb).2 x c q, fun p hp => absurd (show p ∈ ([] : List (Addr × Obj)) ++ [] from hp) List.not_mem_nil⟩
  refine codeAny_compStart_dict (compLoop_anyD (fun n s' => ∃ i H', Inv (X.blk s3 H3 scope blkE fp) [] (wipe σ (own.map (·.2))) H' s' ∧ tn i s'.heap ∧ (∀ b ∈ fp, H' b = none) ∧ W i n H') ?_ m0 ⟨0, H3, I4, st4, fun b hb => (f3 b hb).1.1, w0⟩) (T.self X.A 0 _ _ _ st4 (compLoop_anyD (fun n s' => ∃ i H', Inv (X.blk s3 H3 scope blkE fp) [] (wipe σ (own.map (·.2))) H' s' ∧ tn i s'.heap ∧ (∀ b ∈ fp, H' b = none) ∧ W i n H') ?_ m0 ⟨0, H3, I4, st4, fun b hb => (f3 b hb).1.1, w0⟩))
  all_goals
    rintro n s5 ⟨i, H5, I5, st5, n5, w5⟩
    rcases turn i n H5 w5 with ⟨stop, fin⟩ | ⟨go, Nx, hNx, step⟩
    · refine thnF (T.done (X.blk s3 H3 scope blkE fp) rfl rfl rfl hc i [] s5 _ H5 (fun _ _ => False) I5 (fpk I5 n5) st5 stop) fun r s6 ⟨er, I6⟩ => ?_
      subst er
      have I7 : Inv X pins σ H5 s6 := I3.call' (ch := fp) I6.os I6.base I6.hok I6.bare fun b hb => ⟨(f3 b hb).1.2.2.2.1, (f3 b hb).1.2.1, (f3 b hb).1.2.2.2.2.1, (f3 b hb).1.2.2.2.2.2⟩
      have nC : H5 s3.heap.objs.size = none := by
        have z : H5 blkE.locals = none := I6.free
        rwa [loc] at z
      obtain ⟨m, hm, _⟩ := I6.loc
      have hm : s6.heap.Ns blkE.locals m := hm
      rw [loc] at hm
      exact hRR D s3.heap.objs.size s6 m H5 I7 fin hm (I3.fpOk (Nat.le_refl _) nC)
    · refine thnF (T.item (X.blk s3 H3 scope blkE fp) rfl rfl rfl hc i [] s5 _ H5 (fun _ _ => False) I5 (fpk I5 n5) st5 go) fun r s6 ⟨u, er, h6⟩ => ?_
      subst er
      refine thnF h6 fun _ s7 ⟨x, H7, I7, r7, y7, st7, n7⟩ => ?_
      refine thnF (gg.run _ s7 _ H7 x u _ (I7.pinned (fpk I7 n7) (T.obj _ _ st7)) r7 (step x H7 y7)) fun _ s8 ⟨σ8, H8, I8, hw, q8⟩ => ?_
      refine thnF (gt.run _ s8 σ8 H8 _ I8 q8) fun b s9 ⟨H9, I9, q9⟩ => ?_
      have close : ∀ {s' : Shared} {H' : Hp}, Inv (X.blk s3 H3 scope blkE fp) ([] ++ pinsAt fp s7.heap) σ8 H' s' → Nx H' → ∃ m, m < n ∧ ∃ i H', Inv (X.blk s3 H3 scope blkE fp) [] (wipe σ (own.map (·.2))) H' s' ∧ tn i s'.heap ∧ (∀ b ∈ fp, H' b = none) ∧ W i m H' := fun {s' H'} J nx => by
        obtain ⟨m', hm, w'⟩ := hNx H' nx
        have pin : ∀ b ∈ fp, ∀ o, s7.heap.get? b = some o → s'.heap.get? b = some o ∧ H' b = none := fun b hb o q => by
          have z := J.pin (b, o) (List.mem_append_right _ (List.mem_append_right _ (mem_pinsAt hb q)))
          exact ⟨z.1, z.2.1⟩
        refine ⟨m', hm, i + 1, H', (J.unpinned (pins := [])).weak (by rw [← hw, wipe_length]) (fun j v q => ?_), T.keep _ _ _ st7 fun b hb o q => (pin b hb o q).1, fun b hb => ?_, w'⟩
        · rw [← hw] at q
          exact (wipe_some q).1
        · obtain ⟨o, q, _⟩ := T.obj _ _ st7 b hb
          exact (pin b hb o q).2
      cases b with
      | false => exact close I9 q9
      | true =>
        refine thnF (gk.run _ s9 σ8 H9 _ I9 q9) fun z s10 ⟨yk, H10, I10, r10, q10⟩ => ?_
        refine thnF (gv.run _ s10 σ8 H10 _ I10 q10) fun z2 s11 ⟨yv, H11, I11, r11, kvs, k, c, ey, hc11, hD11, hz11, nx⟩ => ?_
        subst ey
        obtain rfl : z = Value.ref c := r10
        exact dictSetT (X := X.blk s3 H3 scope blkE fp) hu I11 hD11 hz11 hc11 r11 fun s12 I12 => close I12 nx
theorem pe_dcT {kx vx tg iter : Expr} {ifs : List Expr} {scope : Scope} {own : List (Str × Nat)} {pos : Pos} {wi : TI} {g : TG} {tt : TT} {tk tv : TE} (hu : X.A.units < cLine) (hc : X.calm = true) (hN : X.N.Nodup) (hi : PI X tg iter wi) (ok : BlkOk X.N X.env.scope scope own)
    (hg : ∀ (s : Shared) (H : Hp) (C : Addr) (cl : List (Str × Addr)) (fp : List Addr), PG (X.blk s H scope (compEnvC scope cl C X.env) fp) tg g) (ht : ∀ (s : Shared) (H : Hp) (C : Addr) (cl : List (Str × Addr)) (fp : List Addr), PTs (X.blk s H scope (compEnvC scope cl C X.env) fp) ifs tt)
    (hk : ∀ (s : Shared) (H : Hp) (C : Addr) (cl : List (Str × Addr)) (fp : List Addr), PE (X.blk s H scope (compEnvC scope cl C X.env) fp) kx tk)
    (hv : ∀ (s : Shared) (H : Hp) (C : Addr) (cl : List (Str × Addr)) (fp : List Addr), PE (X.blk s H scope (compEnvC scope cl C X.env) fp) vx tv) (hs : ∀ x, foldedSetIterable iter X.env x = pure x := by intro _; rfl) :
    PE X (.DictComp kx vx [⟨tg, iter, ifs, 0⟩] scope pos) (tDcT wi g tt tk tv (own.map (·.2))) := by
  refine ⟨fun pins s σ H Q I h => ?_⟩
  rw [arm_eval_DictComp]
  refine dcT_core hu hc hN I hi ok hg ht hk hv hs h fun D C s' m H' I' q hn f => ⟨m, hn, fun h'' sb => ?_⟩
  obtain ⟨f0, f1, f2, f3, f4, f5⟩ := f
  exact ⟨.ref D, H', I'.turned (t' := s'.toks) (fun b o hb e => (sb.2 b hb).trans e) f0 f1 f3 f4 f5, rfl, q⟩
/-- name = {..} on one line, the name a local -/
theorem ps_setDcT {i : Nat} {y : Str} {py spos : Pos} {kx vx tg iter : Expr} {ifs : List Expr} {scope : Scope} {own : List (Str × Nat)} {pos : Pos} {wi : TI} {g : TG} {tt : TT} {tk tv : TE} (hu : X.A.units < cLine) (hc : X.calm = true) (hN : X.N.Nodup) (hy : X.N[i]? = some y) (hyl : X.env.scope.names.lookup y = some .local) (hsw : swapsWith (.DictComp kx vx [⟨tg, iter, ifs, 0⟩] scope pos) (some (.Name y py)) spos.line X.env = pure true) (hi : PI X tg iter wi) (ok : BlkOk X.N X.env.scope scope own)
    (hg : ∀ (s : Shared) (H : Hp) (C : Addr) (cl : List (Str × Addr)) (fp : List Addr), PG (X.blk s H scope (compEnvC scope cl C X.env) fp) tg g) (ht : ∀ (s : Shared) (H : Hp) (C : Addr) (cl : List (Str × Addr)) (fp : List Addr), PTs (X.blk s H scope (compEnvC scope cl C X.env) fp) ifs tt)
    (hk : ∀ (s : Shared) (H : Hp) (C : Addr) (cl : List (Str × Addr)) (fp : List Addr), PE (X.blk s H scope (compEnvC scope cl C X.env) fp) kx tk)
    (hv : ∀ (s : Shared) (H : Hp) (C : Addr) (cl : List (Str × Addr)) (fp : List Addr), PE (X.blk s H scope (compEnvC scope cl C X.env) fp) vx tv) (hs : ∀ x, foldedSetIterable iter X.env x = pure x := by intro _; rfl) :
    PS X (.Assign [.Name y py] (.DictComp kx vx [⟨tg, iter, ifs, 0⟩] scope pos) spos) (tAsg (tDcT wi g tt tk tv (own.map (·.2))) (gName i)) := by
  refine ⟨fun pins s σ H D I h => ?_⟩
  rw [exec_Assign_Name_used _ _ _ _ hsw]
  refine wpAny_bind (wpAny_standAt (wpAny_bind ?_))
  show wpAny _ X.A (do let _ ← comprehension (.DictComp kx vx [⟨tg, iter, ifs, 0⟩] scope pos) scope X.env (firstIterPos [⟨tg, iter, ifs, 0⟩] pos) newDict false (eval iter X.env) (some (assign (.Name y py) X.env))) _ _ s
  have h : tDcT wi g tt tk tv (own.map (·.2)) σ H (fun x H1 => gName i x σ H1 D.nx) := h
  refine wpAny_bind (thn (dcT_core (Qf := fun _ s' => SP X pins D .next s') hu hc hN I hi ok hg ht hk hv hs h fun L C s' m H' I' q hn f => ?_) fun _ s' hq => wpAny_pure (wpAny_pure hq))
  show wpAny _ _ (assign (.Name y py) X.env (.ref L)) _ _ _
  refine wpAny_assign_Name (store_ok2 (v := V.ref L) I' hN hy (.inl hyl) rfl (fun s2 I2 ⟨a, sb, ha⟩ => ?_) (.inr hyl))
  obtain ⟨f0, f1, f2, f3, f4, f5⟩ := f
  have haC : C ≠ a := by
    rcases ha with z | z
    · rw [z]; exact f1
    · exact fun e => f4 y a z e.symm
  refine ⟨m, hn.sameBut sb haC, fun h3 sb3 => ?_⟩
  exact ⟨_, H', I2.turned (t' := s2.toks) (fun b o hb e => (sb3.2 b hb).trans e) f0 f1 f3 f4 f5, q⟩
/-- name = {..} on one line, the name a local -/
theorem ps_setDc {i : Nat} {y : Str} {py spos : Pos} {kx vx tg iter : Expr} {ifs : List Expr} {scope : Scope} {own : List (Str × Nat)} {pos : Pos} {wi : TI} {g : TG} {tt : TT} {tk tv : TE} (hc : X.calm = true) (hN : X.N.Nodup) (hy : X.N[i]? = some y) (hyl : X.env.scope.names.lookup y = some .local) (hsw : swapsWith (.DictComp kx vx [⟨tg, iter, ifs, 0⟩] scope pos) (some (.Name y py)) spos.line X.env = pure true) (hi : PI X tg iter wi) (ok : BlkOk X.N X.env.scope scope own)
    (hg : ∀ (s : Shared) (H : Hp) (C : Addr) (cl : List (Str × Addr)) (fp : List Addr), PG (X.blk s H scope (compEnvC scope cl C X.env) fp) tg g) (ht : ∀ (s : Shared) (H : Hp) (C : Addr) (cl : List (Str × Addr)) (fp : List Addr), PTs (X.blk s H scope (compEnvC scope cl C X.env) fp) ifs tt)
    (hk : ∀ (s : Shared) (H : Hp) (C : Addr) (cl : List (Str × Addr)) (fp : List Addr), PE (X.blk s H scope (compEnvC scope cl C X.env) fp) kx tk)
    (hv : ∀ (s : Shared) (H : Hp) (C : Addr) (cl : List (Str × Addr)) (fp : List Addr), PE (X.blk s H scope (compEnvC scope cl C X.env) fp) vx tv) (hs : ∀ x, foldedSetIterable iter X.env x = pure x := by intro _; rfl) :
    PS X (.Assign [.Name y py] (.DictComp kx vx [⟨tg, iter, ifs, 0⟩] scope pos) spos) (tAsg (tDc wi g tt tk tv (own.map (·.2))) (gName i)) := by
  refine ⟨fun pins s σ H D I h => ?_⟩
  rw [exec_Assign_Name_used _ _ _ _ hsw]
  refine wpAny_bind (wpAny_standAt (wpAny_bind ?_))
  show wpAny _ X.A (do let _ ← comprehension (.DictComp kx vx [⟨tg, iter, ifs, 0⟩] scope pos) scope X.env (firstIterPos [⟨tg, iter, ifs, 0⟩] pos) newDict false (eval iter X.env) (some (assign (.Name y py) X.env))) _ _ s
  have h : tDc wi g tt tk tv (own.map (·.2)) σ H (fun x H1 => gName i x σ H1 D.nx) := h
  refine wpAny_bind (thn (dc_core (Qf := fun _ s' => SP X pins D .next s') hc hN I hi ok hg ht hk hv hs h fun L C s' m H' I' q hn f => ?_) fun _ s' hq => wpAny_pure (wpAny_pure hq))
  show wpAny _ _ (assign (.Name y py) X.env (.ref L)) _ _ _
  refine wpAny_assign_Name (store_ok2 (v := V.ref L) I' hN hy (.inl hyl) rfl (fun s2 I2 ⟨a, sb, ha⟩ => ?_) (.inr hyl))
  obtain ⟨f0, f1, f2, f3, f4, f5⟩ := f
  have haC : C ≠ a := by
    rcases ha with z | z
    · rw [z]; exact f1
    · exact fun e => f4 y a z e.symm
  refine ⟨m, hn.sameBut sb haC, fun h3 sb3 => ?_⟩
  exact ⟨_, H', I2.turned (t' := s2.toks) (fun b o hb e => (sb3.2 b hb).trans e) f0 f1 f3 f4 f5, q⟩
theorem sw_trueD {kx vx : Expr} {gs : List Comprehension} {scope : Scope} {pos py : Pos} {y : Str} {l : Nat} {env : PySem.Env} (hk : env.scope.kind = .function) (hy : env.scope.names.lookup y = some .local) (hl : (py.line == pos.line) = true)
    (ha : (scope.names.any fun (n, k) => n == y && (k == .local || k == .cell)) = false) : swapsWith (.DictComp kx vx gs scope pos) (some (.Name y py)) l env = pure true := by
  have ky : env.kindOf y = some .local := hy
  have hb : env.blockKind = .function := by unfold Env.blockKind; rw [hk]; rfl
  unfold swapsWith
  simp only [hb, ky, ha, Expr.pos, hl]
  rfl
end
end Sh
set_option Elab.async false
set_option linter.all false
set_option maxRecDepth 100000
set_option maxHeartbeats 1000000
/-! ShM: dict(pairs), update and list(values()) of dicts with tuple keys. -/
namespace Sh
open PySem PySem.Spec PyProof.Rows L2

section
variable {X : Cx}
theorem refs_vals : ∀ {ps : List Addr} {us : List Value}, Vals (ps.map V.ref) us → us = ps.map Value.ref
  | [], _, .nil => rfl
  | p :: ps, _, .cons h t => by
    rw [refs_vals t, show _ = Value.ref p from h]
    rfl
/-- the pairs of a list: (key tuple, value) -/
def PrT (K : PySem.W.Frag) (H : Hp) (p : Addr) (kv : List Key × V) : Prop := ∃ b, SqT K H p [.ref b, kv.2] ∧ H b = some (.tup (kv.1.map kV))
theorem prt_of {pins : List (Addr × Obj)} {σ : L2.St} {H : Hp} {s : Shared} (I : Inv X pins σ H s) : ∀ {ps : List Addr} {kvs : List (List Key × V)}, Paired (PrT X.K H) ps kvs →
    ∃ xs : List (List Key × Addr × Value), KT H kvs xs ∧ xs.length = ps.length ∧ ∀ (j : Nat) (q : List Key × Addr × Value), xs[j]? = some q → ∃ p, ps[j]? = some p ∧ PairAt s.heap p (.ref q.2.1) q.2.2
  | _, _, .nil => ⟨[], .nil, rfl, fun j q e => by simp at e⟩
  | _, _, .cons (a := p) (b := kv) h t => by
    obtain ⟨xs, r, hl, hp⟩ := prt_of I t
    obtain ⟨b, h1, h2⟩ := h
    obtain ⟨its, rv, ht, _⟩ := I.tuple h1
    obtain ⟨u, y, ei, ru, ry⟩ := vals2 rv
    subst ei
    cases (show u = Value.ref b from ru)
    refine ⟨(kv.1, b, y) :: xs, .cons ⟨rfl, h2, ry⟩ r, by simp [hl], fun j q e => ?_⟩
    cases j with
    | zero =>
      cases e
      exact ⟨p, rfl, .inl ht⟩
    | succ j =>
      obtain ⟨p', e1, e2⟩ := hp j q (by simpa using e)
      exact ⟨p', by simpa using e1, e2⟩
theorem key_keep {P : Program} {w : World} {h h' : Heap} {ks : List Key} {a : Addr} (x : (tupleKind (mixKind P w)).is h ks a) (k : ∀ o, h.get? a = some o → h'.get? a = some o) : (tupleKind (mixKind P w)).is h' ks a := is_keep x k
def rDictPT (K : PySem.W.Frag) : List V → Hp → VK → Prop := fun xs H Q => ∃ (a : Addr) (ps : List Addr) (kvs : List (List Key × V)), xs = [.ref a] ∧ SqL K H a (ps.map V.ref) ∧ Paired (PrT K H) ps kvs ∧
    ∀ p, H p = none → Q (.ref p) (upd H p (.dT (mergeT [] kvs)))
theorem call_dictPT (hcalm : X.calm = true) (hu : X.A.units + 2 < cLine) : CallR X (.type "dict") (rDictPT X.K) := by
  intro pins s σ H xs us Q I r q
  obtain ⟨a, ps, kvs, ex, hq, hp, q⟩ := q
  subst ex
  obtain ⟨u, eu, rx⟩ := vals1 r
  subst eu
  cases rx
  obtain ⟨its, rv, pl, hz⟩ := I.list hq
  have ei := refs_vals rv
  subst ei
  rw [List.length_map] at hz
  obtain ⟨xs, rel, hl, hpr⟩ := prt_of I hp
  obtain ⟨o, n, ho, hc, hd, hdat⟩ := pl
  have hrel : ∀ x ∈ xs, ∃ ks, x.1 = ks ∧ H x.2.1 = some (.tup (ks.map kV)) := fun x hx => by
    obtain ⟨i, hi, e⟩ := List.getElem_of_mem hx
    obtain ⟨kv, e1, e2⟩ : ∃ kv, kvs[i]? = some kv ∧ (kv.1 = x.1 ∧ H x.2.1 = some (.tup (kv.1.map kV)) ∧ RelV kv.2 x.2.2) := by
      have := paired_get rel (List.getElem?_eq_getElem (show i < kvs.length by rw [kt_len rel]; exact hi))
      obtain ⟨y, hy, r1, r2, r3⟩ := this
      rw [List.getElem?_eq_getElem hi, e] at hy
      cases hy
      exact ⟨_, List.getElem?_eq_getElem _, r1, r2, r3⟩
    exact ⟨_, rfl, by rw [← e2.1]; exact e2.2.1⟩
  have P := PySem.PairArg.list (prog := X.prog) (w := X.w) a (ps.map Value.ref).toArray (fun j => ps.getD j 0) (xs.map fun q => (Value.ref q.2.1, q.2.2))
  rw [List.length_map] at P
  have A1 : PairItems s.heap (ps.map Value.ref).toArray (fun j => ps.getD j 0) (xs.map fun q => (Value.ref q.2.1, q.2.2)) := by
    refine ⟨by simp [hl], fun j k v e => ?_⟩
    rw [List.getElem?_map] at e
    cases hq : xs[j]? with
    | none => rw [hq] at e; cases e
    | some q' =>
      rw [hq] at e
      cases e
      obtain ⟨p, e1, e2⟩ := hpr j q' hq
      have eD : ps.getD j 0 = p := by rw [List.getD_eq_getElem?_getD, e1]; rfl
      show (ps.map Value.ref).toArray[j]? = some (Value.ref (ps.getD j 0)) ∧ PairAt s.heap (ps.getD j 0) _ _
      rw [eD]
      exact ⟨by simp [e1], e2⟩
  have A2 : PairsHaveH (tupleKind (mixKind X.prog X.w)) xs.length (PairRel (xs.map fun q => (Value.ref q.2.1, q.2.2))) xs := by
    refine ⟨rfl, fun i key v e => ?_⟩
    rw [PairRel, List.getElem?_map] at e
    cases hq : xs[i]? with
    | none => rw [hq] at e; cases e
    | some q' =>
      rw [hq] at e
      cases e
      exact ⟨q'.1, q'.2.1, rfl, rfl⟩
  have A3 : KeysStay (tupleKind (mixKind X.prog X.w)) s.heap s.heap.objs.size [] xs := by
    intro h' k x hx
    obtain ⟨ks, e1, e2⟩ := hrel x hx
    rw [e1]
    exact is_keep (key_of I.hok e2) fun o ho => k _ o (Nat.ne_of_lt (Heap.lt_size ho)) List.not_mem_nil ho
  refine PySem.call_dict_pairsH (wr := []) (n := xs.length) (Rel := PairRel (xs.map fun q => (Value.ref q.2.1, q.2.2))) (knd := tupleKind (mixKind X.prog X.w)) (ps := xs) P
    (I.ok.hd hcalm) (show X.A.units + 2 < cLine from hu) ⟨⟨o, n, ho, hc, hd, hdat⟩, A1⟩ A2 A3 (by rw [hl]; exact hz) fun h' tk hd' k => ?_
  · have hlen : (mergeT [] kvs).length ≤ sizeLine := by
      have := length_mergeT kvs []
      rw [List.length_nil, Nat.zero_add, kt_len rel, hl] at this
      omega
    have nD : H s.heap.objs.size = none := I.hok.fresh (Nat.le_refl _)
    refine ⟨.ref s.heap.objs.size, upd H s.heap.objs.size (.dT (mergeT [] kvs)), I.laid (t' := tk) (fun b o e => k b o List.not_mem_nil e) (Nat.le_refl _) (dt_new hlen (new_low I) ((kt_all rel (.nil)).keeps fun c ys ec => ?_) hd'), rfl, q _ nD⟩
    rw [upd_ne (ne_of_none ec nD)]
    exact ec
/-- d.update(d2) -/
def rUpdT : V → List V → Hp → VK → Prop := fun x xs H Q => ∃ (a b : Addr) (kvs more : List (List Key × V)), x = .ref a ∧ xs = [.ref b] ∧ H a = some (.dT kvs) ∧ H b = some (.dT more) ∧ a ≠ b ∧ (kvs ≠ [] ∨ more.length ≤ 1) ∧ kvs.length + more.length ≤ sizeLine ∧
  Q .non (upd H a (.dT (mergeT kvs more)))
theorem kt_ne {H : Hp} {kvs : List (List Key × V)} {xs : List (List Key × Addr × Value)} (r : KT H kvs xs) (h : kvs ≠ []) : xs ≠ [] := by
  cases r with
  | nil => exact absurd rfl h
  | cons _ _ => exact fun z => nomatch z
theorem mt_updT (hu : X.A.units + 1 < cLine) : MtR X "dict.update" rUpdT := by
  intro pins s σ H x xs v us Q I rx rxs h
  obtain ⟨a, b, kvs, more, rfl, rfl, ha, hb, hab, hap, hz, q⟩ := h
  cases rx
  obtain ⟨u, rfl, ru⟩ := vals1 rxs
  cases ru
  obtain ⟨z1, low1, xs1, r1, m1⟩ := dt_of I.hok ha
  obtain ⟨z2, low2, xs2, r2, m2⟩ := dt_of I.hok hb
  refine PySem.call_update_dictH (knd := tupleKind (mixKind X.prog X.w)) (show X.A.units + 1 < cLine from hu) hab low2 m1 m2 ?_ (by rw [← kt_len r1, ← kt_len r2]; exact hz) fun h' m' _ sb => ?_
  · rcases hap with h | h
    · exact .inl (kt_ne r1 h)
    · refine .inr ⟨fun x hx => ?_, ?_⟩
      · obtain ⟨_, _, _, _, _, _, _, his, _⟩ := id m2
        have k := his x hx
        obtain ⟨ob, items, n, ho, hc, _⟩ := (show IsTupleKey (mixKind X.prog X.w) s.heap x.1 x.2.1 from k)
        exact ⟨ob, ho, hc⟩
      · rw [kt_len r2] at h
        match xs2, h with
        | [], _ => simp
        | [x], _ => simp
        | x :: y :: l, h => simp at h
  · have hl : (mergeT kvs more).length ≤ sizeLine := Nat.le_trans (length_mergeT more kvs) hz
    have he : ∃ q, h'.get? a = some q := let ⟨q, _, _, hq, _⟩ := m'; ⟨q, hq⟩
    refine ⟨.non, _, d_write I (by rw [ha]; exact True.intro) sb he (dt_new hl low1 ((kt_all r2 r1).keeps fun c ys ec => ?_) m'), rfl, q⟩
    rw [upd_ne (ne_of ec ha (fun z => nomatch z))]
    exact ec
/-- the view d.values() at p -/
def valuesO (p d : Addr) : HO := .ext fun h => h.IsValuesView p d
theorem valuesO_ok {P : Program} {w : World} {H : Hp} {h : Heap} {p d : Addr} (e : h.get? p = some { cls := .type "dict_values", data := .fields #[.ref d] }) : ObjOk P w H h p (valuesO p d) :=
  ⟨⟨_, e, rfl, rfl⟩, ⟨_, e⟩, fun h1 h2 x k => let ⟨o, ho, r⟩ := x; ⟨o, k o ho, r⟩⟩
def rValuesT : V → List V → Hp → VK → Prop := fun x xs H Q => ∃ (a : Addr) (kvs : List (List Key × V)), x = .ref a ∧ xs = [] ∧ H a = some (.dT kvs) ∧ ∀ p, H p = none → Q (.ref p) (upd H p (valuesO p a))
theorem mt_valuesT : MtR X "dict.values" rValuesT := by
  intro pins s σ H x xs v us Q I rx rxs h
  obtain ⟨a, kvs, rfl, rfl, ha, q⟩ := h
  cases rx
  cases rxs
  obtain ⟨z, hd, xs', rel, o, es, ep, ho, hx, hdat, _⟩ := dt_of I.hok ha
  refine call_meetsIn PySem.F.slot_dict_values ⟨o, ho, hx.1⟩ PySem.F.entry_dict_values (PySem.F.args_dict_values_1 _) (meets_dict_values_raw a hd) ⟨⟨es, ep, o, ho, hx, hdat⟩, ?_⟩
  have hf : H s.heap.objs.size = none := I.hok.fresh (Nat.le_refl _)
  exact ⟨.ref s.heap.objs.size, upd H s.heap.objs.size (valuesO s.heap.objs.size a), I.laid (t' := s.toks) (fun b u e => Heap.get?_push_of_some _ e) (Nat.le_refl _) (valuesO_ok (Heap.get?_push_size _ rfl)), rfl, q _ hf⟩
def rListVals : List V → Hp → VK → Prop := fun xs H Q => ∃ (p a : Addr) (kvs : List (List Key × V)), xs = [.ref p] ∧ H p = some (valuesO p a) ∧ H a = some (.dT kvs) ∧ ∀ q, H q = none → Q (.ref q) (upd H q (.lst (kvs.map (·.2))))
theorem call_listVals (hc : X.calm = true) : CallR X (.type "list") rListVals := by
  intro pins s σ H xs us Q I r h
  obtain ⟨p, a, kvs, e, hp, ha, q⟩ := h
  subst e
  obtain ⟨u, eu, rx⟩ := vals1 r
  subst eu
  obtain rfl : u = Value.ref p := rx
  obtain ⟨z, lo, xs', rel, o, es, ep, ho, hx, hdat, he, _⟩ := dt_of I.hok ha
  have view : s.heap.IsValuesView p a := (show ObjOk X.prog X.w H s.heap p (valuesO p a) from I.hok p _ hp).1
  have hl : kvs.length = es.size := by rw [kt_len rel, size_of_entries he]
  refine PySem.W.kdl_call (PySem.KdlSrc.rawValues (es := es) (ep := ep)) (I.ok.hd hc) ⟨view, ⟨o, ho, hx, hdat⟩⟩ (by rw [← hl]; exact z) fun h' tk acc' c' hkeep hS hacc => ?_
  refine ⟨.ref s.heap.objs.size, upd H s.heap.objs.size (.lst (kvs.map (·.2))), I.laid hkeep (Nat.le_refl _) (show ObjOk X.prog X.w _ _ _ (.lst (kvs.map (·.2))) from ⟨by rw [List.length_map]; exact z, acc'.toList, c', ?_, ?_⟩), rfl, q _ (I.hok.fresh (Nat.le_refl _))⟩
  · have el : acc'.toList.length = acc'.size := by simp
    refine vals_of_at (by rw [List.length_map, el, hacc.1, hl]) fun j x w h1 h2 => ?_
    obtain ⟨hi, ew⟩ := hacc.2 j w (by rw [← Array.getElem?_toList]; exact h2)
    have hj : j < kvs.length := by omega
    rw [List.getElem?_map, List.getElem?_eq_getElem hj] at h1
    cases h1
    obtain ⟨b, hb, b1, b2, b3⟩ := paired_get rel (List.getElem?_eq_getElem hj)
    have q := entry_at he j
    rw [hb] at q
    obtain ⟨hi2, q2⟩ := Array.getElem?_eq_some_iff.mp (show es[j]? = some _ from q)
    rw [ew, q2]
    exact b3
  · rw [Array.toArray_toList]; exact hS
end
end Sh
set_option Elab.async false
set_option linter.all false
set_option maxRecDepth 100000
set_option maxHeartbeats 1000000
/-! ShS: sets of tuples (text, number), by their tables: a new member put in, a member found. -/
namespace Sh
open PySem PySem.Spec PyProof.Rows L2

/-! ### the masks that come -/
def MaskG (m : Nat) : Prop := MaskOk m ∨ m = 15 ∨ m = 63
theorem lcg_meet15 : ((List.range 16).all fun j => (List.range 16).any fun b => lcgN 15 b == j) = true := by decide +kernel
theorem lcg_meet63 : ((List.range 64).all fun j => (List.range 64).any fun b => lcgN 63 b == j) = true := by decide +kernel
theorem lcg_turn {m : Nat} (r : lcgN m (m + 1) = 0) : ∀ k, lcgN m (m + 1 + k) = lcgN m k := by
  intro k
  induction k with
  | zero => exact r
  | succ k ih => exact congrArg (fun x => (x * 5 + 1) % (m + 1)) ih
theorem lcg_any {m : Nat} (a : ((List.range (m + 1)).all fun j => (List.range (m + 1)).any fun b => lcgN m b == j) = true) (r : lcgN m (m + 1) = 0) {i j : Nat} (hi : i ≤ m) (hj : j ≤ m) : ∃ k, k ≤ m ∧ lcgI m i k = j := by
  have f : ∀ j, j ≤ m → ∃ b, b ≤ m ∧ lcgN m b = j := fun j hj => by
    obtain ⟨b, hb, e⟩ := List.any_eq_true.mp (List.all_eq_true.mp a j (List.mem_range.mpr (by omega)))
    exact ⟨b, by have := List.mem_range.mp hb; omega, by simpa using e⟩
  obtain ⟨x, hx, rfl⟩ := f i hi
  obtain ⟨y, hy, rfl⟩ := f j hj
  by_cases c : x ≤ y
  · exact ⟨y - x, by omega, by rw [lcgN_add]; congr 1; omega⟩
  · refine ⟨y + (m + 1) - x, by omega, ?_⟩
    rw [lcgN_add, show x + (y + (m + 1) - x) = m + 1 + y by omega, lcg_turn r]
theorem lcg_G {m : Nat} (hm : MaskG m) {i j : Nat} (hi : i ≤ m) (hj : j ≤ m) : ∃ k, k ≤ m ∧ lcgI m i k = j := by
  rcases hm with hm | rfl | rfl
  · exact lcgI_all hm hi hj
  · exact lcg_any lcg_meet15 (by decide +kernel) hi hj
  · exact lcg_any lcg_meet63 (by decide +kernel) hi hj
theorem way_meets {m : Nat} (hm : MaskG m) (h : Int) {j : Nat} (hj : j ≤ m) : ∃ k, k < 10 * SetTable.turns m ∧ way m h k = j := by
  obtain ⟨q, hq, e⟩ := lcg_G hm (runI_le m (SetTable.bits h) 12) hj
  obtain ⟨k, hk, e2⟩ := run_nth m (SetTable.bits h) (12 + q)
  refine ⟨k, by unfold SetTable.turns; omega, ?_⟩
  show (nth m _ k).j = j
  rw [e2]
  show runI m _ (12 + q) = j
  rw [runI_tail (bits_lt h), e]
theorem way_bd {m : Nat} (h : Int) (k : Nat) : way m h k ≤ m := by
  have := nth_in (m := m) k (runAt m (SetTable.bits h % (m + 1)) (SetTable.bits h)) (by
    have hb : SetTable.bits h % (m + 1) ≤ m := Nat.le_of_lt_succ (Nat.mod_lt _ (Nat.succ_pos _))
    have := runEnd_bd hb
    show SetTable.bits h % (m + 1) + (SetTable.runEnd m _ - _) ≤ m
    omega)
  exact Nat.le_trans (Nat.le_add_right _ _) this
theorem mask_gw {m : Nat} (h : MaskG m) : m % 2 = 1 := by
  rcases h with h | rfl | rfl
  · exact mask_odd h
  · rfl
  · rfl
theorem mask_le {m : Nat} (h : MaskG m) : m ≤ 127 := by
  rcases h with (rfl | rfl | rfl) | rfl | rfl <;> decide
/-- a table whose slots are found again by their hashes -/
structure TabG (t : SetTable) (hs : List Int) : Prop where
  ris : Ris t.place.toList
  dm : t.dummies = #[]
  sz : t.place.size = hs.length
  mok : MaskG t.mask
  bd : ∀ x ∈ t.place.toList, x ≤ t.mask
  reach : ∀ (i : Nat) (h : Int) (j : Nat), hs[i]? = some h → t.place.toList[i]? = some j → ∃ k, way t.mask h k = j ∧ ∀ k', k' < k → way t.mask h k' ∈ t.place.toList
theorem TabG.of {t : SetTable} {hs : List Int} (T : TabOk t hs) : TabG t hs := ⟨T.ris, T.dm, T.sz, .inl T.mok, T.bd, T.reach⟩
theorem TabG.gap {t : SetTable} {hs : List Int} (T : TabG t hs) (hl : hs.length ≤ t.mask) (h : Int) : ∃ K, K < 10 * SetTable.turns t.mask ∧ way t.mask h K ∉ t.place.toList ∧ ∀ k, k < K → way t.mask h k ∈ t.place.toList := by
  obtain ⟨j, hj, hn⟩ := st_missing t.place.toList (t.mask + 1) (by rw [Array.length_toList, T.sz]; omega)
  obtain ⟨k, hk, e⟩ := way_meets T.mok h (Nat.le_of_lt_succ hj)
  obtain ⟨K, h1, h2, h3⟩ := st_least (p := fun k => way t.mask h k ∉ t.place.toList) k (by show way t.mask h k ∉ _; rw [e]; exact hn)
  exact ⟨K, Nat.lt_of_le_of_lt h1 hk, h2, fun k' hk' => Classical.byContradiction fun c => h3 k' hk' c⟩
theorem TabG.early {t : SetTable} {hs : List Int} (T : TabG t hs) {h : Int} {K i j : Nat} (hK : way t.mask h K ∉ t.place.toList) (hi : hs[i]? = some h) (hj : t.place.toList[i]? = some j) : ∃ k, k < K ∧ way t.mask h k = j := by
  obtain ⟨k, e, hb⟩ := T.reach i h j hi hj
  refine ⟨k, Classical.byContradiction fun c => ?_, e⟩
  by_cases d : k = K
  · subst d; rw [e] at hK; exact hK (List.mem_of_getElem? hj)
  · exact hK (hb K (by omega))
theorem TabG.ins {t : SetTable} {hs : List Int} (T : TabG t hs) {h : Int} {K : Nat} (hK : way t.mask h K ∉ t.place.toList) (hb : ∀ k, k < K → way t.mask h k ∈ t.place.toList) :
    ∃ p, p = SetTable.below t.place (way t.mask h K) ∧ p ≤ hs.length ∧ TabG (t.put (way t.mask h K)).1 (hs.take p ++ h :: hs.drop p) := by
  refine ⟨_, rfl, ?_, ?_⟩
  · have := (below_cut T.ris (way t.mask h K)).1
    rw [T.sz] at this; exact this
  · have c1 : SetTable.below t.place (way t.mask h K) ≤ hs.length := by have := (below_cut T.ris (way t.mask h K)).1; rw [T.sz] at this; exact this
    have c2 : SetTable.below t.place (way t.mask h K) ≤ t.place.toList.length := by rw [Array.length_toList, T.sz]; exact c1
    have hpp := put_place t (way t.mask h K)
    have grow : ∀ {x : Nat}, x ∈ t.place.toList → x ∈ (t.put (way t.mask h K)).1.place.toList := fun {x} hx => by rw [hpp]; exact mem_ins.2 (.inr hx)
    refine { ris := ris_insert T.ris fun e => hK (List.mem_of_getElem? (by rw [Array.getElem?_toList]; exact e)), dm := put_dm T.dm _, sz := ?_, mok := T.mok, bd := fun x hx => ?_, reach := fun i g j h1 h2 => ?_ }
    · rw [← Array.length_toList, hpp, len_ins _ c2, len_ins _ c1, Array.length_toList, T.sz]
    · rw [hpp] at hx
      rcases mem_ins.1 hx with rfl | hx
      · exact way_bd h K
      · exact T.bd x hx
    · rw [tins_get _ c1] at h1
      rw [hpp, tins_get _ c2] at h2
      show ∃ k, way t.mask g k = j ∧ _
      split at h1
      · rename_i c
        rw [if_pos c] at h2
        obtain ⟨k, e, z⟩ := T.reach i g j h1 h2
        exact ⟨k, e, fun q hq => grow (z q hq)⟩
      · rename_i c
        rw [if_neg c] at h2
        split at h1
        · rename_i d
          rw [if_pos d] at h2
          cases h1; cases h2
          exact ⟨K, rfl, fun q hq => grow (hb q hq)⟩
        · rename_i d
          rw [if_neg d] at h2
          obtain ⟨k, e, z⟩ := T.reach (i - 1) g j h1 h2
          exact ⟨k, e, fun q hq => grow (z q hq)⟩
theorem nth_dummy (m : Nat) : ∀ (n : Nat) (p : SetTable.Probe), p.dummy = none → (nth m p n).dummy = none
  | 0, _, h => h
  | n + 1, p, h => nth_dummy m n (adv m p) (by unfold adv; split <;> exact h)

/-! ### tuples of texts and numbers -/
abbrev MT (P : Program) (w : World) (h : Heap) (k : List Key) (a : Addr) : Prop := IsTupleKey (mixKind P w) h k a
abbrev mhash (P : Program) (w : World) (k : List Key) : Int := tupleKeyHash (mixKind P w) k
section
variable {P : Program} {w : World} {A : Around} {E : Value → Shared → Prop} {s : Shared}
theorem flat_not_class {v : Value} (h : carriedByValue v = true) (n : Nat) : ofAClassStatement n v = pure false := by
  cases v with
  | ref a => cases h
  | _ => cases n <;> rfl
theorem noClass {k : List Key} {b : Addr} {Q : Bool → Shared → Prop} (hk : MT P w s.heap k b) (h : Q false s) : wpAny (model P w) A (ofAClassStatement 8 (.ref b)) Q E s := by
  have hT := hk.typeIs
  obtain ⟨o, items, n, ho, _, hd, hi⟩ := hk
  unfold ofAClassStatement
  refine wpAny_bind (wpAny_typeOf hT ?_)
  dsimp only
  have e : (("tuple" : String) == "tuple") = true := by decide
  simp only [e, if_true, Bool.not_true, Bool.false_eq_true, if_false]
  try refine wpAny_bind (wpAny_pure ?_)
  try simp only [Bool.not_true, Bool.false_eq_true, if_false]
  show wpAny _ _ (seqItems? (.ref b) >>= _) _ _ s
  refine wpAny_bind (wpAny_seqItems ho hd ?_)
  dsimp only
  refine wpAny_bind ?_
  show wpAny _ _ (forIn items _ _) _ _ s
  rw [← Array.forIn_toList]
  refine wpAny_forIn_list _ (fun rest r s' => r.1 = none ∧ s' = s ∧ ∀ v ∈ rest, carriedByValue v = true) _ ?_ ?_ _ _ ⟨rfl, rfl, hi.byValue⟩
  · rintro v rest r s' ⟨hr, rfl, hall⟩
    rw [flat_not_class (hall v List.mem_cons_self)]
    refine wpAny_bind (wpAny_pure ?_)
    simp only [Bool.false_eq_true, if_false]
    exact wpAny_pure ⟨rfl, rfl, fun u hu' => hall u (List.mem_cons_of_mem _ hu')⟩
  · rintro ⟨r1, r2⟩ s' ⟨hr, rfl, _⟩
    simp only at hr
    subst hr
    exact wpAny_pure h
theorem hashBy_any {k : List Key} {b : Addr} {Q : Bool → Shared → Prop} (hk : MT P w s.heap k b) (h : ∀ c, Q c s) : wpAny (model P w) A (hashByValue 8 (.ref b)) Q E s := by
  have hT := hk.typeIs
  obtain ⟨o, items, n, ho, _, hd, hi⟩ := hk
  unfold hashByValue
  refine wpAny_bind (wpAny_specialOf hT F.slot_tuple_hash.lookup ?_)
  show wpAny _ _ (seqItems? (.ref b) >>= _) _ _ s
  refine wpAny_bind (wpAny_seqItems ho hd ?_)
  refine wpAny_bind ?_
  show wpAny _ _ (forIn items _ _) _ _ s
  rw [← Array.forIn_toList]
  refine wpAny_forIn_list _ (fun rest r s' => r.1 = none ∧ s' = s ∧ ∀ v ∈ rest, ∃ c, hashByValue 7 v = pure c) _ ?_ ?_ _ _ ⟨rfl, rfl, fun v hv => ?_⟩
  · rintro v rest r s' ⟨hr, rfl, hall⟩
    obtain ⟨c, e⟩ := hall v List.mem_cons_self
    rw [e]
    refine wpAny_bind (wpAny_pure ?_)
    cases c with
    | true =>
      simp only [Bool.not_true, Bool.false_eq_true, if_false]
      exact wpAny_pure ⟨rfl, rfl, fun u hu' => hall u (List.mem_cons_of_mem _ hu')⟩
    | false =>
      simp only [Bool.not_false, if_true]
      exact wpAny_pure (wpAny_pure (h _))
  · rintro ⟨r1, r2⟩ s' ⟨hr, rfl, _⟩
    simp only at hr
    subst hr
    exact wpAny_pure (h _)
  · have := hi.byValue v hv
    cases v with
    | ref a => cases this
    | _ => exact ⟨_, rfl⟩
theorem noShow {k : List Key} {b : Addr} {Q : Bool → Shared → Prop} (hk : MT P w s.heap k b) {ys : List Value} (hy : ∀ y ∈ ys, ∃ k' c, y = Value.ref c ∧ MT P w s.heap k' c) (h : Q false s) :
    wpAny (model P w) A (searchCouldBeSeen (.ref b) ys) Q E s := by
  unfold searchCouldBeSeen
  refine wpAny_bind ?_
  refine wpAny_forIn_list _ (fun rest r s' => r.1 = none ∧ s' = s ∧ ∀ y ∈ rest, ∃ k' c, y = Value.ref c ∧ MT P w s.heap k' c) _ ?_ ?_ _ _ ⟨rfl, rfl, hy⟩
  · rintro v rest r s' ⟨hr, rfl, hall⟩
    obtain ⟨k', c, rfl, hc⟩ := hall v List.mem_cons_self
    have rest' : ∀ y ∈ rest, ∃ k' c, y = Value.ref c ∧ MT P w s'.heap k' c := fun u hu' => hall u (List.mem_cons_of_mem _ hu')
    dsimp only
    by_cases hv : (b == c || (carriedByValue (.ref b) && carriedByValue (.ref c))) = true
    · exact wp_if_pos hv (wpAny_pure ⟨rfl, rfl, rest'⟩)
    · refine wp_if_neg hv (wpAny_bind (wpAny_eqIsQuiet_tuple hk ?_))
      simp only [Bool.not_true, Bool.false_eq_true, if_false]
      refine wpAny_bind (wpAny_eqIsQuiet_tuple hc ?_)
      simp only [Bool.not_true, Bool.false_eq_true, if_false]
      refine wpAny_bind (noClass hk ?_)
      simp only [Bool.false_eq_true, if_false]
      refine wpAny_bind (noClass hc ?_)
      simp only [Bool.false_eq_true, if_false]
      exact wpAny_pure ⟨rfl, rfl, rest'⟩
  · rintro ⟨r1, r2⟩ s' ⟨hr, rfl, _⟩
    simp only at hr
    subst hr
    exact wpAny_pure h

/-! ### the set -/
abbrev Rw := List (Addr × List Key)
def rowsM (P : Program) (w : World) (L : Rw) : List (Int × Value) := L.map fun p => (mhash P w p.2, Value.ref p.1)
/-- the set at a, as its table has it -/
structure PSet (P : Program) (w : World) (h : Heap) (a : Addr) (L : Rw) (es : Array (Int × Value)) (ep : Nat) (t : SetTable) : Prop where
  ob : ∃ o, h.get? a = some o ∧ o.ExactSet ∧ o.data = .set es ep t
  rows : es.toList = rowsM P w L
  tab : TabG t (L.map fun p => mhash P w p.2)
  nd : (L.map (·.2)).Nodup
  led : w.params.followText "set-order" = true ∨ t.led = true
  room : L.length * 5 < t.mask * 3
  few : L.length < 64
variable {a : Addr} {L : Rw} {es : Array (Int × Value)} {ep : Nat} {t : SetTable}
theorem PSet.size {h : Heap} (R : PSet P w h a L es ep t) : es.size = L.length := by
  have := congrArg List.length R.rows
  simpa [rowsM] using this
theorem PSet.fits {h : Heap} (R : PSet P w h a L es ep t) : t.fits es.size = true := by
  have h1 := R.tab.sz
  rw [List.length_map] at h1
  have h2 := R.size
  have h3 := R.room
  unfold SetTable.fits SetTable.fill
  rw [R.tab.dm, Bool.and_eq_true, beq_iff_eq, decide_eq_true_eq]
  show t.place.size = es.size ∧ t.place.size + 0 ≤ t.mask
  omega
theorem PSet.entry {h : Heap} (R : PSet P w h a L es ep t) {i : Nat} {p : Addr × List Key} (e : L[i]? = some p) : es[i]? = some (mhash P w p.2, Value.ref p.1) := by
  rw [← Array.getElem?_toList, R.rows, rowsM, List.getElem?_map, e]
  rfl
theorem PSet.slots {h : Heap} (R : PSet P w h a L es ep t) : t.place.toList.length = L.length := by
  have := R.tab.sz
  rw [List.length_map] at this
  rw [Array.length_toList, this]
/-- the search goes on from the c-th step of the way -/
theorem seek (R : PSet P w s.heap a L es ep t) (tup : ∀ p ∈ L, MT P w s.heap p.2 p.1) {x : Addr} {k : List Key} (hx : MT P w s.heap k x) (hu : A.units < cLine) (ad : Bool) (had : ad = true → k ∉ L.map (·.2)) {K : Nat} (hKf : K < 10 * SetTable.turns t.mask)
    (hK : way t.mask (mhash P w k) K ∉ t.place.toList) (hKb : ∀ c, c < K → way t.mask (mhash P w k) c ∈ t.place.toList) {Q : SetFound → Shared → Prop}
    (hin : k ∈ L.map (·.2) → ∀ i, Q (.there (some i)) s) (hout : k ∉ L.map (·.2) → Q (.free (way t.mask (mhash P w k) K) false) s) :
    ∀ (f c : Nat) (stand : Option SetTable.Probe), stand.getD (t.probeStart (mhash P w k)) = nth t.mask (runAt t.mask (SetTable.bits (mhash P w k) % (t.mask + 1)) (SetTable.bits (mhash P w k))) c → c ≤ K → K - c < f →
      (∀ (i : Nat) p, L[i]? = some p → p.2 = k → ∃ c', c ≤ c' ∧ c' < K ∧ t.place.toList[i]? = some (way t.mask (mhash P w k) c')) →
      wpAny (model P w) A (setSearchFrom a (.ref x) (mhash P w k) ad f stand) Q E s := by
  obtain ⟨o, ho, hex, hd⟩ := R.ob
  intro f
  induction f with
  | zero => intro c stand _ _ hf; exact absurd hf (Nat.not_lt_zero _)
  | succ f ih =>
    intro c stand hst hc hf hre
    rw [setSearchFrom_succ]
    refine wpAny_bind (wpAny_setState_of ho hd R.fits ?_)
    dsimp only
    refine wp_if_neg (by unfold SetTable.gaveWay; rw [mask_gw R.tab.mok]; decide) ?_
    try refine wpAny_bind (wpAny_pure ?_)
    generalize hp0 : nth t.mask (runAt t.mask (SetTable.bits (mhash P w k) % (t.mask + 1)) (SetTable.bits (mhash P w k))) c = p0 at hst
    have hnd : p0.dummy = none := by rw [← hp0]; exact nth_dummy _ c _ rfl
    have sh : ∀ q, nth t.mask p0 q = nth t.mask (runAt t.mask (SetTable.bits (mhash P w k) % (t.mask + 1)) (SetTable.bits (mhash P w k))) (c + q) := fun q => by rw [← hp0]; exact (nth_add t.mask c _ q).symm
    have ej : ∀ q, (nth t.mask p0 q).j = way t.mask (mhash P w k) (c + q) := fun q => congrArg SetTable.Probe.j (sh q)
    have spec := go_spec t R.tab.ris R.tab.dm (fun i => (es[i]?.map (·.1)).getD 0) (mhash P w k) (10 * SetTable.turns t.mask) (K - c) p0 hnd (by omega)
      (fun q hq => by rw [ej]; exact hKb (c + q) (by omega)) (by rw [ej, show c + (K - c) = K by omega]; exact hK)
    have hashAt : ∀ (i : Nat) p, L[i]? = some p → (fun i => (es[i]?.map (·.1)).getD 0) i = mhash P w p.2 := fun i p hp => by
      show (es[i]?.map (·.1)).getD 0 = _
      rw [R.entry hp]
      rfl
    rcases spec with ⟨q, i, hq, hi, hh, hno, hpr⟩ | ⟨hno, hpr⟩
    · rw [show t.probe (fun i => (es[i]?.map (·.1)).getD 0) (mhash P w k) (stand.getD (t.probeStart (mhash P w k))) = some (.candidate (nth t.mask p0 q).j i (nth t.mask p0 (q + 1))) by rw [hst]; exact hpr]
      dsimp only
      have hil : i < L.length := by rw [← R.slots]; exact (List.getElem?_eq_some_iff.mp hi).1
      obtain ⟨p, hp⟩ : ∃ p, L[i]? = some p := ⟨_, List.getElem?_eq_getElem hil⟩
      have hmem : p ∈ L := List.mem_of_getElem? hp
      have rest : wpAny (model P w) A (searchRest a (.ref x) (mhash P w k) ad f es t (nth t.mask p0 q).j i (nth t.mask p0 (q + 1))) Q E s := by
        unfold searchRest
        rw [R.entry hp]
        dsimp only
        refine wpAny_bind (wpAny_holding (wpAny_eqBool_tuple hu (tup p hmem) hx ?_))
        refine wpAny_bind (wpAny_setState_of ho hd R.fits ?_)
        dsimp only
        have hna : ¬ (ad && decide (p.2 = k)) = true := by
          cases ad with
          | false => simp
          | true =>
            have := had rfl
            simp only [Bool.true_and, decide_eq_true_eq]
            exact fun e => this (List.mem_map.mpr ⟨p, hmem, e⟩)
        refine wp_if_neg hna ?_
        try refine wpAny_bind (wpAny_pure ?_)
        rw [sameMem]
        dsimp only
        have hsl : t.slot (nth t.mask p0 q).j = .live i := slot_live R.tab.ris hi
        simp only [if_true, hsl, R.entry hp]
        refine wpAny_bind (wpAny_isSame_ref_self (wpAny_bind (wpAny_pure ?_)))
        simp only [if_true]
        by_cases hkk : p.2 = k
        · exact wp_if_pos (by simp [hkk]) (wpAny_pure (hin (List.mem_map.mpr ⟨p, hmem, hkk⟩) i))
        · refine wp_if_neg (by simp [hkk]) (ih (c + (q + 1)) _ (sh (q + 1)) (by omega) (by omega) fun i0 p1 h0 hk0 => ?_)
          obtain ⟨c', a1, a2, a3⟩ := hre i0 p1 h0 hk0
          refine ⟨c', Classical.byContradiction fun z => ?_, a2, a3⟩
          by_cases d : c' = c + q
          · subst d
            rw [← ej] at a3
            have s0 := slot_live R.tab.ris a3
            rw [hsl] at s0
            injection s0 with s0
            subst s0
            rw [hp] at h0
            cases h0
            exact hkk hk0
          · refine hno (c' - c) i0 (by omega) (by rw [ej, show c + (c' - c) = c' by omega]; exact a3) ?_
            exact (hashAt i0 p1 h0).trans (congrArg (mhash P w) hk0)
      by_cases hl : t.led = true
      · refine wp_if_neg (by simp [hl]) ?_
        try refine wpAny_bind (wpAny_pure ?_)
        exact rest
      · refine wp_if_pos (by simp [hl]) (wpAny_bind (noShow hx (fun y hy => ?_) ?_))
        · obtain ⟨e, he, rfl⟩ := List.mem_map.mp hy
          have he2 : e ∈ es.toList := by
            have : e ∈ es ∧ e.1 = mhash P w k := by simpa using he
            simpa using this.1
          rw [R.rows] at he2
          obtain ⟨p2, hp2, e2⟩ := List.mem_map.mp he2
          exact ⟨p2.2, p2.1, by rw [← e2], tup p2 hp2⟩
        · refine wp_if_neg (by decide) ?_
          try refine wpAny_bind (wpAny_pure ?_)
          exact rest
    · rw [show t.probe (fun i => (es[i]?.map (·.1)).getD 0) (mhash P w k) (stand.getD (t.probeStart (mhash P w k))) = some (.empty (way t.mask (mhash P w k) K) none) by
        rw [hst, show way t.mask (mhash P w k) K = (nth t.mask p0 (K - c)).j by rw [ej, show c + (K - c) = K by omega]]
        exact hpr]
      dsimp only
      refine wpAny_pure (hout fun hm => ?_)
      obtain ⟨p1, h0, hk0⟩ := List.mem_map.mp hm
      obtain ⟨i0, hi0, e0⟩ := List.getElem_of_mem h0
      have h00 : L[i0]? = some p1 := by rw [List.getElem?_eq_getElem hi0, e0]
      obtain ⟨c', a1, a2, a3⟩ := hre i0 p1 h00 hk0
      exact hno (c' - c) i0 (by omega) (by rw [ej, show c + (c' - c) = c' by omega]; exact a3) ((hashAt i0 p1 h00).trans (congrArg (mhash P w) hk0))
theorem seek_at (R : PSet P w s.heap a L es ep t) (tup : ∀ p ∈ L, MT P w s.heap p.2 p.1) {x : Addr} {k : List Key} (hx : MT P w s.heap k x) (hu : A.units < cLine) (ad : Bool) (had : ad = true → k ∉ L.map (·.2)) {Q : SetFound → Shared → Prop}
    (hin : k ∈ L.map (·.2) → ∀ i, Q (.there (some i)) s)
    (hout : ∀ K, k ∉ L.map (·.2) → way t.mask (mhash P w k) K ∉ t.place.toList → (∀ c, c < K → way t.mask (mhash P w k) c ∈ t.place.toList) → Q (.free (way t.mask (mhash P w k) K) false) s) :
    wpAny (model P w) A (setSearch a (.ref x) (mhash P w k) ad) Q E s := by
  have hroom := R.room
  obtain ⟨K, hKf, hK, hKb⟩ := R.tab.gap (by rw [List.length_map]; omega) (mhash P w k)
  have hbig : K < 100000 := by
    have := mask_le R.tab.mok
    unfold SetTable.turns at hKf
    omega
  unfold setSearch
  refine seek R tup hx hu ad had hKf hK hKb hin (fun hn => hout K hn hK hKb) 100000 0 none rfl (Nat.zero_le _) (by omega) fun i p hp hk => ?_
  have hi : (L.map fun p => mhash P w p.2)[i]? = some (mhash P w k) := by rw [List.getElem?_map, hp, ← hk]; rfl
  have hil : i < t.place.toList.length := by rw [R.slots]; exact (List.getElem?_eq_some_iff.mp hp).1
  have hj := List.getElem?_eq_getElem hil
  obtain ⟨c, hc, e⟩ := R.tab.early hK hi hj
  exact ⟨c, Nat.zero_le _, hc, by rw [hj, e]⟩
/-- a member is found -/
theorem find_at (R : PSet P w s.heap a L es ep t) (tup : ∀ p ∈ L, MT P w s.heap p.2 p.1) {x : Addr} {k : List Key} (hx : MT P w s.heap k x) (hu : A.units < cLine) (hm : k ∈ L.map (·.2)) {Q : Option Nat → Shared → Prop} (h : ∀ i, Q (some i) s) :
    wpAny (model P w) A (setFind a (.ref x) (mhash P w k)) Q E s := by
  obtain ⟨o, ho, hex, hd⟩ := R.ob
  unfold setFind setFindIn
  refine wpAny_bind (wpAny_setState_of ho hd R.fits ?_)
  dsimp only
  refine wp_if_neg (by simp [byScan, Value.scannable]) ?_
  try refine wpAny_bind (wpAny_pure ?_)
  refine wpAny_bind (seek_at R tup hx hu false (fun z => by cases z) (fun _ i => ?_) fun K hn => absurd hm hn)
  exact wpAny_pure (h i)
end
end Sh
set_option Elab.async false
set_option linter.all false
set_option maxRecDepth 100000
set_option maxHeartbeats 1000000
/-! ShS2: a new member put into a set of pairs; the table laid anew; room made beforehand. -/
namespace Sh
open PySem PySem.Spec PyProof.Rows L2
section
variable {P : Program} {w : World} {A : Around} {E : Value → Shared → Prop} {s : Shared}
theorem mt_same {h h' : Heap} {k : List Key} {a b : Addr} {o : Obj} {es : Array (Int × Value)} {ep : Nat} {t : SetTable} (hb : MT P w h k b) (ho : h.get? a = some o) (hd : o.data = .set es ep t) (hs : Heap.SameBut a h h') : MT P w h' k b := by
  obtain ⟨o', items, n, ho', hc, hd', hi⟩ := hb
  refine ⟨o', items, n, (hs.2 b fun e => ?_).trans ho', hc, hd', hi⟩
  subst e
  cases ho'.symm.trans ho
  rw [hd] at hd'
  cases hd'
theorem pick_all {α : Type} (L : List α) : (List.range L.length).filterMap (fun i => L[i]?) = L := by
  have key : ∀ n, n ≤ L.length → (List.range n).filterMap (fun i => L[i]?) = L.take n := by
    intro n
    induction n with
    | zero => intro _; rfl
    | succ n ih =>
      intro hn
      rw [List.range_succ, List.filterMap_append, ih (by omega), List.take_succ, List.getElem?_eq_getElem hn, List.filterMap_cons_some (List.getElem?_eq_getElem hn)]
      rfl
  have := key L.length (Nat.le_refl _)
  rwa [List.take_length] at this
theorem pick_rows (L : Rw) (es : Array (Int × Value)) (hr : es.toList = rowsM P w L) : ∀ l : List Nat, (∀ i ∈ l, i < L.length) →
    l.filterMap (fun i => es[i]?) = rowsM P w (l.filterMap fun i => L[i]?) ∧ ((l.filterMap fun i => L[i]?).map fun p => mhash P w p.2) = l.map fun i => (es.map (·.1)).getD i 0
  | [], _ => ⟨rfl, rfl⟩
  | i :: l, h => by
    have hi := h i List.mem_cons_self
    obtain ⟨e1, e2⟩ := pick_rows L es hr l fun j hj => h j (List.mem_cons_of_mem _ hj)
    have ent : es[i]? = some (mhash P w (L[i]).2, Value.ref (L[i]).1) := by
      rw [← Array.getElem?_toList, hr, rowsM, List.getElem?_map, List.getElem?_eq_getElem hi]
      rfl
    refine ⟨?_, ?_⟩
    · rw [List.filterMap_cons_some ent, List.filterMap_cons_some (List.getElem?_eq_getElem hi), e1]
      rfl
    · rw [List.filterMap_cons_some (List.getElem?_eq_getElem hi), List.map_cons, List.map_cons, e2]
      congr 1
      have e5 : (es.map (·.1))[i]? = some (mhash P w (L[i]).2) := by rw [Array.getElem?_map, ent]; rfl
      simp [Array.getD_eq_getD_getElem?, e5]
variable {a : Addr} {L : Rw} {es : Array (Int × Value)} {ep : Nat} {t : SetTable}
/-- the table laid anew, larger -/
theorem relay_to {o : Obj} (ho : s.heap.get? a = some o) (hex : o.ExactSet) (hd : o.data = .set es ep t) (hrows : es.toList = rowsM P w L) (hfits : t.fits es.size = true)
    (nd : (L.map (·.2)).Nodup) (ld : w.params.followText "set-order" = true ∨ t.led = true) (few : L.length < 64) {wanted M : Nat}
    (hw : SetTable.sizeAbove wanted - 1 = M) (hM : MaskOk M) (hw2 : SetTable.sizeAbove wanted ≤ 128) (hn : L.length * 5 < M * 3) {Q : Unit → Shared → Prop}
    (hQ : ∀ h' L' es' ep' t', Heap.SameBut a s.heap h' → PSet P w h' a L' es' ep' t' → t'.mask = M → L'.Perm L → Q () { s with heap := h' }) : wpAny (model P w) A (setRelay a wanted) Q E s := by
  have hsl : es.size = L.length := by
    have := congrArg List.length hrows
    simpa [rowsM] using this
  obtain ⟨t', order, e, hp, T, em, el, _, ed⟩ := relaid_ok t (hs := es.map (·.1)) (wanted := wanted) hw hM (by rw [Array.size_map, hsl]; omega)
  rw [Array.size_map, hsl] at hp
  obtain ⟨r1, r3⟩ := pick_rows (P := P) (w := w) L es hrows order.toList fun i hi => List.mem_range.mp (hp.mem_iff.mp hi)
  have r2 : (order.toList.filterMap fun i => L[i]?).Perm L := by
    have := hp.filterMap fun i => L[i]?
    rwa [pick_all] at this
  generalize hL2 : (order.toList.filterMap fun i => L[i]?) = L2 at r1 r2 r3
  rw [← r3] at T
  have hes2 : (order.filterMap (es[·]?)).toList = rowsM P w L2 := by rw [Array.toList_filterMap]; exact r1
  have hs2 : (order.filterMap (es[·]?)).size = es.size := by
    have := congrArg List.length hes2
    rw [Array.length_toList, rowsM, List.length_map, r2.length_eq] at this
    rw [this, hsl]
  rw [setRelay_eq]
  refine wpAny_bind (wpAny_setState_of ho hd hfits ?_)
  dsimp only
  refine wp_if_neg (by rw [sizeLine_eq]; omega) ?_
  try refine wpAny_bind (wpAny_pure ?_)
  rw [e]
  dsimp only
  refine wpAny_bind ?_
  refine wp_if_neg (by rw [hs2]; simp) ?_
  try refine wpAny_bind (wpAny_pure ?_)
  refine wpAny_pure ?_
  dsimp only
  refine wpAny_storeSet_of ho hd ?_ (by rw [hs2, hsl, sizeLine_eq]; omega)
  refine hQ _ L2 _ (ep + 1) t' (Heap.SameBut.update ..) ⟨⟨_, store_at ho hd, ⟨hex.1, hex.2.1, hex.2.2⟩, rfl⟩, hes2, .of T, (r2.map (·.2)).nodup_iff.mpr nd, by rw [el]; exact ld, ?_, by rw [r2.length_eq]; exact few⟩ em r2
  rw [r2.length_eq, em]
  exact hn
/-- a new member -/
theorem put_at (R : PSet P w s.heap a L es ep t) (tup : ∀ p ∈ L, MT P w s.heap p.2 p.1) {x : Addr} {k : List Key} (hx : MT P w s.heap k x) (hu : A.units < cLine) (hm : k ∉ L.map (·.2)) (hfew : L.length + 1 < 64) (hg : (L.length + 1) * 5 < t.mask * 3 ∨ MaskOk t.mask) {Q : Bool → Shared → Prop}
    (hQ : ∀ b h' L' es' ep' t', Heap.SameBut a s.heap h' → PSet P w h' a L' es' ep' t' → t.mask ≤ t'.mask → (MaskOk t.mask → MaskOk t'.mask) → L'.Perm ((x, k) :: L) → Q b { s with heap := h' }) :
    wpAny (model P w) A (setAddHashed a (.ref x) (mhash P w k)) Q E s := by
  obtain ⟨o, ho, hex, hd⟩ := R.ob
  have hsl := R.size
  have hroom := R.room
  unfold setAddHashed
  refine wpAny_holding ?_
  rw [show (100000 : Nat) = 99999 + 1 from rfl, setAddHashedIn_succ]
  refine wpAny_bind (wpAny_setState_of ho hd R.fits ?_)
  dsimp only
  refine wp_if_neg (by simp [byScan, Value.scannable]) ?_
  try refine wpAny_bind (wpAny_pure ?_)
  refine wpAny_bind (seek_at R tup hx hu true (fun _ => hm) (fun z => absurd z hm) fun K _ hK hb => ?_)
  dsimp only
  refine wpAny_bind (wpAny_setState_of ho hd R.fits ?_)
  dsimp only
  obtain ⟨p, hp, hpl, T1⟩ := R.tab.ins hK hb
  have hp2 : (t.put (way t.mask (mhash P w k) K)).2 = p := hp.symm
  have hmk : (t.put (way t.mask (mhash P w k) K)).1.mask = t.mask := rfl
  have hld : (t.put (way t.mask (mhash P w k) K)).1.led = t.led := rfl
  generalize hpt : t.put (way t.mask (mhash P w k) K) = pt at hp2 hmk hld T1 ⊢
  obtain ⟨t1, p'⟩ := pt
  dsimp only at hp2 hmk hld T1 ⊢
  subst hp2
  -- the entries
  have hin : (SetTable.insertAt es p' (mhash P w k, Value.ref x)).toList = rowsM P w (L.take p' ++ (x, k) :: L.drop p') := by
    rw [SetTable.toList_insertAt, R.rows, rowsM, rowsM, List.map_append, List.map_cons, List.map_take, List.map_drop]
  have pm := put_perm L p' (x, k)
  have hlen : (L.take p' ++ (x, k) :: L.drop p').length = L.length + 1 := pm.length_eq
  have hhs : (L.take p' ++ (x, k) :: L.drop p').map (fun p => mhash P w p.2) = (L.map fun p => mhash P w p.2).take p' ++ mhash P w k :: (L.map fun p => mhash P w p.2).drop p' := by
    rw [List.map_append, List.map_cons, List.map_take, List.map_drop]
  rw [← hhs] at T1
  have nd1 : ((L.take p' ++ (x, k) :: L.drop p').map (·.2)).Nodup := by
    refine (pm.map (·.2)).nodup_iff.mpr ?_
    rw [List.map_cons]
    exact List.nodup_cons.mpr ⟨hm, R.nd⟩
  have hes : (SetTable.insertAt es p' (mhash P w k, Value.ref x)).size = L.length + 1 := by
    have := congrArg List.length hin
    rw [Array.length_toList, rowsM, List.length_map, hlen] at this
    exact this
  generalize SetTable.insertAt es p' (mhash P w k, Value.ref x) = es1 at hin hes ⊢
  generalize L.take p' ++ (x, k) :: L.drop p' = L1 at pm hlen T1 nd1 hin
  -- behind the question whether the hash is by value
  have tail : ∀ t2 : SetTable, TabG t2 (L1.map fun p => mhash P w p.2) → t2.mask = t.mask → t2.led = t.led →
      wpAny (model P w) A (do
        storeSet a es1 t2
        if (!false && t2.tooFull) = true then setRelay a (SetTable.grown (es.size + 1))
        return true) Q E s := fun t2 T2 mk ld => by
    have sz2 : t2.place.size = L.length + 1 := by
      have := T2.sz
      rw [List.length_map, hlen] at this
      exact this
    have ld1 : w.params.followText "set-order" = true ∨ t2.led = true := by rw [ld]; exact R.led
    have fits2 : t2.fits es1.size = true := by
      unfold SetTable.fits SetTable.fill
      rw [T2.dm, Bool.and_eq_true, beq_iff_eq, decide_eq_true_eq]
      show t2.place.size = es1.size ∧ t2.place.size + 0 ≤ t2.mask
      have := mask_le R.tab.mok
      rcases hg with hg | hg
      · omega
      · rcases hg with e | e | e <;> omega
    refine wpAny_bind (wpAny_storeSet_of ho hd ?_ (by rw [hes, sizeLine_eq]; omega))
    have sb : Heap.SameBut a s.heap (s.heap.update a (Obj.putSet es1 t2)) := Heap.SameBut.update ..
    have ho1 := store_at (es' := es1) (t' := t2) ho hd
    generalize s.heap.update a (Obj.putSet es1 t2) = h1 at sb ho1 ⊢
    by_cases hf : t2.tooFull = true
    · have hfull : (L.length + 1) * 5 ≥ t2.mask * 3 := by
        have h := hf
        unfold SetTable.tooFull SetTable.fill at h
        rw [decide_eq_true_eq, T2.dm, sz2] at h
        exact h
      have hok : MaskOk t.mask := hg.resolve_left (by omega)
      first
        | (refine wpAny_bind ?_; refine wp_if_pos (by simp [hf]) ?_)
        | (refine wp_if_pos (by simp [hf]) ?_; refine wpAny_bind ?_)
      rw [hsl]
      have cases2 : (t.mask = 7 ∧ L.length = 4) ∨ (t.mask = 31 ∧ L.length = 18) := by
        rcases hok with e | e | e
        · left; exact ⟨e, by omega⟩
        · right; exact ⟨e, by omega⟩
        · omega
      have go : ∀ M, t.mask ≤ M → SetTable.sizeAbove (SetTable.grown (L.length + 1)) - 1 = M → MaskOk M → SetTable.sizeAbove (SetTable.grown (L.length + 1)) ≤ 128 → (L.length + 1) * 5 < M * 3 →
          wpAny (model P w) A (setRelay a (SetTable.grown (L.length + 1))) (fun _ s' => wpAny (model P w) A (pure true) Q E s') E { s with heap := h1 } := fun M h0' h1' h2' h3' h4' => by
        refine relay_to (s := { s with heap := h1 }) ho1 ⟨hex.1, hex.2.1, hex.2.2⟩ rfl hin fits2 nd1 ld1 (by rw [hlen]; exact hfew) h1' h2' h3' (by rw [hlen]; exact h4') ?_
        intro h2 L2 es2 ep2 t3 sb2 R2 ok2 pm2
        exact wpAny_pure (hQ true h2 L2 es2 ep2 t3 (sb.trans sb2) R2 (by rw [ok2]; exact h0') (fun _ => by rw [ok2]; exact h2') (pm2.trans pm))
      rcases cases2 with ⟨e1, e2⟩ | ⟨e1, e2⟩
      · exact go 31 (by rw [e1]; decide) (by rw [e2, size_20]) (.inr (.inl rfl)) (by rw [e2, size_20]; decide) (by omega)
      · exact go 127 (by rw [e1]; decide) (by rw [e2, size_76]) (.inr (.inr rfl)) (by rw [e2, size_76]; decide) (by omega)
    · first
        | refine wp_if_neg (by simp [hf]) ?_
        | (refine wpAny_bind ?_; refine wp_if_neg (by simp [hf]) ?_; refine wpAny_pure ?_)
      refine wpAny_pure (hQ true h1 L1 es1 (ep + 1) t2 sb ⟨⟨_, ho1, ⟨hex.1, hex.2.1, hex.2.2⟩, rfl⟩, hin, T2, nd1, ld1, ?_, by rw [hlen]; exact hfew⟩ (by rw [mk]; exact Nat.le_refl _) (fun h => by rw [mk]; exact h) pm)
      have h := hf
      unfold SetTable.tooFull SetTable.fill at h
      rw [decide_eq_true_eq, T2.dm, sz2] at h
      rw [hlen]
      simp only [List.size_toArray, List.length_nil, Nat.add_zero] at h
      omega
  have T1' : TabG ({ t1 with plain := false } : SetTable) (L1.map fun p => mhash P w p.2) := ⟨T1.ris, T1.dm, T1.sz, T1.mok, T1.bd, T1.reach⟩
  by_cases hpl1 : t1.plain = true
  · first
      | (refine wpAny_bind ?_; refine wp_if_pos hpl1 ?_; refine hashBy_any hx fun c => ?_)
      | refine wp_if_pos hpl1 (wpAny_bind (hashBy_any hx fun c => ?_))
    cases c with
    | true => simp only [if_true]; exact tail t1 T1 hmk hld
    | false => simp only [Bool.false_eq_true, if_false]; exact tail _ T1' hmk hld
  · first
      | (refine wpAny_bind ?_; refine wp_if_neg hpl1 ?_; refine wpAny_pure ?_)
      | refine wp_if_neg hpl1 (wpAny_bind (wpAny_pure ?_))
    simp only [if_true]
    exact tail t1 T1 hmk hld
/-- room made in an empty set -/
theorem empty_live (M : Nat) : (List.range (M + 1)).filterMap (fun j => ((Array.replicate (M + 1) (none : Option Nat)).getD j none).map (j, ·)) = [] := by
  rw [List.filterMap_eq_nil_iff]
  intro j hj
  have : (Array.replicate (M + 1) (none : Option Nat)).getD j none = none := by
    rw [Array.getD_eq_getD_getElem?, Array.getElem?_replicate]
    split <;> rfl
  rw [this]
  rfl
theorem relaid_empty (t : SetTable) (wanted : Nat) : ∃ t', t.relaid #[] wanted = some (t', #[]) ∧ t'.mask = SetTable.sizeAbove wanted - 1 ∧ t'.place = #[] ∧ t'.dummies = #[] ∧ t'.led = t.led := by
  have e : SetTable.layClean (SetTable.sizeAbove wanted - 1) #[] = some (Array.replicate (SetTable.sizeAbove wanted - 1 + 1) none) := by rw [layClean_eq]; rfl
  have e2 : liveOf (SetTable.sizeAbove wanted - 1) (Array.replicate (SetTable.sizeAbove wanted - 1 + 1) none) = [] := empty_live _
  refine ⟨tabOf t (SetTable.sizeAbove wanted - 1) (Array.replicate (SetTable.sizeAbove wanted - 1 + 1) none), ?_, rfl, ?_, rfl, rfl⟩
  · rw [relaid_eq, e]
    show some _ = some _
    rw [e2]
    rfl
  · show ((liveOf _ _).map (·.1)).toArray = #[]
    rw [e2]
    rfl
theorem sizes_all : (List.range 64).all (fun n => n < 5 || ((SetTable.sizeAbove (n * 2) == 16 || SetTable.sizeAbove (n * 2) == 32 || SetTable.sizeAbove (n * 2) == 64 || SetTable.sizeAbove (n * 2) == 128) && n * 5 < (SetTable.sizeAbove (n * 2) - 1) * 3)) = true := by decide +kernel
theorem size_room {n : Nat} (h : 5 ≤ n) (h64 : n < 64) : MaskG (SetTable.sizeAbove (n * 2) - 1) ∧ n * 5 < (SetTable.sizeAbove (n * 2) - 1) * 3 ∧ SetTable.sizeAbove (n * 2) ≤ 128 := by
  have := List.all_eq_true.mp sizes_all n (List.mem_range.mpr h64)
  rw [Bool.or_eq_true, decide_eq_true_eq, Bool.and_eq_true, Bool.or_eq_true, Bool.or_eq_true, Bool.or_eq_true, beq_iff_eq, beq_iff_eq, beq_iff_eq, beq_iff_eq, decide_eq_true_eq] at this
  rcases this with c | ⟨c, d⟩
  · omega
  · refine ⟨?_, d, by omega⟩
    rcases c with ((c | c) | c) | c <;> rw [c]
    · exact .inr (.inl rfl)
    · exact .inl (.inr (.inl rfl))
    · exact .inr (.inr rfl)
    · exact .inl (.inr (.inr rfl))
/-- a new set, its object -/
abbrev freshSet (w : World) : Obj := { cls := .type "set", dict := none, data := .set #[] 0 (.fresh 0 0 (!w.params.followText "set-order")) }
theorem pset_fresh {h : Heap} {a : Addr} (ho : h.get? a = some (freshSet w)) : PSet P w h a [] #[] 0 (.fresh 0 0 (!w.params.followText "set-order")) where
  ob := ⟨_, ho, ⟨rfl, rfl, rfl⟩, rfl⟩
  rows := rfl
  tab := ⟨List.Pairwise.nil, rfl, rfl, .inl (.inl rfl), fun x hx => (by cases hx), fun i h j hi => (by simp at hi)⟩
  nd := List.nodup_nil
  led := by
    show _ ∨ (!w.params.followText "set-order") = true
    cases w.params.followText "set-order"
    · exact .inr rfl
    · exact .inl rfl
  room := by show 0 * 5 < 7 * 3; decide
  few := by show 0 < 64; decide
/-- room made beforehand for n new members -/
theorem room_at {n : Nat} (h64 : n < 64) (ho : s.heap.get? a = some (freshSet w)) {Q : Unit → Shared → Prop}
    (hQ : ∀ h' es' ep' t', Heap.SameBut a s.heap h' → PSet P w h' a [] es' ep' t' → n * 5 < t'.mask * 3 → Q () { s with heap := h' }) : wpAny (model P w) A (setRoomFor a n) Q E s := by
  have R := pset_fresh (P := P) (w := w) ho
  unfold setRoomFor
  refine wpAny_bind (wpAny_setState_of ho rfl R.fits ?_)
  dsimp only
  by_cases h5 : 5 ≤ n
  · have er : SetTable.roomFor (.fresh 0 0 (!w.params.followText "set-order")) n = some (n * 2) := by
      unfold SetTable.roomFor SetTable.fill SetTable.fresh
      simp only [List.size_toArray, List.length_nil, Nat.zero_add]
      rw [if_pos (by omega)]
    rw [er]
    dsimp only
    obtain ⟨g1, g2, g3⟩ := size_room h5 h64
    obtain ⟨t', e, e1, e2, e3, e4⟩ := relaid_empty (.fresh 0 0 (!w.params.followText "set-order")) (n * 2)
    rw [setRelay_eq]
    refine wpAny_bind (wpAny_setState_of ho rfl R.fits ?_)
    dsimp only
    refine wp_if_neg (by rw [sizeLine_eq]; omega) ?_
    try refine wpAny_bind (wpAny_pure ?_)
    rw [Array.map_empty, e]
    dsimp only
    refine wpAny_bind ?_
    refine wp_if_neg (by simp) ?_
    try refine wpAny_bind (wpAny_pure ?_)
    refine wpAny_pure ?_
    dsimp only
    refine wpAny_storeSet_of ho rfl ?_ (by simp)
    refine hQ _ _ _ t' (Heap.SameBut.update ..) ⟨⟨_, store_at ho rfl, ⟨rfl, rfl, rfl⟩, rfl⟩, (by simp [rowsM]), ⟨by rw [e2]; exact List.Pairwise.nil, e3, (by rw [e2]; rfl), (by rw [e1]; exact g1), (fun x hx => by rw [e2] at hx; cases hx), fun i h j hi => by simp at hi⟩, List.nodup_nil, by rw [e4]; exact R.led, (by
      rw [e1]
      show 0 * 5 < _
      omega), by show 0 < 64; decide⟩ (by rw [e1]; exact g2)
  · have er : SetTable.roomFor (.fresh 0 0 (!w.params.followText "set-order")) n = none := by
      unfold SetTable.roomFor SetTable.fill SetTable.fresh
      simp only [List.size_toArray, List.length_nil, Nat.zero_add]
      rw [if_neg (by omega)]
    rw [er]
    dsimp only
    exact wpAny_pure (hQ s.heap _ _ _ (Heap.SameBut.refl a s.heap) R (by show n * 5 < 7 * 3; omega))
end
end Sh
set_option Elab.async false
set_option linter.all false
set_option maxRecDepth 100000
set_option maxHeartbeats 1000000
/-! ShS3: two sets compared (== that is true). -/
namespace Sh
open PySem PySem.Spec PyProof.Rows L2
theorem entry_seteq : entryFor table "set.__eq__" = some Builtin.«frozenset.__eq__» := entryFor_alias (id' := "frozenset.__eq__") (by kernel_rfl) rfl (by decide +kernel) (by kernel_rfl)
section
variable {P : Program} {w : World} {A : Around} {E : Value → Shared → Prop} {s : Shared}
/-- a set that may be walked -/
structure WSet (w : World) (h : Heap) (a : Addr) (es : Array (Int × Value)) (ep : Nat) (t : SetTable) : Prop where
  ob : ∃ o, h.get? a = some o ∧ o.ExactSet ∧ o.data = .set es ep t
  fits : t.fits es.size = true
theorem PSet.walkable {h : Heap} {a : Addr} {L : Rw} {es : Array (Int × Value)} {ep : Nat} {t : SetTable} (R : PSet P w h a L es ep t) : WSet w h a es ep t := ⟨R.ob, R.fits⟩
variable {a b : Addr} {es es2 : Array (Int × Value)} {ep ep2 : Nat} {t t2 : SetTable}
theorem walk_perm (W : WSet w s.heap a es ep t) (hled : w.params.followText "set-order" = true ∨ t.led = true) {Q : Array (Int × Value) → Shared → Prop} (h : ∀ ys d, ys.toList.Perm es.toList → Q ys { s with drawn := d }) : wpAny (model P w) A (setWalk a) Q E s := by
  obtain ⟨o, ho, _, hd⟩ := W.ob
  unfold setWalk
  refine wpAny_bind (wpAny_setState_of ho hd W.fits ?_)
  dsimp only
  refine wpAny_bind (wpAny_byText ?_)
  by_cases hbt : w.params.followText "set-order" = true
  · refine wp_if_pos hbt (wpAny_bind (wpAny_askSetting (wpAny_pure ?_)))
    exact h _ s.drawn (pick_perm _ _)
  · refine wp_if_neg hbt ?_
    try refine wpAny_bind (wpAny_pure ?_)
    have hl := hled.resolve_left hbt
    by_cases hdr : (!t.plain && decide (es.size > 1)) = true
    · refine wp_if_pos hdr (wpAny_bind (drawOrder_at _ _ _ _ (by simp) fun ys d p => ?_))
      exact wpAny_pure (h _ d (by simpa using p))
    · refine wp_if_neg hdr ?_
      try refine wpAny_bind (wpAny_pure ?_)
      refine wpAny_bind (wpAny_of_eq (a := ()) ?_ ?_)
      · show (if (!t.led && decide (es.size > 1)) = true then unsupported "set:maker-not-led" else pure ()) = pure ()
        rw [hl]
        rfl
      · exact wpAny_pure (h es s.drawn (.refl _))
theorem unseen_perm (W : WSet w s.heap a es ep t) (W2 : WSet w s.heap b es2 ep2 t2) (hl : (w.params.followText "set-order" = true ∨ t.led = true) ∨ ∀ e ∈ es.toList ++ es2.toList, Builtin.Frozenset.quietEq e.2 = pure true) (hq : ∀ e ∈ es.toList ++ es2.toList, ∀ (Q : Bool → Shared → Prop), (∀ c, Q c s) → wpAny (model P w) A (Builtin.Frozenset.quietEq e.2) Q E s)
    {Q : List (Int × Value) → Shared → Prop} (h : ∀ ys d, ys.Perm es.toList → Q ys { s with drawn := d }) : wpAny (model P w) A (Builtin.Frozenset.walkUnseen a b) Q E s := by
  obtain ⟨o, ho, _, hd⟩ := W.ob
  obtain ⟨o2, ho2, _, hd2⟩ := W2.ob
  unfold Builtin.Frozenset.walkUnseen
  refine wpAny_bind (wpAny_setEntries_of ho hd W.fits ?_)
  refine wpAny_bind (wpAny_setEntries_of ho2 hd2 W2.fits ?_)
  refine wpAny_bind ?_
  refine wpAny_forIn_list _ (fun rest r s' => r.1 = none ∧ s' = s ∧ ∀ e ∈ rest, e ∈ es.toList ++ es2.toList) _ ?_ ?_ _ _ ⟨rfl, rfl, fun e he => he⟩
  · rintro ⟨x1, x2⟩ rest r s' ⟨hr, rfl, hall⟩
    rcases hl with hl | hl
    · refine wpAny_bind (hq _ (hall _ List.mem_cons_self) _ fun c => ?_)
      cases c with
      | true =>
        simp only [Bool.not_true, Bool.false_eq_true, if_false]
        exact wpAny_pure ⟨rfl, rfl, fun u hu' => hall u (List.mem_cons_of_mem _ hu')⟩
      | false =>
        simp only [Bool.not_false, if_true]
        unfold Builtin.Frozenset.walk
        refine wpAny_bind (wpAny_bind (walk_perm W hl fun ys d p => wpAny_pure ?_))
        exact wpAny_pure (wpAny_pure (h _ d p))
    · refine wpAny_bind (wpAny_of_eq (hl _ (hall _ List.mem_cons_self)) ?_)
      simp only [Bool.not_true, Bool.false_eq_true, if_false]
      exact wpAny_pure ⟨rfl, rfl, fun u hu' => hall u (List.mem_cons_of_mem _ hu')⟩
  · rintro ⟨r1, r2⟩ s' ⟨hr, rfl, _⟩
    simp only at hr
    subst hr
    exact wpAny_pure (h _ s'.drawn (.refl _))
theorem subset_yes (W : WSet w s.heap a es ep t) (W2 : WSet w s.heap b es2 ep2 t2) (hl : (w.params.followText "set-order" = true ∨ t.led = true) ∨ ∀ e ∈ es.toList ++ es2.toList, Builtin.Frozenset.quietEq e.2 = pure true) (hq : ∀ e ∈ es.toList ++ es2.toList, ∀ (Q : Bool → Shared → Prop), (∀ c, Q c s) → wpAny (model P w) A (Builtin.Frozenset.quietEq e.2) Q E s)
    (hsz : es.size ≤ es2.size) {id : String}
    (hfind : ∀ e ∈ es.toList, ∀ (s' : Shared) (Q : Option Nat → Shared → Prop), s'.heap = s.heap → (∀ i, Q (some i) s') → wpAny (model P w) A (setFind b e.2 e.1) Q E s')
    {Q : Bool → Shared → Prop} (h : ∀ d, Q true { s with drawn := d }) : wpAny (model P w) A (Builtin.Frozenset.subsetOf id a b) Q E s := by
  obtain ⟨o, ho, _, hd⟩ := W.ob
  obtain ⟨o2, ho2, _, hd2⟩ := W2.ob
  unfold Builtin.Frozenset.subsetOf Builtin.Frozenset.sizeOf
  refine wpAny_bind (wpAny_bind (wpAny_setEntries_of ho hd W.fits (wpAny_pure ?_)))
  refine wpAny_bind (wpAny_bind (wpAny_setEntries_of ho2 hd2 W2.fits (wpAny_pure ?_)))
  refine wp_if_neg (by omega) ?_
  try refine wpAny_bind (wpAny_pure ?_)
  refine wpAny_bind (wpAny_setEpoch_of ho hd W.fits ?_)
  refine wpAny_bind (unseen_perm W W2 hl hq fun ys d p => ?_)
  refine wpAny_bind ?_
  refine wpAny_forIn_list _ (fun rest r s' => r.1 = none ∧ s' = { s with drawn := d } ∧ ∀ e ∈ rest, e ∈ es.toList) _ ?_ ?_ _ _ ⟨rfl, rfl, fun e he => p.mem_iff.mp he⟩
  · rintro ⟨x1, x2⟩ rest r s' ⟨hr, rfl, hall⟩
    refine wpAny_bind (wpAny_holding (hfind _ (hall _ List.mem_cons_self) _ _ rfl fun i => ?_))
    refine wp_if_neg (by simp) ?_
    try refine wpAny_bind (wpAny_pure ?_)
    refine wpAny_bind ?_
    · unfold Builtin.Frozenset.unchanged
      refine wpAny_bind (wpAny_setEpoch_of (s := { s with drawn := d }) ho hd W.fits ?_)
      refine wp_if_neg (by simp) ?_
      exact wpAny_pure (wpAny_pure ⟨rfl, rfl, fun u hu' => hall u (List.mem_cons_of_mem _ hu')⟩)
  · rintro ⟨r1, r2⟩ s' ⟨hr, rfl, _⟩
    simp only at hr
    subst hr
    exact wpAny_pure (h d)
theorem eq_sets (W : WSet w s.heap a es ep t) (W2 : WSet w s.heap b es2 ep2 t2) (hl : (w.params.followText "set-order" = true ∨ t.led = true) ∨ ∀ e ∈ es.toList ++ es2.toList, Builtin.Frozenset.quietEq e.2 = pure true) (hu : A.units < cLine) (hq : ∀ e ∈ es.toList ++ es2.toList, ∀ (A : Around) (E : Value → Shared → Prop) (Q : Bool → Shared → Prop), (∀ c, Q c s) → wpAny (model P w) A (Builtin.Frozenset.quietEq e.2) Q E s)
    (hsz : es.size = es2.size)
    (hfind : ∀ e ∈ es.toList, ∀ (s' : Shared) (E : Value → Shared → Prop) (Q : Option Nat → Shared → Prop), s'.heap = s.heap → (∀ i, Q (some i) s') → wpAny (model P w) A.in1 (setFind b e.2 e.1) Q E s')
    {Q : Value → Shared → Prop} (h : ∀ d, Q (.bool true) { s with drawn := d }) : wpAny (model P w) A (compareOp .Eq (.ref a) (.ref b)) Q E s := by
  obtain ⟨o, ho, hx, hd⟩ := W.ob
  obtain ⟨o2, ho2, hx2, hd2⟩ := W2.ob
  have T1 : s.TypeIs (.ref a) "set" := ⟨o, ho, hx.1⟩
  have T2 : s.TypeIs (.ref b) "set" := ⟨o2, ho2, hx2.1⟩
  refine wpAny_richCompare_same_room (op := .Eq) T1 T2 F.slot_set_eq ?_ hu
  refine call_meetsIn F.slot_set_eq T1 entry_seteq (F.args_set_eq_2 _ _) (S := fun A' R s' => A' = A ∧ s' = s ∧ ∀ d, R (.ok (.ret (.bool true))) { s with drawn := d }) ?_ ⟨rfl, rfl, fun d => ⟨(fun z => nomatch z), h d⟩⟩
  refine MeetsIn.of_wp fun A' R s' hS => ?_
  obtain ⟨rfl, rfl, hR⟩ := hS
  unfold Builtin.«frozenset.__eq__»
  show wpAny _ _ (Builtin.Frozenset.slot1 "__eq__" ⟨[.ref a, .ref b], []⟩ >>= _) _ _ _
  refine wpAny_bind (wpAny_pure ?_)
  show wpAny _ _ (Builtin.Frozenset.isAnySet (.ref b) >>= _) _ _ _
  refine wpAny_bind ?_
  unfold Builtin.Frozenset.isAnySet
  refine wpAny_bind (wpAny_isInstance T2 sub_set_self (wpAny_pure ?_))
  show wpAny _ _ (Builtin.Frozenset.addrOf (.ref a) >>= _) _ _ _
  refine wpAny_bind (wpAny_pure ?_)
  show wpAny _ _ (Builtin.Frozenset.addrOf (.ref b) >>= _) _ _ _
  refine wpAny_bind (wpAny_pure ?_)
  refine wpAny_bind ?_
  unfold Builtin.Frozenset.sizeOf
  refine wpAny_bind (wpAny_setEntries_of ho hd W.fits (wpAny_pure ?_))
  refine wpAny_bind (wpAny_bind (wpAny_setEntries_of ho2 hd2 W2.fits (wpAny_pure ?_)))
  refine wpAny_bind ?_
  refine wp_if_neg (by simp [hsz]) ?_
  try refine wpAny_bind (wpAny_pure ?_)
  refine wpAny_bind ?_
  refine wpAny_bind (wpAny_isInstance T1 F.sub_set_frozenset (wpAny_pure ?_))
  refine wp_if_neg (by decide) ?_
  try refine wpAny_bind (wpAny_pure ?_)
  refine subset_yes W W2 hl (fun e he Q hQ => hq e he _ _ Q hQ) (by omega) (fun e he s' Q hs hQ => hfind e he s' _ Q hs hQ) fun d => ?_
  exact wpAny_pure ⟨_, rfl, hR d⟩
end
end Sh
set_option Elab.async false
set_option linter.all false
set_option maxRecDepth 100000
set_option maxHeartbeats 3200000
/-! ShS4: set(d) of a dict, set(xs) of a list of pairs. -/
namespace Sh
open PySem PySem.Spec PyProof.Rows L2
section
variable {P : Program} {w : World} {A : Around} {E : Value → Shared → Prop} {s : Shared}
abbrev withSet (w : World) (s : Shared) : Shared := { s with heap := s.heap.push (freshSet w) }
/-- set(x): what is left is the filling -/
theorem call_set_with {x : Value} {Q : Value → Shared → Prop}
    (h : wpAny (model P w) A.in1.in1 (Builtin.Frozenset.updateFrom "set.__init__" s.heap.objs.size x) (fun _ s' => Q (.ref s.heap.objs.size) s') E (withSet w s)) : wpAny (model P w) A (call (.type "set") [x]) Q E s := by
  obtain ⟨c, tl, hmro⟩ := F.called_set.mro
  have hmade := F.called_set.made
  have hsub := F.called_set.sub
  refine wpAny_call (codeAny_of_tree ?_)
  show wpAny _ _ (callAny (.type "set") _) _ _ _
  refine wpAny_pure ⟨Code.quiet_builtin _ (by decide +kernel), codeAny_builtin F.entry_type_call ?_⟩
  rw [Around.under_plain (weight_type_call_type "set" [x] []) rfl]
  have h1 := F.called_set.notType
  have h2 := F.called_set.canCreate
  have hct := F.typeCall_set_1 x
  repeat (any_goals (first | assumption | wp_step))
  refine codeAny_mono (code_set_led1 x (E := E) (Q₁ := fun obj s₁ => obj = .ref s.heap.objs.size ∧ s₁ = withSet w s) ⟨rfl, rfl⟩) fun r s₁ hr => ?_
  cases r with
  | error e => exact hr
  | ok fl =>
    cases fl with
    | ret obj =>
      obtain ⟨rfl, rfl⟩ := hr
      have hS : (withSet w s).heap.get? s.heap.objs.size = some (freshSet w) := Heap.get?_push_size _ rfl
      have hT : Shared.TypeIs (withSet w s) (.ref s.heap.objs.size) "set" := ⟨_, hS, rfl⟩
      have hli := F.called_set.init.lookup
      have hbi := F.called_set.init.bind (.ref s.heap.objs.size)
      repeat (any_goals (first | assumption | wp_step))
      refine codeAny_mono (codeAny_call_builtin (R := wants (fun r s₂ => r = .none ∧ Q (.ref s.heap.objs.size) s₂) E) F.called_set.init.plain F.entry_set_init (check_set_init_1 hT ?_)) fun r₂ s₂ hr₂ => ?_
      · unfold Builtin.«set.__init__» noKeywords
        generalize hU : Builtin.Frozenset.updateFrom = U at h
        wp_walk
        refine wpAny_mono h (fun _ s' hq => ?_) fun e s' he => he
        exact wpAny_pure ⟨rfl, hq⟩
      · cases r₂ with
        | error e => exact hr₂
        | ok fl₂ =>
          cases fl₂ with
          | ret r =>
            obtain ⟨rfl, hq⟩ := hr₂
            repeat (any_goals (first | assumption | wp_step))
          | _ => exact hr₂.elim
    | _ => exact hr.elim
/-- the filling from a dict, member by member -/
theorem fill_dict {S d : Addr} {es : Array DictEntry} {ep : Nat} {id : String} {Q : Unit → Shared → Prop} (I : Nat → Heap → Prop) (hd : s.heap.DictRaw d es ep) (hsm : (d == sysModules) = false) (hne : d ≠ S)
    (room : ∀ (Q : Unit → Shared → Prop), (∀ h', I 0 h' → Heap.SameBut S s.heap h' → Q () { s with heap := h' }) → wpAny (model P w) A (setRoomFor S es.size) Q E s)
    (step : ∀ i (hi : i < es.size) (h : Heap) (Q : Bool → Shared → Prop), I i h → Heap.SameBut S s.heap h → (∀ b h', I (i + 1) h' → Heap.SameBut S h h' → Q b { s with heap := h' }) → wpAny (model P w) A (setAddHashed S es[i].key es[i].hash) Q E { s with heap := h })
    (h : ∀ h', I es.size h' → Heap.SameBut S s.heap h' → Q () { s with heap := h' }) : wpAny (model P w) A (Builtin.Frozenset.updateFrom id S (.ref d)) Q E s := by
  have hT := hd.typeIs
  obtain ⟨o, ho, hx, hdat⟩ := hd
  unfold Builtin.Frozenset.updateFrom
  refine wpAny_bind ?_
  unfold Builtin.Frozenset.isAnySet
  refine wpAny_bind (wpAny_isInstance hT F.sub_dict_set ?_)
  refine wpAny_isInstance hT F.sub_dict_frozenset ?_
  refine wp_if_neg (by decide) ?_
  try refine wpAny_bind (wpAny_pure ?_)
  refine wpAny_bind (wpAny_typeOf hT ?_)
  refine wp_if_pos (by simp) ?_
  refine wpAny_bind (wpAny_rule ?_)
  refine wpAny_bind (m := Builtin.Frozenset.addrOf (.ref d)) (wpAny_pure ?_)
  refine wp_if_neg (by rw [hsm]; decide) ?_
  try refine wpAny_bind (wpAny_pure ?_)
  refine wpAny_bind (wpAny_dictEpoch ho hdat ?_)
  refine wpAny_bind (wpAny_dictEntries ho hdat ?_)
  refine wpAny_bind (room _ fun h0 i0 sb0 => ?_)
  have ho0 : h0.get? d = some o := (sb0.2 d hne).trans ho
  refine wpAny_bind (wpAny_dictEntries (s := { s with heap := h0 }) ho0 hdat ?_)
  refine wpAny_bind ?_
  rw [Std.Legacy.Range.forIn_eq_forIn_range']
  simp only [Std.Legacy.Range.size, Nat.sub_zero, Nat.add_sub_cancel, Nat.div_one]
  refine wpAny_forIn_list _
    (fun rest _ s' => ∃ h' i, s' = { s with heap := h' } ∧ rest = List.range' i (es.size - i) ∧ i ≤ es.size ∧ I i h' ∧ Heap.SameBut S s.heap h') _ ?_ ?_ _ _ ⟨h0, 0, rfl, by simp, Nat.zero_le _, i0, sb0⟩
  · rintro x rest b s' ⟨h', i, rfl, hr, hi, ii, hs'⟩
    have hlt : i < es.size := by
      rcases Nat.lt_or_ge i es.size with h | h
      · exact h
      · rw [Nat.sub_eq_zero_of_le h] at hr; simp at hr
    obtain ⟨rfl, hrest⟩ : x = i ∧ rest = List.range' (i + 1) (es.size - (i + 1)) := by
      have e : es.size - i = (es.size - (i + 1)) + 1 := by omega
      rw [e, List.range'_succ] at hr
      injection hr with h1 h2
      exact ⟨h1, h2⟩
    have hoo : h'.get? d = some o := (hs'.2 d hne).trans ho
    refine wpAny_bind (wpAny_dictEntries (s := { s with heap := h' }) hoo hdat ?_)
    rw [Array.getElem?_eq_getElem hlt]
    refine wpAny_bind (wpAny_holding (step x hlt h' _ ii hs' fun b h'' ii' sb => ?_))
    have hoo2 : h''.get? d = some o := (sb.2 d hne).trans hoo
    refine wpAny_bind (wpAny_dictEpoch (s := { s with heap := h'' }) hoo2 hdat ?_)
    refine wp_if_neg (by simp) ?_
    exact wpAny_pure ⟨h'', x + 1, rfl, hrest, hlt, ii', hs'.trans sb⟩
  · rintro b s' ⟨h', i, rfl, hr, hi, ii, hs'⟩
    have hin : i = es.size := by
      rcases Nat.lt_or_ge i es.size with h | h
      · have e : es.size - i = (es.size - (i + 1)) + 1 := by omega
        rw [e, List.range'_succ] at hr; exact nomatch hr
      · exact Nat.le_antisymm hi h
    subst hin
    exact wpAny_pure (h h' ii hs')
end
end Sh
set_option Elab.async false
set_option linter.all false
set_option maxRecDepth 100000
set_option maxHeartbeats 1600000
/-! ShS5: the filling of a set from a list of pairs; the calls by what stands. -/
namespace Sh
open PySem PySem.Spec PyProof.Rows L2
section
variable {P : Program} {w : World} {A : Around} {E : Value → Shared → Prop} {s : Shared}
theorem mt_keep {h h' : Heap} {k : List Key} {b : Addr} (x : MT P w h k b) (hk : ∀ o, h.get? b = some o → h'.get? b = some o) : MT P w h' k b := by
  obtain ⟨o, items, n, ho, r⟩ := x
  exact ⟨o, items, n, hk o ho, r⟩
theorem PSet.keep {h h' : Heap} {a : Addr} {L : Rw} {es : Array (Int × Value)} {ep : Nat} {t : SetTable} (R : PSet P w h a L es ep t) (ha : ∀ o, h.get? a = some o → h'.get? a = some o) : PSet P w h' a L es ep t :=
  ⟨let ⟨o, ho, r⟩ := R.ob; ⟨o, ha o ho, r⟩, R.rows, R.tab, R.nd, R.led, R.room, R.few⟩
/-- set.update's loop over unlike pairs -/
theorem pour {I : Addr} {fp wr : List Addr} {G : Array GenState → Array GenState → Prop} {n : Nat} {Pv : Nat → Value → Prop} {St : Nat → Shared → Prop} {R : Result → Shared → Prop}
    (W : WalksS P w A.in1 I fp wr G n Pv St) (S : Addr) (hSf : S ∉ fp) (ks : Rw) (hn : n = ks.length) (hfew : ks.length < 64) (hnd : (ks.map (·.2)).Nodup) (hval : ∀ i v, Pv i v → ∃ p, ks[i]? = some p ∧ v = .ref p.1)
    (h0 : Heap) (hk : ∀ p ∈ ks, MT P w h0 p.2 p.1) (hS0 : h0.get? S = none) (hw0 : ∀ b ∈ wr, h0.get? b = none) (hu : A.in1.units < cLine) :
    ∀ (k i : Nat) (s : Shared), n - i = k → i ≤ n → St i s → (∀ b o, h0.get? b = some o → s.heap.get? b = some o) → (∃ L es ep t, PSet P w s.heap S L es ep t ∧ MaskOk t.mask ∧ L.Perm (ks.take i)) →
      (∀ s' L es ep t, Moved (S :: wr) G s s' → PSet P w s'.heap S L es ep t → L.Perm ks → (∀ b o, h0.get? b = some o → s'.heap.get? b = some o) → R (.ok (.ret .none)) s') →
      codeAny (model P w) A (.builtin "set.update.loop" ⟨[.ref S, .ref I], []⟩) R s := by
  have hSw : S ∉ wr := fun h => hSf (W.sub _ h)
  have hsub : ∀ b ∈ wr, b ∈ S :: wr := fun b hb => List.mem_cons_of_mem _ hb
  have keepM : ∀ {s s' : Shared}, Moved wr G s s' → (∀ b o, h0.get? b = some o → s.heap.get? b = some o) → ∀ b o, h0.get? b = some o → s'.heap.get? b = some o := fun hm hkp b o e =>
    hm.heap b o (fun hb => by rw [hw0 b hb] at e; cases e) (hkp b o e)
  intro k
  induction k with
  | zero =>
    intro i s hk' hi hst hkp ⟨L, es, ep, t, hS, _, g⟩ hR
    have hin : i = n := by omega
    subst hin
    refine codeAny_builtin F.entry_set_update_loop ?_
    rw [Around.under_plainId F.plain_set_update_loop _]
    show wpAny _ A.in1 (pyNext (.ref I) >>= _) _ _ s
    refine wpAny_bind (W.done s _ _ hst fun s' hm => ?_)
    show wpAny _ A.in1 (ret Value.none) _ _ s'
    rw [hn, List.take_length] at g
    exact wpAny_pure (hR s' L es ep t (hm.mono hsub) (hS.keep fun o e => hm.heap S o hSw e) g (keepM hm hkp))
  | succ k ih =>
    intro i s hk' hi hst hkp ⟨L, es, ep, t, hS, hM, g⟩ hR
    have hlt : i < n := by omega
    refine codeAny_builtin F.entry_set_update_loop ?_
    rw [Around.under_plainId F.plain_set_update_loop _]
    show wpAny _ A.in1 (pyNext (.ref I) >>= _) _ _ s
    refine wpAny_bind (W.item i s _ _ hlt hst fun v s' hP hst' hm => ?_)
    obtain ⟨p, hp, rfl⟩ := hval i v hP
    have hkp' := keepM hm hkp
    have tup : ∀ q ∈ L, MT P w s'.heap q.2 q.1 := fun q hq => mt_keep (hk q (List.mem_of_mem_take (g.mem_iff.mp hq))) fun o => hkp' _ o
    have hS' : PSet P w s'.heap S L es ep t := hS.keep fun o e => hm.heap S o hSw e
    have hx : MT P w s'.heap p.2 p.1 := mt_keep (hk p (List.mem_of_getElem? hp)) fun o => hkp' _ o
    have tn : ks.take (i + 1) = ks.take i ++ [p] := by rw [List.take_succ, hp]; rfl
    have hm' : p.2 ∉ L.map (·.2) := fun hc => by
      have h1 : p.2 ∈ (ks.take i).map (·.2) := (g.map (·.2)).mem_iff.mp hc
      have h2 : ((ks.take (i + 1)).map (·.2)).Nodup := by
        rw [List.map_take]
        exact hnd.sublist (List.take_sublist _ _)
      rw [tn, List.map_append, List.nodup_append] at h2
      exact h2.2.2 _ h1 _ (by simp) rfl
    have hlen : L.length ≤ i := by rw [g.length_eq, List.length_take]; omega
    show wpAny _ A.in1 (holding [Value.ref p.1] (setAdd S (.ref p.1)) >>= _) _ _ s'
    refine wpAny_bind (wpAny_holding ?_)
    unfold setAdd
    refine wpAny_holding ?_
    refine wpAny_bind (wpAny_pyHash_tuple hu hx ?_)
    refine put_at (s := { s' with toks := s'.toks + (p.2.length + 1) }) hS' tup hx hu hm' (by omega) (.inr hM) fun b h' L' es' ep' t' hsb hS2 _ c1 c2 => ?_
    have g' : L'.Perm (ks.take (i + 1)) := by
      rw [tn]
      exact c2.trans ((g.cons _).trans (List.perm_append_singleton _ _).symm)
    have hkp2 : ∀ b o, h0.get? b = some o → h'.get? b = some o := fun b o e => (hsb.2 b (fun z => by rw [z, hS0] at e; cases e)).trans (hkp' b o e)
    refine wpAny_pure ⟨plainId_quiet F.plain_set_update_loop _, ih (i + 1) _ (by omega) hlt (W.frame _ s' _ _ hst' (Nat.le_add_right _ _) fun b hb o e => ?_) hkp2 ⟨L', es', ep', t', hS2, c1 hM, g'⟩ fun s'' L2 es2 ep2 t2 hm'' hS'' g'' hkp'' => ?_⟩
    · rw [hsb.2 b (fun h : b = S => hSf (by rw [← h]; exact hb))]; exact e
    · refine hR s'' L2 es2 ep2 t2 (Moved.trans W.gtrans ((hm.mono hsub).then_heap (Nat.le_add_right _ _) fun b o hb e => ?_) hm'') hS'' g'' hkp''
      rw [hsb.2 b (fun h : b = S => hb (by rw [h]; exact List.mem_cons_self))]; exact e
/-- set(xs) of a list of unlike pairs -/
theorem set_of_list {l : Addr} {items : Array Value} (ks : Rw) {Q : Value → Shared → Prop} (hh : A.handled = none) (hl : s.heap.IsList l items) (hit : items.toList = ks.map fun p => Value.ref p.1)
    (hk : ∀ p ∈ ks, MT P w s.heap p.2 p.1) (hnd : (ks.map (·.2)).Nodup) (hfew : ks.length < 64) (hu : A.units + 3 < cLine)
    (h : ∀ (h' : Heap) (tk : Nat) L es ep t, PSet P w h' s.heap.objs.size L es ep t → L.Perm ks → (∀ b o, s.heap.get? b = some o → h'.get? b = some o) → Q (.ref s.heap.objs.size) { s with heap := h', toks := tk }) :
    wpAny (model P w) A (call (.type "set") [.ref l]) Q E s := by
  refine call_set_with ?_
  have hisz : items.size = ks.length := by
    have q := congrArg List.length hit
    simpa using q
  have hS : (withSet w s).heap.get? s.heap.objs.size = some (freshSet w) := Heap.get?_push_size _ rfl
  have hl1 : (withSet w s).heap.IsList l items := hl.push _
  have hT : (withSet w s).TypeIs (.ref l) "list" := let ⟨o, ho, hc, _⟩ := hl1; ⟨o, ho, hc⟩
  have hlS : l < s.heap.objs.size := let ⟨o, ho, _⟩ := hl; Heap.lt_size ho
  have hz1 : (withSet w s).heap.objs.size = s.heap.objs.size + 1 := Heap.size_push ..
  unfold Builtin.Frozenset.updateFrom
  refine wpAny_bind ?_
  unfold Builtin.Frozenset.isAnySet
  refine wpAny_bind (wpAny_isInstance hT F.sub_list_set ?_)
  refine wpAny_isInstance hT F.sub_list_frozenset ?_
  refine wp_if_neg (by decide) ?_
  try refine wpAny_bind (wpAny_pure ?_)
  refine wpAny_bind (wpAny_typeOf hT ?_)
  refine wp_if_neg (by decide) ?_
  try refine wpAny_bind (wpAny_pure ?_)
  refine wpAny_bind (wpAny_pyIter_list hl1 ?_)
  refine wpAny_bind (wpAny_runValue ?_)
  have hh3 : A.in1.in1.in1.handled = none := by simp [hh]
  have hneI : l ≠ (withSet w s).heap.objs.size := by rw [hz1]; exact Nat.ne_of_lt (Nat.lt_succ_of_lt hlS)
  have hSf : s.heap.objs.size ∉ [(withSet w s).heap.objs.size, l] := by
    rw [hz1]; simp only [List.mem_cons, List.mem_singleton, List.not_mem_nil, or_false, not_or]
    exact ⟨Nat.ne_of_lt (Nat.lt_succ_self _), Nat.ne_of_gt hlS⟩
  have hval : ∀ (i : Nat) (v : Value), items[i]? = some v → ∃ p, ks[i]? = some p ∧ v = .ref p.1 := fun i v hv => by
    have q : items.toList[i]? = some v := by rw [Array.getElem?_toList]; exact hv
    rw [hit, List.getElem?_map] at q
    cases hq : ks[i]? with
    | none => rw [hq] at q; cases q
    | some p => rw [hq] at q; exact ⟨p, rfl, (Option.some.inj q).symm⟩
  have none_of : ∀ b, s.heap.objs.size ≤ b → s.heap.get? b = none := fun b hb => Heap.get?_none_of_le hb
  refine pour ((Walks.list hh3 _ l hneI items).toS) s.heap.objs.size hSf ks hisz hfew hnd hval s.heap hk (none_of _ (Nat.le_refl _)) (fun b hb => none_of b (by
      rw [List.mem_singleton.mp hb, hz1]
      omega)) hu (items.size - 0) 0 _ (by omega) (Nat.zero_le _)
    ⟨⟨_, Heap.get?_push_size _ rfl, rfl, rfl⟩, (hl1.push _)⟩ (fun b o e => Heap.get?_push_of_some _ (Heap.get?_push_of_some _ e)) ⟨[], #[], 0, _, pset_fresh (Heap.get?_push_of_some _ hS), .inl rfl, .refl _⟩ ?_
  intro s' L es ep t hm hS' g' hkp
  obtain ⟨h', g2, d', tk', os'⟩ := s'
  have eg : g2 = s.gens := hm.gens
  have ed : d' = s.drawn := hm.drawn
  have eo : os' = s.os := hm.os
  subst eg; subst ed; subst eo
  show wpAny _ _ _ _ _ _
  exact wpAny_pure (h h' tk' L es ep t hS' g' hkp)
/-- set(d) of a dict with tuple keys -/
theorem set_of_dict {d : Addr} (xs : List (List Key × Addr × Value)) {Q : Value → Shared → Prop} (hd : s.heap.DictOfH (tupleKind (mixKind P w)) d xs) (hsm : (d == sysModules) = false) (hfew : xs.length < 64) (hu : A.units + 2 < cLine)
    (h : ∀ (h' : Heap) L es ep t, PSet P w h' s.heap.objs.size L es ep t → L.Perm (xs.map fun x => (x.2.1, x.1)) → (∀ b o, s.heap.get? b = some o → h'.get? b = some o) → Q (.ref s.heap.objs.size) { s with heap := h' }) :
    wpAny (model P w) A (call (.type "set") [.ref d]) Q E s := by
  refine call_set_with ?_
  obtain ⟨o, es, ep, ho, hx, hdat, he, his, hn⟩ := hd
  have hsz : es.size = xs.length := size_of_entries he
  have hS : (withSet w s).heap.get? s.heap.objs.size = some (freshSet w) := Heap.get?_push_size _ rfl
  have raw : (withSet w s).heap.DictRaw d es ep := ⟨o, Heap.get?_push_of_some _ ho, hx, hdat⟩
  have hlt : d < s.heap.objs.size := Heap.lt_size ho
  have keep1 : ∀ b o, s.heap.get? b = some o → (withSet w s).heap.get? b = some o := fun b o e => Heap.get?_push_of_some _ e
  have nS : s.heap.get? s.heap.objs.size = none := Heap.get?_none_of_le (Nat.le_refl _)
  have old : ∀ {h' : Heap}, Heap.SameBut s.heap.objs.size (withSet w s).heap h' → ∀ b o, s.heap.get? b = some o → h'.get? b = some o := fun sb b o e => (sb.2 b (Nat.ne_of_lt (Heap.lt_size e))).trans (keep1 b o e)
  refine fill_dict (fun i h' => ∃ L es' ep' t, PSet P w h' s.heap.objs.size L es' ep' t ∧ es.size * 5 < t.mask * 3 ∧ L.Perm ((xs.take i).map fun x => (x.2.1, x.1))) raw hsm (Nat.ne_of_lt hlt) ?_ ?_ ?_
  · intro Q' hQ'
    refine room_at (s := withSet w s) (by rw [hsz]; exact hfew) hS fun h' es' ep' t' sb R hm => ?_
    exact hQ' h' ⟨[], es', ep', t', R, hm, .refl _⟩ sb
  · intro i hi h' Q' ⟨L, es', ep', t', R, hm, g⟩ sb hQ'
    obtain ⟨x, hxi⟩ : ∃ x, xs[i]? = some x := ⟨xs[i]'(by omega), List.getElem?_eq_getElem _⟩
    have ei : es[i] = entryOfKey (tupleKind (mixKind P w)) x := by
      have := entry_at he i
      rw [hxi, Array.getElem?_eq_getElem hi] at this
      exact Option.some.inj this
    rw [ei]
    show wpAny _ _ (setAddHashed s.heap.objs.size (.ref x.2.1) (mhash P w x.1)) _ _ _
    have tup : ∀ q ∈ L, MT P w h' q.2 q.1 := fun q hq => by
      obtain ⟨y, hy, rfl⟩ := List.mem_map.mp (g.mem_iff.mp hq)
      exact mt_keep (his y (List.mem_of_mem_take hy)) fun o => old sb _ o
    have hxk : MT P w h' x.1 x.2.1 := mt_keep (his x (List.mem_of_getElem? hxi)) fun o => old sb _ o
    have tn : xs.take (i + 1) = xs.take i ++ [x] := by rw [List.take_succ, hxi]; rfl
    have hm' : x.1 ∉ L.map (·.2) := fun hc => by
      have h1 := (g.map (·.2)).mem_iff.mp hc
      rw [List.map_map] at h1
      have h2 : ((xs.take (i + 1)).map (·.1)).Nodup := by
        rw [List.map_take]
        exact hn.sublist (List.take_sublist _ _)
      rw [tn, List.map_append, List.nodup_append] at h2
      exact h2.2.2 _ h1 _ (by simp) rfl
    have hlen : L.length ≤ i := by rw [g.length_eq, List.length_map, List.length_take]; omega
    refine put_at (s := { withSet w s with heap := h' }) R tup hxk (show A.units + 2 < cLine from hu) hm' (by omega) (.inl (by omega)) fun b h'' L' es'' ep'' t'' sb' R' hmk hok g' => ?_
    refine hQ' b h'' ⟨L', es'', ep'', t'', R', ?_, ?_⟩ sb'
    · omega
    · rw [tn, List.map_append]
      exact g'.trans ((g.cons _).trans (List.perm_append_singleton _ _).symm)
  · intro h' ⟨L, es', ep', t', R, _, g⟩ sb
    rw [hsz, List.take_length] at g
    exact h h' L es' ep' t' R g (old sb)
end
end Sh
set_option Elab.async false
set_option linter.all false
set_option maxRecDepth 100000
set_option maxHeartbeats 1600000
/-! ShS6: sets by what stands: calls and ==; the rule for set(a) == set(b) by D's. -/
namespace Sh
open PySem PySem.Spec PyProof.Rows L2
/-- the set of pairs at a -/
def SetPO (P : Program) (w : World) (a : Addr) (L : Rw) : HO := .ext fun h => ∃ es ep t, PSet P w h a L es ep t
/-- the set of ints at a, n in number -/
def SetIO (P : Program) (w : World) (a : Addr) (S : Key → Bool) (n : Nat) : HO := .ext fun h => h.SetOf (mixKind P w) a S n
def SetJO (P : Program) (w : World) (a : Addr) (S : Int → Bool) (n : Nat) : HO := .ext fun h => h.SetOf (intKind P w) a S n
section
variable {P : Program} {w : World} {H : Hp} {h : Heap} {a : Addr}
theorem setPO_ok {L : Rw} {es ep t} (R : PSet P w h a L es ep t) : ObjOk P w H h a (SetPO P w a L) :=
  ⟨⟨es, ep, t, R⟩, let ⟨o, ho, _⟩ := R.ob; ⟨o, ho⟩, fun _ _ ⟨es, ep, t, R⟩ k => ⟨es, ep, t, R.keep k⟩⟩
theorem setOf_keep {κ : Type} [DecidableEq κ] {knd : KeyKind P w κ} {h h' : Heap} {S : κ → Bool} {n : Nat} (x : h.SetOf knd a S n) (k : ∀ o, h.get? a = some o → h'.get? a = some o) : h'.SetOf knd a S n := by
  obtain ⟨o, es, ep, t, ho, r⟩ := x
  exact ⟨o, es, ep, t, k o ho, r⟩
theorem setOf_is {κ : Type} [DecidableEq κ] {knd : KeyKind P w κ} {h : Heap} {S S' : κ → Bool} {n n' : Nat} (x : h.SetOf knd a S n) (e : ∀ k, S k = S' k) (en : n = n') : h.SetOf knd a S' n' := by
  have : S = S' := funext e
  subst this; subst en
  exact x
theorem setIO_ok {S : Key → Bool} {n : Nat} (R : h.SetOf (mixKind P w) a S n) : ObjOk P w H h a (SetIO P w a S n) :=
  ⟨R, let ⟨o, _, _, _, ho, _⟩ := R; ⟨o, ho⟩, fun _ _ x k => setOf_keep x k⟩
theorem setJO_ok {S : Int → Bool} {n : Nat} (R : h.SetOf (intKind P w) a S n) : ObjOk P w H h a (SetJO P w a S n) :=
  ⟨R, let ⟨o, _, _, _, ho, _⟩ := R; ⟨o, ho⟩, fun _ _ x k => setOf_keep x k⟩
end
section
variable {P : Program} {w : World} {A : Around} {E : Value → Shared → Prop} {s : Shared}
/-- set(d) of a dict whose keys are numbers or texts -/
theorem set_of_dictK {d : Addr} (vs : List (Key × Value)) {Q : Value → Shared → Prop} (hd : s.heap.DictOf (mixKind P w) d vs) (hsm : (d == sysModules) = false) (hfew : vs.length < 64)
    (h : ∀ (h' : Heap), h'.SetOf (mixKind P w) s.heap.objs.size (fun k : Key => vs.any fun x => decide (x.1 = k)) vs.length → (∀ b o, s.heap.get? b = some o → h'.get? b = some o) → Q (.ref s.heap.objs.size) { s with heap := h' }) :
    wpAny (model P w) A (call (.type "set") [.ref d]) Q E s := by
  refine call_set_with ?_
  obtain ⟨o, es, ep, ho, hx, hdat, hko, hp, hn⟩ := hd
  have hsz : es.size = vs.length := by rw [← Array.length_toList]; exact hp.length
  have hS : (withSet w s).heap.get? s.heap.objs.size = some (freshSet w) := Heap.get?_push_size _ rfl
  have raw : (withSet w s).heap.DictRaw d es ep := ⟨o, Heap.get?_push_of_some _ ho, hx, hdat⟩
  have keep1 : ∀ b o, s.heap.get? b = some o → (withSet w s).heap.get? b = some o := fun b o e => Heap.get?_push_of_some _ e
  have old : ∀ {h' : Heap}, Heap.SameBut s.heap.objs.size (withSet w s).heap h' → ∀ b o, s.heap.get? b = some o → h'.get? b = some o := fun sb b o e => (sb.2 b (Nat.ne_of_lt (Heap.lt_size e))).trans (keep1 b o e)
  have hb : ∀ n, n < 64 → n + 1 < scanBound := fun n hn => by unfold scanBound; omega
  refine fill_dict (fun i h' => h'.SetOf (mixKind P w) s.heap.objs.size (fun k : Key => (vs.take i).any fun x => decide (x.1 = k)) i) raw hsm (Nat.ne_of_lt (Heap.lt_size ho)) ?_ ?_ ?_
  · intro Q' hQ'
    refine room_at (s := withSet w s) (by rw [hsz]; exact hfew) hS fun h' es' ep' t' sb R hm => ?_
    refine hQ' h' ?_ sb
    obtain ⟨o', ho', hx', hd'⟩ := R.ob
    have e0 : es' = #[] := by
      have := R.rows
      rw [rowsM] at this
      exact Array.toList_inj.mp (by simpa using this)
    refine ⟨o', es', ep', t', ho', hx', hd', fun e he => ?_, fun k => ?_, ?_, R.fits, ?_⟩
    · rw [e0] at he; cases he
    · rw [e0]; simp
    · rw [e0]; decide
    · rw [e0]; rfl
  · intro i hi h' Q' hI sb hQ'
    obtain ⟨x, hxi⟩ : ∃ x, vs[i]? = some x := ⟨vs[i]'(by omega), List.getElem?_eq_getElem _⟩
    have ei : es[i]? = some es[i] := Array.getElem?_eq_getElem hi
    have g := hp.get? (by rw [Array.getElem?_toList]; exact ei) (show vs[i]? = some (x.1, x.2) from hxi)
    have hkey : (mixKind P w).is x.1 es[i].key = true := g.1
    have hhash : es[i].hash = (mixKind P w).hash x.1 := by
      obtain ⟨k, h1, h2⟩ := hko es[i] (by simp)
      rw [h2, (mixKind P w).inj _ _ _ h1 hkey]
    rw [hhash]
    have hsc : (es[i].key).scannable = true := by rcases keyIs_shape hkey with ⟨_, _, _, e⟩ | ⟨_, _, _, e⟩ <;> rw [e] <;> rfl
    refine wpAny_setAddHashed_of (s := { withSet w s with heap := h' }) hkey hsc hI (hb i (by omega)) fun h'' hsb hS2 => ?_
    refine hQ' _ h'' ?_ hsb
    have tn : vs.take (i + 1) = vs.take i ++ [x] := by rw [List.take_succ, hxi]; rfl
    have hm' : x.1 ∉ (vs.take i).map (·.1) := fun hc => by
      have h2 : ((vs.take (i + 1)).map (·.1)).Nodup := by
        rw [List.map_take]
        exact hn.sublist (List.take_sublist _ _)
      rw [tn, List.map_append, List.nodup_append] at h2
      exact h2.2.2 _ hc _ (by simp) rfl
    have hm2 : ((vs.take i).any fun y => decide (y.1 = x.1)) = false := by
      rw [List.any_eq_false]
      intro y hy e
      exact hm' (List.mem_map.mpr ⟨y, hy, by simpa using e⟩)
    refine setOf_is hS2 (fun k => ?_) (by simp only [hm2]; rfl)
    rw [tn, List.any_append]
    by_cases e2 : k = x.1
    · subst e2; simp
    · have e3 : ¬ x.1 = k := fun z => e2 z.symm
      simp [e2, e3]
  · intro h' hI sb
    rw [hsz, List.take_length] at hI
    exact h h' hI (old sb)
end
section
variable {X : Cx}
def rSetD (X : Cx) : List V → Hp → VK → Prop := fun xs H Q => ∃ (d : Addr) (kvs : List (List Key × V)), xs = [.ref d] ∧ Rd H d (.dT kvs) ∧ kvs.length < 64 ∧
  ∀ p L, H p = none → (∀ q ∈ L, H q.1 = some (.tup (q.2.map kV))) → (L.map (·.2)).Perm (kvs.map (·.1)) → Q (.ref p) (upd H p (SetPO X.prog X.w p L))
theorem cr_setD (hu : X.A.units + 2 < cLine) : CallR X (.type "set") (rSetD X) := by
  intro pins s σ H xs us Q I r q
  obtain ⟨d, kvs, rfl, hd, hfew, q⟩ := q
  obtain ⟨u, rfl, ru⟩ := r.one
  cases (show u = Value.ref d from ru)
  obtain ⟨_, low, xs, rel, m⟩ := dt_rd I.hok hd
  refine set_of_dict xs m low (by rw [← kt_len rel]; exact hfew) hu fun h' L es ep t R g k => ?_
  have nD : H s.heap.objs.size = none := I.hok.fresh (Nat.le_refl _)
  refine ⟨.ref s.heap.objs.size, _, I.laid (t' := s.toks) k (Nat.le_refl _) (setPO_ok R), rfl, q _ L nD (fun y hy => ?_) ?_⟩
  · obtain ⟨x, hx, rfl⟩ := List.mem_map.mp (g.mem_iff.mp hy)
    obtain ⟨i, hi, e⟩ := List.getElem_of_mem hx
    obtain ⟨b, hb, b1, b2, _⟩ := paired_get rel (List.getElem?_eq_getElem (show i < kvs.length by rw [kt_len rel]; exact hi))
    rw [List.getElem?_eq_getElem hi, e] at hb
    cases hb
    rw [← b1]
    exact b2
  · refine (g.map (·.2)).trans ?_
    rw [List.map_map]
    have : ∀ {kvs : List (List Key × V)} {xs : List (List Key × Addr × Value)}, KT H kvs xs → xs.map (fun x => x.1) = kvs.map (·.1) := by
      intro kvs xs r
      induction r with
      | nil => rfl
      | cons h _ ih => rw [List.map_cons, List.map_cons, ih, h.1]
    exact .of_eq (this rel)
def rSetL (X : Cx) : List V → Hp → VK → Prop := fun xs H Q => ∃ (l : Addr) (ks : Rw), xs = [.ref l] ∧ SqL X.K H l (ks.map fun q => V.ref q.1) ∧ (∀ q ∈ ks, H q.1 = some (.tup (q.2.map kV))) ∧ (ks.map (·.2)).Nodup ∧ ks.length < 64 ∧
  ∀ p L, H p = none → L.Perm ks → Q (.ref p) (upd H p (SetPO X.prog X.w p L))
theorem cr_setL (hc : X.calm = true) (hu : X.A.units + 3 < cLine) : CallR X (.type "set") (rSetL X) := by
  intro pins s σ H xs us Q I r q
  obtain ⟨l, ks, rfl, hl, ht, hnd, hfew, q⟩ := q
  obtain ⟨u, rfl, ru⟩ := r.one
  cases (show u = Value.ref l from ru)
  obtain ⟨its, rv, pl, _⟩ := I.list hl
  have ei : its = ks.map fun p => Value.ref p.1 := by
    have := refs_vals (ps := ks.map (·.1)) (us := its) (by rw [List.map_map]; exact rv)
    rw [this, List.map_map]
    rfl
  refine set_of_list (items := its.toArray) ks (I.ok.hd hc) pl.isList (by simpa using ei) (fun p hp => key_of I.hok (ht p hp)) hnd hfew hu fun h' tk L es ep t R g k => ?_
  exact ⟨.ref s.heap.objs.size, _, I.laid (t' := tk) k (Nat.le_refl _) (setPO_ok R), rfl, q _ L (I.hok.fresh (Nat.le_refl _)) g⟩
def rSetDK (X : Cx) : List V → Hp → VK → Prop := fun xs H Q => ∃ (d : Addr) (kvs : List (Key × V)), xs = [.ref d] ∧ Rd H d (.dK kvs) ∧ kvs.length < 64 ∧
  ∀ p, H p = none → Q (.ref p) (upd H p (SetIO X.prog X.w p (fun k : Key => kvs.any fun x => decide (x.1 = k)) kvs.length))
theorem cr_setDK : CallR X (.type "set") (rSetDK X) := by
  intro pins s σ H xs us Q I r q
  obtain ⟨d, kvs, rfl, hd, hfew, q⟩ := q
  obtain ⟨u, rfl, ru⟩ := r.one
  cases (show u = Value.ref d from ru)
  obtain ⟨_, low, vs, rel, m⟩ := dk_rd I.hok hd
  refine set_of_dictK vs m low (by rw [← rel.length]; exact hfew) fun h' R k => ?_
  have e : ∀ k : Key, (vs.any fun x => decide (x.1 = k)) = kvs.any fun x => decide (x.1 = k) := fun k => (KV.any rel k).symm
  rw [← rel.length] at R
  have R := setOf_is R e rfl
  exact ⟨.ref s.heap.objs.size, _, I.laid (t' := s.toks) k (Nat.le_refl _) (setIO_ok R), rfl, q _ (I.hok.fresh (Nat.le_refl _))⟩
def rSetLI (X : Cx) : List V → Hp → VK → Prop := fun xs H Q => ∃ (l : Addr) (ns : List Int), xs = [.ref l] ∧ SqL X.K H l (ns.map .int) ∧ ns.length < 64 ∧
  ∀ p (ds : List Int), H p = none → ds.Nodup → (∀ k, k ∈ ds ↔ k ∈ ns) → Q (.ref p) (upd H p (SetJO X.prog X.w p (fun k : Int => decide (k ∈ ns)) ds.length))
theorem any_mem (l : List Int) (k : Int) : l.any (· == k) = decide (k ∈ l) := by
  by_cases h : k ∈ l
  · rw [decide_eq_true h, List.any_eq_true]
    exact ⟨k, h, by simp⟩
  · rw [decide_eq_false h, List.any_eq_false]
    intro x hx e
    exact h ((by simpa using e : x = k) ▸ hx)
theorem firstMet_nd (val : Nat → Int) : ∀ i, (firstMet val i).Nodup
  | 0 => List.nodup_nil
  | i + 1 => by
    rw [firstMet_succ]
    unfold step_dedup
    split
    · exact firstMet_nd val i
    · rename_i hc
      rw [any_mem] at hc
      have : val i ∉ firstMet val i := by simpa using hc
      first
        | exact List.nodup_cons.mpr ⟨this, firstMet_nd val i⟩
        | (rw [List.nodup_append]
           exact ⟨firstMet_nd val i, by simp, fun a ha b hb => by
             cases List.mem_singleton.mp hb
             exact fun e => this (e ▸ ha)⟩)
theorem ints_vals : ∀ {ns : List Int} {us : List Value}, Vals (ns.map V.int) us → IntsAre us ns
  | [], _, .nil => .nil
  | n :: ns, _, .cons h t => by
    obtain ⟨tk, e⟩ := (show ∃ tk, _ = Value.int n tk from h)
    subst e
    exact .cons n tk (ints_vals t)
theorem range_getD (ns : List Int) : (List.range ns.length).map (fun i => ns.getD i 0) = ns := by
  apply List.ext_getElem?
  intro i
  rw [List.getElem?_map]
  by_cases h : i < ns.length
  · rw [List.getElem?_range h, List.getElem?_eq_getElem h]
    simp [List.getD_eq_getElem?_getD, h]
  · rw [List.getElem?_eq_none (by simpa using h), List.getElem?_eq_none (by omega)]
    rfl
theorem cr_setLI (hc : X.calm = true) : CallR X (.type "set") (rSetLI X) := by
  intro pins s σ H xs us Q I r q
  obtain ⟨l, ns, rfl, hl, hfew, q⟩ := q
  obtain ⟨u, rfl, ru⟩ := r.one
  cases (show u = Value.ref l from ru)
  obtain ⟨its, rv, pl, _⟩ := I.list hl
  have hi := ints_vals rv
  have hlen : its.length = ns.length := by rw [← rv.length, List.length_map]
  have hm : ∀ k, (firstMet (fun i => ns.getD i 0) ns.length).any (· == k) = decide (k ∈ ns) := fun k => by rw [firstMet_any, range_getD, any_mem]
  refine PySem.call_set_list (items := its.toArray) (ns := ns) (I.ok.hd hc) pl.isList (by simpa using hi) (by unfold scanBound; simp; omega) fun h' tk R k => ?_
  have hsz : its.toArray.size = ns.length := by simpa using hlen
  rw [hsz] at R
  refine ⟨.ref s.heap.objs.size, _, I.laid (t' := tk) (fun b o e => k b o (Heap.lt_size e) e) (Nat.le_refl _) (setJO_ok (SetOf_congr R hm rfl)), rfl, q _ _ (I.hok.fresh (Nat.le_refl _)) (firstMet_nd _ _) fun j => ?_⟩
  have := hm j
  rw [any_mem] at this
  by_cases h1 : j ∈ ns <;> by_cases h2 : j ∈ firstMet (fun i => ns.getD i 0) ns.length <;> simp_all
end
end Sh
set_option Elab.async false
set_option linter.all false
set_option maxRecDepth 100000
set_option maxHeartbeats 1600000
/-! ShS7: == of sets that have the same members, by what stands and by D's. -/
namespace Sh
open PySem PySem.Spec PyProof.Rows L2
section
variable {P : Program} {w : World} {A : Around} {E : Value → Shared → Prop} {s : Shared}
theorem quiet_tup {k : List Key} {b : Addr} {Q : Bool → Shared → Prop} (hk : MT P w s.heap k b) (h : ∀ c, Q c s) : wpAny (model P w) A (Builtin.Frozenset.quietEq (.ref b)) Q E s := by
  unfold Builtin.Frozenset.quietEq
  refine wpAny_bind (wpAny_specialOf hk.typeIs F.slot_tuple_eq.lookup ?_)
  exact wpAny_pure (h _)
end
section
variable {X : Cx}
theorem inv_drew {pins : List (Addr × Obj)} {σ : L2.St} {H : Hp} {s : Shared} (I : L2.Inv X pins σ H s) (d : Drawn) : L2.Inv X pins σ H { s with drawn := d } :=
  ⟨I.ok, I.os, I.bare, I.base, I.loc, I.cell, I.free, I.freeC, I.pin, I.hok, I.len⟩
def rEqPO (X : Cx) : R2 := fun x y H Q => ∃ (a b : Addr) (L M : Rw), x = .ref a ∧ y = .ref b ∧ H a = some (SetPO X.prog X.w a L) ∧ H b = some (SetPO X.prog X.w b M) ∧ (∀ q ∈ L, H q.1 = some (.tup (q.2.map kV))) ∧ (∀ q ∈ M, H q.1 = some (.tup (q.2.map kV))) ∧
  (L.map (·.2)).Perm (M.map (·.2)) ∧ Q (.bl true) H
theorem op_eqPO (hu : X.A.units + 1 < cLine) : OpR X (compareOp .Eq) (rEqPO X) := by
  intro pins s σ H x y v u Q I rx ry h
  obtain ⟨a, b, L, M, rfl, rfl, ha, hb, tL, tM, pm, q⟩ := h
  cases (show v = Value.ref a from rx)
  cases (show u = Value.ref b from ry)
  obtain ⟨es, ep, t, R⟩ := (show ObjOk X.prog X.w H s.heap a (SetPO X.prog X.w a L) from I.hok a _ ha).1
  obtain ⟨es2, ep2, t2, R2⟩ := (show ObjOk X.prog X.w H s.heap b (SetPO X.prog X.w b M) from I.hok b _ hb).1
  have kL : ∀ q ∈ L, MT X.prog X.w s.heap q.2 q.1 := fun q hq => key_of I.hok (tL q hq)
  have kM : ∀ q ∈ M, MT X.prog X.w s.heap q.2 q.1 := fun q hq => key_of I.hok (tM q hq)
  refine eq_sets R.walkable R2.walkable (.inl R.led) (by omega) (fun e he A' E' Q' hQ' => ?_) ?_ (fun e he s' E' Q' hs hQ' => ?_) fun d => ?_
  · rcases List.mem_append.mp he with he | he
    · rw [R.rows] at he
      obtain ⟨q, hq, rfl⟩ := List.mem_map.mp he
      exact quiet_tup (kL q hq) hQ'
    · rw [R2.rows] at he
      obtain ⟨q, hq, rfl⟩ := List.mem_map.mp he
      exact quiet_tup (kM q hq) hQ'
  · rw [R.size, R2.size]
    have := pm.length_eq
    simpa using this
  · rw [R.rows] at he
    obtain ⟨q, hq, rfl⟩ := List.mem_map.mp he
    obtain ⟨hp, g, d, tk, os⟩ := s'
    simp only at hs
    subst hs
    refine find_at (s := ⟨s.heap, g, d, tk, os⟩) R2 kM (kL q hq) (by show X.A.units + 1 < cLine; exact hu) ?_ hQ'
    exact pm.mem_iff.mp (List.mem_map.mpr ⟨q, hq, rfl⟩)
  · exact ⟨.bl true, H, inv_drew I d, rfl, q⟩
def rEqIJ (X : Cx) : R2 := fun x y H Q => ∃ (a b : Addr) (S : Key → Bool) (S' : Int → Bool) (n : Nat), x = .ref a ∧ y = .ref b ∧ H a = some (SetIO X.prog X.w a S n) ∧ H b = some (SetJO X.prog X.w b S' n) ∧
  (∀ k, S k = true → ∃ i, k = .inl i ∧ S' i = true) ∧ (∀ i, S' i = true → S (.inl i) = true) ∧ Q (.bl true) H
theorem op_eqIJ (hu : X.A.units + 1 < cLine) : OpR X (compareOp .Eq) (rEqIJ X) := by
  intro pins s σ H x y v u Q I rx ry h
  obtain ⟨a, b, S, S', n, rfl, rfl, ha, hb, sub, sup, q⟩ := h
  cases (show v = Value.ref a from rx)
  cases (show u = Value.ref b from ry)
  have R := (show ObjOk X.prog X.w H s.heap a (SetIO X.prog X.w a S n) from I.hok a _ ha).1
  have R2 := (show ObjOk X.prog X.w H s.heap b (SetJO X.prog X.w b S' n) from I.hok b _ hb).1
  obtain ⟨o, es, ep, t, ho, hx, hd, hel, hmem, hb1, hf, hn⟩ := R
  have R2' := R2
  obtain ⟨o2, es2, ep2, t2, ho2, hx2, hd2, hel2, hmem2, hb2, hf2, hn2⟩ := R2
  have shape : ∀ e ∈ es.toList, ∃ i tk, e.2 = Value.int i tk ∧ e.1 = (intKind X.prog X.w).hash i ∧ S' i = true := fun e he => by
    obtain ⟨⟨k, hk, hh⟩, _⟩ := hel e he
    obtain ⟨i, rfl, hs⟩ := sub k ((hmem k).2 ⟨e, he, hk⟩)
    rcases keyIs_shape (show keyIs (Sum.inl i) e.2 = true from hk) with ⟨j, tk, e1, e2⟩ | ⟨z, tk, e1, _⟩
    · cases e1
      exact ⟨i, tk, e2, hh, hs⟩
    · cases e1
  have shape2 : ∀ e ∈ es2.toList, ∃ i tk, e.2 = Value.int i tk := fun e he => by
    obtain ⟨⟨k, hk, hh⟩, _⟩ := hel2 e he
    obtain ⟨tk, e2⟩ := Value.isInt_shape (k := k) (v := e.2) hk
    exact ⟨k, tk, e2⟩
  have quiet : ∀ e ∈ es.toList ++ es2.toList, Builtin.Frozenset.quietEq e.2 = pure true := fun e he => by
    rcases List.mem_append.mp he with he | he
    · obtain ⟨i, tk, e2, _⟩ := shape e he
      rw [e2]; rfl
    · obtain ⟨i, tk, e2⟩ := shape2 e he
      rw [e2]; rfl
  refine eq_sets (w := X.w) ⟨⟨o, ho, hx, hd⟩, hf⟩ ⟨⟨o2, ho2, hx2, hd2⟩, hf2⟩ (.inr quiet) (by omega) (fun e he A' E' Q' hQ' => wpAny_of_eq (quiet e he) (hQ' _)) (hn.trans hn2.symm) (fun e he s' E' Q' hs hQ' => ?_) fun d => ?_
  · obtain ⟨i, tk, e2, eh, hS'⟩ := shape e he
    obtain ⟨hp, g, d, tk', os⟩ := s'
    simp only at hs
    subst hs
    rw [e2, eh]
    refine wpAny_setFind_of (s := ⟨s.heap, g, d, tk', os⟩) (knd := intKind X.prog X.w) (k := i) (intKind_is _ _ _ _) rfl R2' fun r hr => ?_
    rw [hS'] at hr
    cases r with
    | none => cases hr
    | some j => exact hQ' j
  · exact ⟨.bl true, H, inv_drew I d, rfl, q⟩
end
/-! by D's -/
section
variable {b : Bx} {ρ : Ro} {ta tb : TE} {X : Cx}
theorem reps_rw {G H : Hp} (s : Same G H) : ∀ {ps : List Pr} {xs : List V}, Reps G (ps.map pD) xs → ∃ ks : Rw, xs = ks.map (fun q => V.ref q.1) ∧ ks.map (·.2) = ps.map pK ∧ ∀ q ∈ ks, G q.1 = some (.tup (q.2.map kV))
  | [], _, e => by cases e; exact ⟨[], rfl, rfl, fun q hq => by cases hq⟩
  | p :: ps, _, e => by
    obtain ⟨v, r, rfl, h2, h3⟩ := e
    obtain ⟨a, rfl, h5⟩ := rep_pD h2
    obtain ⟨ks, rfl, k2, k3⟩ := reps_rw s h3
    exact ⟨(a, pK p) :: ks, rfl, by simp [k2], fun q hq => by
      rcases List.mem_cons.mp hq with rfl | hq
      · exact h5
      · exact k3 q hq⟩
theorem pK_nodup {ps : List Pr} (h : ps.Nodup) : (ps.map pK).Nodup := by
  induction ps with
  | nil => exact List.nodup_nil
  | cons p ps ih =>
    rw [List.nodup_cons] at h
    rw [List.map_cons, List.nodup_cons]
    refine ⟨fun hm => ?_, ih h.2⟩
    obtain ⟨q, hq, e⟩ := List.mem_map.mp hm
    exact h.1 (pK_inj e ▸ hq)
theorem setPO_notup {P : Program} {w : World} {a : Addr} {L : Rw} : ∀ xs, SetPO P w a L ≠ .tup xs := fun xs z => by unfold SetPO at z; cases z
/-- set(d) == set(ps), the keys of d are the pairs ps -/
theorem ev_eqSetP {tA tB : TA} {kvs : List (List Key × D)} {ps : List Pr} {ds : List Pr} (ha : EvA b tA ρ [.dT kvs]) (hb : EvA b tB ρ [.lst (ps.map pD)]) (hd : kvs.map (·.1) = ds.map pK) (hp : ds.Perm ps) (hn : ps.Nodup) (hl : ps.length < 64) :
    Ev b (tOp (rEqPO X) (tCB (rSetD X) tA) (tCB (rSetL X) tB)) ρ (.bl true) := fun σ G H l E s Q q =>
  ha σ G H l E s _ fun vs H1 G1 g1 r1 => by
    obtain ⟨v, rfl, a, xs, rfl, h2, h3⟩ := r1.one'
    have r := repT_iff.mp h3
    have hk : xs.map (·.1) = ds.map pK := r.keys.symm.trans hd
    have hlen : xs.length = ps.length := by
      have := congrArg List.length hk
      rw [List.length_map, List.length_map] at this
      rw [this, hp.length_eq]
    refine ⟨a, xs, rfl, rd_same g1.sub h2, by rw [hlen]; exact hl, fun p L hp1 tL pL => ?_⟩
    have g2 : Gr H1 G1 (upd H1 p (SetPO X.prog X.w p L)) G1 := .own g1.sub hp1
    refine hb σ G1 _ ((l.gr g1).gr g2) (E.mono g1.gx) g2.sub _ fun vs H3 G3 g3 r3 => ?_
    obtain ⟨v, rfl, c, ys, rfl, h5, h6⟩ := r3.one'
    obtain ⟨ks, rfl, k2, k3⟩ := reps_rw g3.sub h6
    refine ⟨c, ks, rfl, SqL.of (g3.sub _ _ h5), fun q hq => g3.sub _ _ (k3 q hq), by rw [k2]; exact pK_nodup hn, by have := congrArg List.length k2; rw [List.length_map, List.length_map] at this; omega, fun p2 L2 hp2 pm => ?_⟩
    have g4 : Gr H3 G3 (upd H3 p2 (SetPO X.prog X.w p2 L2)) G3 := .own g3.sub hp2
    have eA : H3 p = some (SetPO X.prog X.w p L) := g3.ex _ _ upd_same
    refine ⟨p, p2, L, L2, rfl, rfl, g4.ex _ _ eA, upd_same, fun q hq => g4.ex _ _ (g3.ex _ _ (g2.ex _ _ (tL q hq))), fun q hq => g4.ex _ _ (g3.sub _ _ (k3 q (pm.mem_iff.mp hq))), ?_, ?_⟩
    · refine pL.trans ?_
      rw [hk]
      exact (hp.map pK).trans ((List.Perm.of_eq k2.symm).trans (pm.map (·.2)).symm)
    · exact q _ _ G3 (((g1.trans g2).trans g3).trans g4) rfl
theorem iK_nodup {ns : List Int} (h : (ns.map fun i => (Sum.inl i : Key)).Nodup) : ns.Nodup := List.Pairwise.of_map _ (fun _ _ hne e => hne (congrArg _ e)) h
/-- set(d) == set(ns), the keys of d are the numbers ns -/
theorem ev_eqSetI {tA tB : TA} {kvs : List (Key × D)} {ns ds : List Int} (ha : EvA b tA ρ [.dK kvs]) (hb : EvA b tB ρ [.lst (ns.map .int)]) (hd : kvs.map (·.1) = ds.map Sum.inl) (hn : ds.Nodup) (hm : ∀ i, i ∈ ds ↔ i ∈ ns) (hl : ds.length < 64) (hl2 : ns.length < 64) :
    Ev b (tOp (rEqIJ X) (tCB (rSetDK X) tA) (tCB (rSetLI X) tB)) ρ (.bl true) := fun σ G H l E s Q q =>
  ha σ G H l E s _ fun vs H1 G1 g1 r1 => by
    obtain ⟨v, rfl, a, xs, rfl, h2, h3⟩ := r1.one'
    have r := repK_iff.mp h3
    have hk : xs.map (·.1) = ds.map Sum.inl := r.keys.symm.trans hd
    have hlen : xs.length = ds.length := by
      have := congrArg List.length hk
      rwa [List.length_map, List.length_map] at this
    refine ⟨a, xs, rfl, rd_same g1.sub h2, by rw [hlen]; exact hl, fun p hp1 => ?_⟩
    have g2 : Gr H1 G1 (upd H1 p (SetIO X.prog X.w p (fun k : Key => xs.any fun x => decide (x.1 = k)) xs.length)) G1 := .own g1.sub hp1
    refine hb σ G1 _ ((l.gr g1).gr g2) (E.mono g1.gx) g2.sub _ fun vs H3 G3 g3 r3 => ?_
    obtain ⟨v, rfl, c, ys, rfl, h5, h6⟩ := r3.one'
    have e6 := h6.ints
    subst e6
    refine ⟨c, ns, rfl, SqL.of (g3.sub _ _ h5), hl2, fun p2 es hp2 en em => ?_⟩
    have el : xs.length = es.length := by
      rw [hlen]
      exact ((List.perm_ext_iff_of_nodup hn en).mpr fun i => (hm i).trans (em i).symm).length_eq
    have g4 : Gr H3 G3 (upd H3 p2 (SetJO X.prog X.w p2 (fun k : Int => decide (k ∈ ns)) es.length)) G3 := .own g3.sub hp2
    have mem : ∀ k : Key, (xs.any fun x => decide (x.1 = k)) = true ↔ ∃ i ∈ ds, k = Sum.inl i := fun k => by
      rw [List.any_eq_true]
      constructor
      · rintro ⟨x, hx, e⟩
        have : x.1 ∈ ds.map Sum.inl := hk ▸ List.mem_map.mpr ⟨x, hx, rfl⟩
        obtain ⟨i, hi, e2⟩ := List.mem_map.mp this
        exact ⟨i, hi, by rw [e2]; exact (by simpa using e : x.1 = k).symm⟩
      · rintro ⟨i, hi, rfl⟩
        have : Sum.inl i ∈ xs.map (·.1) := hk ▸ List.mem_map.mpr ⟨i, hi, rfl⟩
        obtain ⟨x, hx, e⟩ := List.mem_map.mp this
        exact ⟨x, hx, by simpa using e⟩
    refine ⟨p, p2, _, _, es.length, rfl, rfl, g4.ex _ _ (el ▸ g3.ex _ _ upd_same), upd_same, fun k hk' => ?_, fun i hi => ?_, q _ _ G3 (((g1.trans g2).trans g3).trans g4) rfl⟩
    · obtain ⟨i, hi, rfl⟩ := (mem k).mp hk'
      exact ⟨i, rfl, by simpa using (hm i).mp hi⟩
    · exact (mem _).mpr ⟨i, (hm i).mpr (by simpa using hi), rfl⟩
end
end Sh
set_option Elab.async false
set_option linter.all false
set_option maxRecDepth 100000
set_option maxHeartbeats 1600000
/-! ShS8: sorted(set(xs)) of texts. -/
namespace Sh
open PySem PySem.Spec PyProof.Rows L2
def keyT (e : Int × Value) : Str := match e.2 with | .str k _ => k | _ => ""
def GoodT (w : World) (e : Int × Value) : Prop := ∃ k tk, e.2 = Value.str k tk ∧ e.1 = hashStr w k
/-- the set of the texts l at a: it may be walked -/
structure TSet (P : Program) (w : World) (h : Heap) (a : Addr) (l : List Str) : Prop where
  ex : ∃ o es ep t, h.get? a = some o ∧ o.ExactSet ∧ o.data = .set es ep t ∧ (∀ e ∈ es.toList, GoodT w e) ∧ (es.toList.map keyT).Nodup ∧ (∀ k, k ∈ l ↔ k ∈ es.toList.map keyT) ∧
    es.size < scanBound ∧ t.fits es.size = true ∧ Ris t.place.toList ∧ (w.params.followText "set-order" = true ∨ t.led = true) ∧ es.size ≤ l.length
section
variable {P : Program} {w : World} {A : Around} {E : Value → Shared → Prop} {s : Shared} {a : Addr} {l : List Str}
theorem TSet.keep {h h' : Heap} (R : TSet P w h a l) (k : ∀ o, h.get? a = some o → h'.get? a = some o) : TSet P w h' a l := by
  obtain ⟨o, es, ep, t, ho, r⟩ := R.ex
  exact ⟨o, es, ep, t, k o ho, r⟩
theorem goodT_is {e : Int × Value} (g : GoodT w e) (k : Str) : (strKind P w).is k e.2 = true ↔ keyT e = k := by
  obtain ⟨k0, tk, h1, _⟩ := g
  unfold keyT
  rw [h1]
  show Value.isStrOf k (.str k0 tk) = true ↔ k0 = k
  simp [Value.isStrOf]
theorem goodT_elems {es : List (Int × Value)} (g : ∀ e ∈ es, GoodT w e) : ElemsOf (strKind P w) es := fun e he => by
  obtain ⟨k, tk, h1, h2⟩ := g e he
  exact ⟨⟨k, by rw [h1]; exact strKind_is P w k tk, h2⟩, by rw [h1]; rfl⟩
/-- one more text -/
theorem tset_add {k : Str} {tk : Tok} {Q : Bool → Shared → Prop} (R : TSet P w s.heap a l) (room : l.length + 1 < scanBound)
    (hQ : ∀ c h', Heap.SameBut a s.heap h' → TSet P w h' a (l ++ [k]) → Q c { s with heap := h' }) : wpAny (model P w) A (setAddHashed a (.str k tk) (hashStr w k)) Q E s := by
  obtain ⟨o, es, ep, t, ho, hex, hd, g, nd, hm, hb, hf, hr, hl, hle⟩ := R.ex
  have hkey : (strKind P w).is k (.str k tk) = true := strKind_is P w k tk
  have hel : ElemsOf (strKind P w) es.toList := goodT_elems g
  unfold setAddHashed setAddHashedIn
  refine wpAny_holding (wpAny_bind (wpAny_setState_of ho hd hf ?_))
  dsimp only
  rw [byScan_of rfl hb hel]
  simp only [↓reduceIte]
  unfold setAddByScan
  refine wpAny_bind ?_
  refine wpAny_bind (wpAny_rule ?_)
  refine wpAny_bind (wpAny_setScan_of (knd := strKind P w) (k := k) hkey ho hd hf hel ?_)
  cases hfi : List.findIdx? (fun e => (strKind P w).is k e.2) es.toList with
  | some j =>
    dsimp only
    obtain ⟨hj, pj, _⟩ := List.findIdx?_eq_some_iff_getElem.mp hfi
    have hk : k ∈ es.toList.map keyT := List.mem_map.mpr ⟨_, List.getElem_mem hj, (goodT_is (g _ (List.getElem_mem hj)) k).mp pj⟩
    refine wpAny_pure (wpAny_pure (hQ false s.heap (Heap.SameBut.refl a s.heap) ⟨o, es, ep, t, ho, hex, hd, g, nd, fun i => ?_, hb, hf, hr, hl, by simp; omega⟩))
    rw [List.mem_append, List.mem_singleton, hm i]
    exact ⟨fun z => z.elim id fun e => e ▸ hk, .inl⟩
  | none =>
    dsimp only
    have hnk : k ∉ es.toList.map keyT := fun z => by
      obtain ⟨e, he, q⟩ := List.mem_map.mp z
      have c := List.findIdx?_eq_none_iff.mp hfi e he
      rw [(goodT_is (P := P) (g e he) k).mpr q] at c
      cases c
    have hgw : ∀ (b : Bool) {s₁ : Shared} {Q' : Unit → Shared → Prop}, Q' () s₁ → wpAny (model P w) A (match b with | true => rule "set.scan.the-table-gave-way" | false => pure ()) Q' E s₁ :=
      fun b s₁ Q' q => by cases b <;> first | exact wpAny_pure q | exact wpAny_rule q
    have pm := layNew_perm t es (hashStr w k) (.str k tk)
    have hf1 := layNew_fits t es (hashStr w k) (.str k tk)
    have hr1 := layNew_ris t es (hashStr w k) (.str k tk) hr
    have hl1 := layNew_led t es (hashStr w k) (.str k tk)
    show wpAny _ _ ((match layNew t es (hashStr w k) (.str k tk) with | (es, t, wasDummy, gave) => _) : Sem _) _ _ _
    generalize layNew t es (hashStr w k) (.str k tk) = Z at pm hf1 hr1 hl1 ⊢
    obtain ⟨es1, t1, wasDummy, gave⟩ := Z
    dsimp only at pm hf1 hr1 hl1 ⊢
    rw [Array.toList_push] at pm
    have pc : es1.toList.Perm ((hashStr w k, Value.str k tk) :: es.toList) := pm.trans (List.perm_append_singleton _ _)
    have pk : (es1.toList.map keyT).Perm (k :: es.toList.map keyT) := pc.map keyT
    have g1 : ∀ e ∈ es1.toList, GoodT w e := fun e he => by
      rcases List.mem_cons.mp (pc.mem_iff.mp he) with z | z
      · rw [z]; exact ⟨k, tk, rfl, rfl⟩
      · exact g e z
    have nd1 : (es1.toList.map keyT).Nodup := pk.nodup_iff.mpr (List.nodup_cons.mpr ⟨hnk, nd⟩)
    have m1 : ∀ i, i ∈ l ++ [k] ↔ i ∈ es1.toList.map keyT := fun i => by
      rw [List.mem_append, List.mem_singleton, hm i, pk.mem_iff, List.mem_cons]
      exact Or.comm
    have hsz : es1.size = es.size + 1 := by rw [← Array.length_toList, pc.length_eq, List.length_cons, Array.length_toList]
    have hb1 : es1.size < scanBound := by omega
    have hled : w.params.followText "set-order" = true ∨ t1.led = true := hl.imp id fun z => by rw [hl1]; exact z
    have hle1 : es1.size ≤ (l ++ [k]).length := by simp; omega
    have tail : ∀ (t2 : SetTable), t2.fits es1.size = true → Ris t2.place.toList → (w.params.followText "set-order" = true ∨ t2.led = true) → ∀ (R : Option Bool → Shared → Prop), (∀ h', Heap.SameBut a s.heap h' → TSet P w h' a (l ++ [k]) → R (some true) { s with heap := h' }) →
        wpAny (model P w) A (do
          storeSet a es1 t2
          if (!wasDummy && t2.tooFull) = true then do
            (match (relayAll t2 es1 (SetTable.grown es1.size)).2.2 with | true => rule "set.scan.the-table-gave-way" | false => pure ())
            storeSet a (relayAll t2 es1 (SetTable.grown es1.size)).1 (relayAll t2 es1 (SetTable.grown es1.size)).2.1
            pure (some true)
          else pure (some true)) R E s := fun t2 hf2 hr2 hl2 R hR => by
      refine wpAny_bind (wpAny_storeSet_of ho hd ?_ (fits_of_scanBound hb1))
      have ho1 := store_at (es' := es1) (t' := t2) ho hd
      have sb1 := Heap.SameBut.update s.heap a (Obj.putSet es1 t2)
      split
      · have pm2 := relayAll_perm t2 es1 (SetTable.grown es1.size)
        have hf3 := relayAll_fits t2 es1 (SetTable.grown es1.size)
        have hr3 := relayAll_ris t2 es1 (SetTable.grown es1.size)
        have hl3 := relayAll_led t2 es1 (SetTable.grown es1.size)
        generalize relayAll t2 es1 (SetTable.grown es1.size) = Z at pm2 hf3 hr3 hl3 ⊢
        obtain ⟨es2, t3, gave2⟩ := Z
        dsimp only at pm2 hf3 hr3 hl3 ⊢
        have hsz2 : es2.size = es1.size := by rw [← Array.length_toList, pm2.length_eq, Array.length_toList]
        refine wpAny_bind (hgw _ ?_)
        refine wpAny_bind (wpAny_storeSet_of ho1 rfl ?_ (fits_of_scanBound (by omega)))
        have ho2 := store_at (es' := es2) (t' := t3) ho1 rfl
        exact wpAny_pure (hR _ (sb1.trans (Heap.SameBut.update _ a _)) ⟨_, es2, _, t3, ho2, hex, rfl, fun e he => g1 e (pm2.mem_iff.mp he), (pm2.map keyT).nodup_iff.mpr nd1, fun k => (m1 k).trans (pm2.map keyT).mem_iff.symm, by omega, hf3, hr3,
          hl2.imp id fun z => by rw [hl3]; exact z, by omega⟩)
      · exact wpAny_pure (hR _ sb1 ⟨_, es1, _, t2, ho1, hex, rfl, g1, nd1, m1, hb1, hf2, hr2, hl2, hle1⟩)
    refine wpAny_bind (hgw _ ?_)
    split
    · refine wpAny_bind ?_
      rw [hashByValue_scannable 8 (x := Value.str k tk) rfl]
      refine wpAny_pure ?_
      refine tail _ ?_ ?_ ?_ _ ?_
      · first | (split <;> first | exact hf1 | exact SetTable.fits_plain_off hf1) | exact hf1
      · first | (split <;> exact hr1) | exact hr1
      · first | (split <;> exact hled) | exact hled
      · intro h' sb r; dsimp only; exact wpAny_pure (hQ true h' sb r)
    · refine wpAny_bind (wpAny_pure ?_)
      simp only [↓reduceIte]
      refine tail _ hf1 hr1 hled _ ?_
      intro h' sb r; dsimp only; exact wpAny_pure (hQ true h' sb r)
theorem tset_fresh {h : Heap} {a : Addr} (ho : h.get? a = some (freshSet w)) : TSet P w h a [] :=
  ⟨_, #[], 0, _, ho, ⟨rfl, rfl, rfl⟩, rfl, (fun e he => by simp at he), (by simp), (fun k => by simp), (by decide), (by rfl), List.Pairwise.nil, (by
    show _ ∨ (!w.params.followText "set-order") = true
    cases w.params.followText "set-order"
    · exact .inr rfl
    · exact .inl rfl), Nat.le_refl _⟩
/-- set.update's loop over texts -/
theorem pourT {I : Addr} {fp wr : List Addr} {G : Array GenState → Array GenState → Prop} {n : Nat} {Pv : Nat → Value → Prop} {St : Nat → Shared → Prop} {R : Result → Shared → Prop}
    (W : WalksS P w A.in1 I fp wr G n Pv St) (S : Addr) (hSf : S ∉ fp) (ks : List Str) (hn : n = ks.length) (hfew : ks.length < 64) (hval : ∀ i v, Pv i v → ∃ k tk, ks[i]? = some k ∧ v = .str k tk) (h0 : Heap) (hS0 : h0.get? S = none) (hw0 : ∀ b ∈ wr, h0.get? b = none) :
    ∀ (k i : Nat) (s : Shared), n - i = k → i ≤ n → St i s → (∀ b o, h0.get? b = some o → s.heap.get? b = some o) → TSet P w s.heap S (ks.take i) →
      (∀ s', Moved (S :: wr) G s s' → TSet P w s'.heap S ks → (∀ b o, h0.get? b = some o → s'.heap.get? b = some o) → R (.ok (.ret .none)) s') →
      codeAny (model P w) A (.builtin "set.update.loop" ⟨[.ref S, .ref I], []⟩) R s := by
  have hSw : S ∉ wr := fun h => hSf (W.sub _ h)
  have hsub : ∀ b ∈ wr, b ∈ S :: wr := fun b hb => List.mem_cons_of_mem _ hb
  have keepM : ∀ {s s' : Shared}, Moved wr G s s' → (∀ b o, h0.get? b = some o → s.heap.get? b = some o) → ∀ b o, h0.get? b = some o → s'.heap.get? b = some o := fun hm hkp b o e =>
    hm.heap b o (fun hb => by rw [hw0 b hb] at e; cases e) (hkp b o e)
  intro k
  induction k with
  | zero =>
    intro i s hk' hi hst hkp hS hR
    have hin : i = n := by omega
    subst hin
    refine codeAny_builtin F.entry_set_update_loop ?_
    rw [Around.under_plainId F.plain_set_update_loop _]
    show wpAny _ A.in1 (pyNext (.ref I) >>= _) _ _ s
    refine wpAny_bind (W.done s _ _ hst fun s' hm => ?_)
    show wpAny _ A.in1 (ret Value.none) _ _ s'
    rw [hn, List.take_length] at hS
    exact wpAny_pure (hR s' (hm.mono hsub) (hS.keep fun o e => hm.heap S o hSw e) (keepM hm hkp))
  | succ k ih =>
    intro i s hk' hi hst hkp hS hR
    have hlt : i < n := by omega
    refine codeAny_builtin F.entry_set_update_loop ?_
    rw [Around.under_plainId F.plain_set_update_loop _]
    show wpAny _ A.in1 (pyNext (.ref I) >>= _) _ _ s
    refine wpAny_bind (W.item i s _ _ hlt hst fun v s' hP hst' hm => ?_)
    obtain ⟨p, tk, hp, rfl⟩ := hval i v hP
    have hkp' := keepM hm hkp
    have hS' : TSet P w s'.heap S (ks.take i) := hS.keep fun o e => hm.heap S o hSw e
    have tn : ks.take (i + 1) = ks.take i ++ [p] := by rw [List.take_succ, hp]; rfl
    show wpAny _ A.in1 (holding [Value.str p tk] (setAdd S (.str p tk)) >>= _) _ _ s'
    refine wpAny_bind (wpAny_holding ?_)
    unfold setAdd
    refine wpAny_holding ?_
    refine wpAny_bind ((strKind P w).pyHash (k := p) (strKind_is P w p tk) ?_)
    refine tset_add (s := { s' with toks := s'.toks + 1 }) hS' (by rw [List.length_take]; unfold scanBound; omega) fun c h' hsb hS2 => ?_
    rw [← tn] at hS2
    have hkp2 : ∀ b o, h0.get? b = some o → h'.get? b = some o := fun b o e => (hsb.2 b (fun z => by rw [z, hS0] at e; cases e)).trans (hkp' b o e)
    refine wpAny_pure ⟨plainId_quiet F.plain_set_update_loop _, ih (i + 1) _ (by omega) hlt (W.frame _ s' _ _ hst' (Nat.le_add_right _ _) fun b hb o e => ?_) hkp2 hS2 fun s'' hm'' hS'' hkp'' => ?_⟩
    · rw [hsb.2 b (fun h : b = S => hSf (by rw [← h]; exact hb))]; exact e
    · refine hR s'' (Moved.trans W.gtrans ((hm.mono hsub).then_heap (Nat.le_add_right _ _) fun b o hb e => ?_) hm'') hS'' hkp''
      rw [hsb.2 b (fun h : b = S => hb (by rw [h]; exact List.mem_cons_self))]; exact e
theorem set_of_strs {l : Addr} {items : Array Value} (ks : List Str) {Q : Value → Shared → Prop} (hh : A.handled = none) (hl : s.heap.IsList l items) (hit : StrsAre items.toList ks) (hfew : ks.length < 64)
    (h : ∀ (h' : Heap) (tk : Nat), TSet P w h' s.heap.objs.size ks → (∀ b o, s.heap.get? b = some o → h'.get? b = some o) → Q (.ref s.heap.objs.size) { s with heap := h', toks := tk }) :
    wpAny (model P w) A (call (.type "set") [.ref l]) Q E s := by
  refine call_set_with ?_
  have hlen : ∀ {vs : List Value} {ks : List Str}, StrsAre vs ks → vs.length = ks.length ∧ ∀ (i : Nat) v, vs[i]? = some v → ∃ k tk, ks[i]? = some k ∧ v = .str k tk := by
    intro vs ks r
    induction r with
    | nil => exact ⟨rfl, fun i v e => by simp at e⟩
    | cons y t r ih =>
      refine ⟨by simp [ih.1], fun i v e => ?_⟩
      cases i with
      | zero => simp at e; subst e; exact ⟨y, t, rfl, rfl⟩
      | succ i => simp at e; obtain ⟨k, tk, e1, e2⟩ := ih.2 i v e; exact ⟨k, tk, by simpa using e1, e2⟩
  obtain ⟨hn1, hn2⟩ := hlen hit
  have hisz : items.size = ks.length := by rw [← Array.length_toList]; exact hn1
  have hS : (withSet w s).heap.get? s.heap.objs.size = some (freshSet w) := Heap.get?_push_size _ rfl
  have hl1 : (withSet w s).heap.IsList l items := hl.push _
  have hT : (withSet w s).TypeIs (.ref l) "list" := let ⟨o, ho, hc, _⟩ := hl1; ⟨o, ho, hc⟩
  have hlS : l < s.heap.objs.size := let ⟨o, ho, _⟩ := hl; Heap.lt_size ho
  have hz1 : (withSet w s).heap.objs.size = s.heap.objs.size + 1 := Heap.size_push ..
  unfold Builtin.Frozenset.updateFrom
  refine wpAny_bind ?_
  unfold Builtin.Frozenset.isAnySet
  refine wpAny_bind (wpAny_isInstance hT F.sub_list_set ?_)
  refine wpAny_isInstance hT F.sub_list_frozenset ?_
  refine wp_if_neg (by decide) ?_
  try refine wpAny_bind (wpAny_pure ?_)
  refine wpAny_bind (wpAny_typeOf hT ?_)
  refine wp_if_neg (by decide) ?_
  try refine wpAny_bind (wpAny_pure ?_)
  refine wpAny_bind (wpAny_pyIter_list hl1 ?_)
  refine wpAny_bind (wpAny_runValue ?_)
  have hh3 : A.in1.in1.in1.handled = none := by simp [hh]
  have hneI : l ≠ (withSet w s).heap.objs.size := by rw [hz1]; exact Nat.ne_of_lt (Nat.lt_succ_of_lt hlS)
  have hSf : s.heap.objs.size ∉ [(withSet w s).heap.objs.size, l] := by
    rw [hz1]; simp only [List.mem_cons, List.mem_singleton, List.not_mem_nil, or_false, not_or]
    exact ⟨Nat.ne_of_lt (Nat.lt_succ_self _), Nat.ne_of_gt hlS⟩
  have none_of : ∀ b, s.heap.objs.size ≤ b → s.heap.get? b = none := fun b hb => Heap.get?_none_of_le hb
  refine pourT ((Walks.list hh3 _ l hneI items).toS) s.heap.objs.size hSf ks hisz hfew (fun i v e => hn2 i v (by rw [Array.getElem?_toList]; exact e)) s.heap (none_of _ (Nat.le_refl _)) (fun b hb => none_of b (by
      rw [List.mem_singleton.mp hb, hz1]
      omega)) (items.size - 0) 0 _ (by omega) (Nat.zero_le _)
    ⟨⟨_, Heap.get?_push_size _ rfl, rfl, rfl⟩, (hl1.push _)⟩ (fun b o e => Heap.get?_push_of_some _ (Heap.get?_push_of_some _ e)) (tset_fresh (Heap.get?_push_of_some _ hS)) ?_
  intro s' hm hS' hkp
  obtain ⟨h', g2, d', tk', os'⟩ := s'
  have eg : g2 = s.gens := hm.gens
  have ed : d' = s.drawn := hm.drawn
  have eo : os' = s.os := hm.os
  subst eg; subst ed; subst eo
  show wpAny _ _ _ _ _ _
  exact wpAny_pure (h h' tk' hS' hkp)
theorem strs_of : ∀ (l : List Value), (∀ v ∈ l, ∃ k tk, v = Value.str k tk) → ∃ ks, StrsAre l ks ∧ ks = l.map fun v => match v with | .str k _ => k | _ => ("" : Str)
  | [], _ => ⟨[], .nil, rfl⟩
  | v :: l, h => by
    obtain ⟨k, tk, rfl⟩ := h v List.mem_cons_self
    obtain ⟨ks, r, e⟩ := strs_of l fun v hv => h v (List.mem_cons_of_mem _ hv)
    exact ⟨k :: ks, .cons k tk r, by rw [e]; rfl⟩
theorem sorted_tset (R : TSet P w s.heap a l) (hh : A.handled = none) (h64 : l.length < 64) {Q : Value → Shared → Prop}
    (hQ : ∀ s' p (out : Array Value) (c : Nat) (zs : List Str), (∀ b o, s.heap.get? b = some o → s'.heap.get? b = some o) → s'.gens = s.gens → s'.os = s.os → s.heap.objs.size ≤ p →
      s'.heap.get? p = some (seqObj "list" out c) → StrsAre out.toList zs → sortedS zs = true → zs.Nodup → (∀ k, k ∈ zs ↔ k ∈ l) → zs.length ≤ l.length → Q (.ref p) s') :
    wpAny (model P w) A (call (.builtin "sorted") [.ref a]) Q E s := by
  obtain ⟨o, es, ep, t, ho, hex, hd, g, nd, hm, hb, hf, hr, hl, hle⟩ := R.ex
  refine Calls.call_function_entry kind_sorted plain_sorted entry_sorted (args_sorted1 _) ?_
  unfold Builtin.«sorted»
  refine wpAny_bind (m := checkCount "sorted" 1 1 _) (wpAny_pure ?_)
  refine wpAny_bind (collect_set (A := A.in1) hh ⟨o, ho, hex.1, hd⟩ hf hb hr hl fun s1 vs k1 hz g1 o1 pm => ?_)
  have hvl : vs.length = es.size := by rw [pm.length_eq, List.length_map, Array.length_toList]
  obtain ⟨ks, hI, hks⟩ := strs_of vs fun v hv => by
    obtain ⟨e, he, q⟩ := List.mem_map.mp (pm.mem_iff.mp hv)
    obtain ⟨k, tk, h1, _⟩ := g e he
    exact ⟨k, tk, by rw [← q]; exact h1⟩
  have pk : ks.Perm (es.toList.map keyT) := by
    have q := pm.map fun v => match v with | .str k _ => k | _ => ("" : Str)
    rw [List.map_map] at q
    rw [hks]
    exact q
  refine wpAny_bind (wpAny_newList ?_ (by rw [hvl, sizeLine_eq]; unfold scanBound at hb; omega))
  have hoL : (s1.heap.push (seqObj "list" vs.toArray 0)).get? s1.heap.objs.size = some (seqObj "list" vs.toArray 0) := Heap.get?_push_size _ rfl
  refine wpAny_bind (wpAny_holding (wpAny_call_entry slot_list_sort ⟨_, hoL, rfl⟩ entry_list_sort (list_sort_treeK strKind_oneLt hoL hI.keysOf (fun v₁ v₂ rest e => keyKind_strs (by rw [← e]; exact hI)) (by omega) fun st' hp hs => ⟨_, rfl, ?_⟩) (args_list_sort _)))
  obtain ⟨zs, a1, a2, a3⟩ := sorted_out_str hI hp hs
  obtain ⟨c, hc⟩ := sortedHeap_at (vs := vs) (out := _) hoL
  have pn : zs.Perm (es.toList.map keyT) := a2.trans pk
  refine wpAny_pure ⟨_, rfl, hQ _ s1.heap.objs.size _ c zs (fun b u e => ?_) g1 o1 hz hc a1 a3 (pn.nodup_iff.mpr nd) (fun k => by rw [pn.mem_iff, ← hm k]) (by rw [pn.length_eq, List.length_map, Array.length_toList]; exact hle)⟩
  have q := k1 b u e
  have hlt := Heap.lt_size q
  show (sortedHeap (s1.heap.push (seqObj "list" vs.toArray 0)) s1.heap.objs.size vs _).get? b = some u
  rw [sortedHeap_old (Nat.ne_of_lt hlt) (by rw [size_push']; exact Nat.lt_succ_of_lt hlt)]
  exact Heap.get?_push_of_some _ q
end
def SetSO (P : Program) (w : World) (a : Addr) (l : List Str) : HO := .ext fun h => TSet P w h a l
section
variable {X : Cx}
def rSetS (X : Cx) : List V → Hp → VK → Prop := fun xs H Q => ∃ (l : Addr) (ks : List Str), xs = [.ref l] ∧ SqL X.K H l (ks.map .str) ∧ ks.length < 64 ∧ ∀ p, H p = none → Q (.ref p) (upd H p (SetSO X.prog X.w p ks))
theorem cr_setS (hc : X.calm = true) : CallR X (.type "set") (rSetS X) := by
  intro pins s σ H xs us Q I r q
  obtain ⟨l, ks, rfl, hl, hfew, q⟩ := q
  obtain ⟨u, rfl, ru⟩ := r.one
  cases (show u = Value.ref l from ru)
  obtain ⟨its, rv, pl, _⟩ := I.list hl
  refine set_of_strs (items := its.toArray) ks (I.ok.hd hc) pl.isList (by simpa using rv.strs) hfew fun h' tk R k => ?_
  exact ⟨.ref s.heap.objs.size, _, I.laid (t' := tk) k (Nat.le_refl _) (show ObjOk X.prog X.w _ _ _ (SetSO X.prog X.w _ ks) from ⟨R, let ⟨o, _, _, _, ho, _⟩ := R.ex; ⟨o, ho⟩, fun _ _ x k => TSet.keep x k⟩), rfl, q _ (I.hok.fresh (Nat.le_refl _))⟩
def rSortedSetS (X : Cx) : List V → Hp → VK → Prop := fun vs H Q => ∃ (a : Addr) (l : List Str), vs = [V.ref a] ∧ H a = some (SetSO X.prog X.w a l) ∧ l.length < 64 ∧
  ∀ (zs : List Str) (p : Addr), sortedS zs = true → zs.Nodup → (∀ k, k ∈ zs ↔ k ∈ l) → zs.length ≤ l.length → H p = none → Q (.ref p) (upd H p (.lst (zs.map V.str)))
theorem cr_sortedSetS (hc : X.calm = true) : CallR X (.builtin "sorted") (rSortedSetS X) := by
  intro pins s σ H vs us Q I r h
  obtain ⟨a, l, rfl, ha, h64, q⟩ := h
  rw [Vals.ref1 r]
  have R := (show ObjOk X.prog X.w H s.heap a (SetSO X.prog X.w a l) from I.hok a _ ha).1
  refine sorted_tset R (I.ok.hd hc) h64 fun s' p out c zs k eg eo hp hget hz hs hnd hm hlen => ?_
  have hlen' : (zs.map V.str).length ≤ sizeLine := by rw [List.length_map]; exact small64 (by omega)
  have J : L2.Inv X pins σ (upd H p (.lst (zs.map V.str))) { s with heap := s'.heap } := I.laid (t' := s.toks) k hp (show ObjOk X.prog X.w _ _ _ (.lst (zs.map V.str)) from ⟨hlen', out.toList, c, vals_of_strs hz, hget⟩)
  refine ⟨.ref p, _, ⟨J.ok, eo.trans I.os, by rw [eg]; exact I.bare, J.base, J.loc, J.cell, J.free, J.freeC, J.pin, J.hok, J.len⟩, rfl, q zs p hs hnd hm hlen (I.hok.fresh hp)⟩
end
end Sh
set_option Elab.async false
set_option linter.all false
set_option maxRecDepth 100000
/-! ShN: statements and expressions that change objects: judgements over a base, rules. -/
namespace Sh
open PySem L2

/-! ### states -/
structure Bs where
  H0 : Hp
  G0 : Hp
structure Ok (B : Bs) (b : Bx) (σ : L2.St) (ρ : Ro) (G H : Hp) : Prop where
  gr : Gr B.H0 B.G0 H G
  lk : Lk b G H
  env : Env G σ ρ
  new : ∀ x ∈ b.rt, B.H0 x.1 = none
def Bx.put (b : Bx) (p : Addr) (m : M) : Bx := ⟨b.fl, b.rt.map fun x => if x.1 = p then (p, m) else x⟩
def Bx.add (b : Bx) (p : Addr) (m : M) : Bx := ⟨b.fl, (p, m) :: b.rt⟩
/-- p is none of the objects that may change -/
def Fre (b : Bx) (p : Addr) : Prop := ∀ x ∈ b.rt, x.1 ≠ p
def Bx.drop (b : Bx) (p : Addr) : Bx := ⟨b.fl, b.rt.filter fun x => decide (x.1 ≠ p)⟩
def M.ob (xs : List V) : HO := .lst xs
/-- the frozen value -/
def M.d : M → D
  | .lst ds => .lst ds
  | .dK kvs => .dK kvs
  | .dT kvs => .dT kvs
  | .ins C fs => .ins C fs
theorem mem_put {b : Bx} {p : Addr} {m m' : M} (h : (p, m) ∈ b.rt) : (p, m') ∈ (b.put p m').rt := List.mem_map.mpr ⟨(p, m), h, if_pos rfl⟩
theorem mem_put_ne {b : Bx} {p q : Addr} {m m' : M} (h : (q, m) ∈ b.rt) (ne : q ≠ p) : (q, m) ∈ (b.put p m').rt := List.mem_map.mpr ⟨(q, m), h, if_neg ne⟩
theorem mem_add {b : Bx} {p : Addr} {m : M} : (p, m) ∈ (b.add p m).rt := List.mem_cons_self
theorem mem_add_of {b : Bx} {p q : Addr} {m m' : M} (h : (q, m) ∈ b.rt) : (q, m) ∈ (b.add p m').rt := List.mem_cons_of_mem _ h
theorem mem_drop {b : Bx} {p q : Addr} {m : M} (h : (q, m) ∈ b.rt) (ne : q ≠ p) : (q, m) ∈ (b.drop p).rt := List.mem_filter.mpr ⟨h, by simpa using ne⟩
theorem fl_put {b : Bx} {p : Addr} {m : M} : (b.put p m).fl = b.fl := rfl
section
variable {B : Bs} {b : Bx} {σ : L2.St} {ρ : Ro} {G H G' H' : Hp} {p : Addr} {m m' : M} {d : D} {v : V}
theorem Ok.sub (o : Ok B b σ ρ G H) : Same G H := o.gr.sub
theorem Ok.go (o : Ok B b σ ρ G H) (g : Gr H G H' G') : Ok B b σ ρ G' H' := ⟨o.gr.trans g, o.lk.gr g, o.env.mono g.gx, o.new⟩
theorem Ok.set (o : Ok B b σ ρ G H) (i : Nat) (r : Rep G d v) : Ok B b (σ.set i (some v)) (ρ.set i (some d)) G H := ⟨o.gr, o.lk, o.env.set i r, o.new⟩
theorem Ok.reenv {σ' : L2.St} {ρ' : Ro} (o : Ok B b σ ρ G H) (e : Env G σ' ρ') : Ok B b σ' ρ' G H := ⟨o.gr, o.lk, e, o.new⟩
theorem M.st_at {o : HO} (r : m.st G H p) {q : Addr} (h : q ≠ p) : m.st G (upd H q o) p := by
  have e : upd H q o p = H p := upd_ne (fun z => h z.symm)
  cases m with
  | lst ds => obtain ⟨xs, h1, h2⟩ := r; exact ⟨xs, e.trans h1, h2⟩
  | dK ds => obtain ⟨xs, h1, h2⟩ := r; exact ⟨xs, e.trans h1, h2⟩
  | dT ds => obtain ⟨xs, h1, h2⟩ := r; exact ⟨xs, e.trans h1, h2⟩
  | ins C ds => obtain ⟨dx, xs, h1, h2⟩ := r; exact ⟨dx, xs, e.trans h1, h2⟩
/-- a root is changed -/
theorem Ok.mut {o' : HO} (o : Ok B b σ ρ G H) (hp : (p, m) ∈ b.rt) (h : m'.st G (upd H p o') p) : Ok B (b.put p m') σ ρ G (upd H p o') := by
  have r := o.lk.rt _ hp
  refine ⟨o.gr.mut (o.new _ hp) r.gp, ⟨o.lk.fl, fun x hx => ?_⟩, o.env, fun x hx => ?_⟩
  · obtain ⟨y, hy, e⟩ := List.mem_map.mp hx
    by_cases c : y.1 = p
    · rw [if_pos c] at e
      subst e
      exact ⟨r.gp, h⟩
    · rw [if_neg c] at e
      subst e
      have ry := o.lk.rt y hy
      exact ⟨ry.gp, M.st_at ry.at' (fun z => c z.symm)⟩
  · obtain ⟨y, hy, e⟩ := List.mem_map.mp hx
    by_cases c : y.1 = p
    · rw [if_pos c] at e
      subst e
      exact o.new (p, m) hp
    · rw [if_neg c] at e
      subst e
      exact o.new _ hy
/-- a new object that may change -/
theorem Ok.add (o : Ok B b σ ρ G H) (g : Gr H G H' G') (hp : H p = none) (gp : G' p = none) (h : m.st G' H' p) : Ok B (b.add p m) σ ρ G' H' := by
  have o' := o.go g
  refine ⟨o'.gr, ⟨o'.lk.fl, fun x hx => ?_⟩, o'.env, fun x hx => ?_⟩
  · rcases List.mem_cons.mp hx with rfl | hx
    · exact ⟨gp, h⟩
    · exact o'.lk.rt x hx
  · rcases List.mem_cons.mp hx with rfl | hx
    · exact o.gr.ex.free hp
    · exact o.new x hx
theorem Ok.fre (o : Ok B b σ ρ G H) (hp : H p = none) : Fre b p := fun x hx e => by
  obtain ⟨ob, h1, _⟩ := M.st_ob (o.lk.rt x hx).at'
  rw [e, hp] at h1
  cases h1
theorem same_up {o : HO} (gp : G p = none) : Same G (upd G p o) := same_upd gp
/-- .. frozen -/
theorem Ok.freeze (o : Ok B b σ ρ G H) (hp : (p, m) ∈ b.rt) : ∃ G', Same G G' ∧ Rep G' m.d (.ref p) ∧ Ok B (b.drop p) σ ρ G' H := by
  have r := o.lk.rt _ hp
  obtain ⟨ob, h1, h2, h3⟩ := M.st_ob r.at'
  have gp := r.gp
  refine ⟨upd G p ob, same_upd gp, ?_, o.gr.freeze (o.new _ hp) h1 gp h3, ⟨fun hb a x u e => ?_, fun x hx => ?_⟩, o.env.mono (same_upd gp), fun x hx => o.new x (List.mem_filter.mp hx).1⟩
  · have := r.at'
    cases m with
    | lst ds => obtain ⟨xs, e1, e2⟩ := this; cases h1.symm.trans e1; exact ⟨p, xs, rfl, upd_same, e2.mono (same_upd gp)⟩
    | dK ds => obtain ⟨xs, e1, e2⟩ := this; cases h1.symm.trans e1; exact ⟨p, xs, rfl, .inl upd_same, repK_iff.mpr (e2.mono (same_upd gp))⟩
    | dT ds => obtain ⟨xs, e1, e2⟩ := this; cases h1.symm.trans e1; exact ⟨p, xs, rfl, .inl upd_same, repT_iff.mpr (e2.mono (same_upd gp))⟩
    | ins C ds => obtain ⟨dx, xs, e1, e2⟩ := this; cases h1.symm.trans e1; exact ⟨p, dx, xs, rfl, upd_same, repF_iff.mpr (e2.mono (same_upd gp))⟩
  · exact o.lk.fl hb a x u (upd_lk h3 a x u e)
  · obtain ⟨hx1, hx2⟩ := List.mem_filter.mp hx
    have ne : x.1 ≠ p := by simpa using hx2
    have rx := o.lk.rt x hx1
    refine ⟨by rw [upd_ne ne]; exact rx.gp, ?_⟩
    have e := rx.at'
    cases hm : x.2 with
    | lst ds => rw [hm] at e; obtain ⟨xs, e1, e2⟩ := e; exact ⟨xs, e1, e2.mono (same_upd gp)⟩
    | dK ds => rw [hm] at e; obtain ⟨xs, e1, e2⟩ := e; exact ⟨xs, e1, e2.mono (same_upd gp)⟩
    | dT ds => rw [hm] at e; obtain ⟨xs, e1, e2⟩ := e; exact ⟨xs, e1, e2.mono (same_upd gp)⟩
    | ins C ds => rw [hm] at e; obtain ⟨dx, xs, e1, e2⟩ := e; exact ⟨dx, xs, e1, e2.mono (same_upd gp)⟩
theorem Ok.less {b' : Bx} (o : Ok B b σ ρ G H) (h1 : b'.fl = true → b.fl = true) (h2 : ∀ x ∈ b'.rt, x ∈ b.rt) : Ok B b' σ ρ G H := ⟨o.gr, o.lk.less h1 h2, o.env, fun x hx => o.new x (h2 x hx)⟩
end

/-! ### expressions with effects -/
abbrev Po := Bx → D → Prop
def EvX (B : Bs) (te : TE) (b : Bx) (ρ : Ro) (P : Po) : Prop := ∀ σ G H, Ok B b σ ρ G H → ∀ Q : VK, (∀ b' d v G' H', P b' d → Same G G' → Ok B b' σ ρ G' H' → Rep G' d v → Q v H') → te σ H Q
def EvXA (B : Bs) (ta : TA) (b : Bx) (ρ : Ro) (P : Bx → List D → Prop) : Prop := ∀ σ G H, Ok B b σ ρ G H → ∀ Q : List V → Hp → Prop, (∀ b' ds vs G' H', P b' ds → Same G G' → Ok B b' σ ρ G' H' → Reps G' ds vs → Q vs H') → ta σ H Q
def SrcX (B : Bs) (wi : TI) (b : Bx) (ρ : Ro) (P : Bx → List D → Prop) : Prop := ∀ σ G H, Ok B b σ ρ G H → ∀ R : It → Hp → Prop, (∀ b' ds J G' H', P b' ds → Same G G' → Ok B b' σ ρ G' H' → SrcOk J G' ds → R J H') → wi σ H R
section
variable {B : Bs} {b : Bx} {ρ : Ro} {te to ta' : TE} {ta : TA} {d : D} {ds : List D} {P P' : Po} {K : PySem.W.Frag} {p : Addr}
theorem ex_pure (h : Ev b te ρ d) (q : P b d) : EvX B te b ρ P := fun σ G H o Q k => h σ G H o.lk o.env o.sub Q fun v H' G' g r => k b d v G' H' q g.gx (o.go g) r
theorem ex_new (h : EvN b te ρ ds) (q : ∀ p, Fre b p → P (b.add p (.lst ds)) (.ref p)) : EvX B te b ρ P := fun σ G H o Q k => h σ G H o.lk o.env o.sub Q fun p xs H' G' g hp hp' gp r => k _ (.ref p) _ G' H' (q p (o.fre hp)) g.gx (o.add g hp gp ⟨xs, hp', r⟩) rfl
theorem ex_dnewK (q : ∀ p, Fre b p → P (b.add p (.dK [])) (.ref p)) : EvX B tDNewK b ρ P := fun σ G H o Q k => fun p hp => k _ (.ref p) _ G _ (q p (o.fre hp)) (Same.refl G) (o.add (.own o.sub hp) hp (o.sub.free hp) ⟨[], upd_same, .nil⟩) rfl
theorem ex_dnewT (q : ∀ p, Fre b p → P (b.add p (.dT [])) (.ref p)) : EvX B tDNewT b ρ P := fun σ G H o Q k => fun p hp => k _ (.ref p) _ G _ (q p (o.fre hp)) (Same.refl G) (o.add (.own o.sub hp) hp (o.sub.free hp) ⟨[], upd_same, .nil⟩) rfl
theorem EvX.mono (h : EvX B te b ρ P) (i : ∀ b d, P b d → P' b d) : EvX B te b ρ P' := fun σ G H o Q k => h σ G H o Q fun b' d v G' H' p => k b' d v G' H' (i _ _ p)
theorem xa_nil {P : Bx → List D → Prop} (q : P b []) : EvXA B tNil b ρ P := fun σ G H o Q k => k b [] [] G H q (Same.refl G) o rfl
theorem xa_pure {P : Bx → List D → Prop} (h : EvA b ta ρ ds) (q : P b ds) : EvXA B ta b ρ P := fun σ G H o Q k => h σ G H o.lk o.env o.sub Q fun vs H' G' g r => k b ds vs G' H' q g.gx (o.go g) r
theorem xa_cons {P : Bx → List D → Prop} (h : EvX B te b ρ P') (t : ∀ b' d, P' b' d → EvXA B ta b' ρ fun b'' ds => P b'' (d :: ds)) : EvXA B (tCons te ta) b ρ P := fun σ G H o Q k =>
  h σ G H o _ fun b1 d v G1 H1 p1 s1 o1 r1 => t b1 d p1 σ G1 H1 o1 _ fun b2 ds vs G2 H2 p2 s2 o2 r2 => k b2 (d :: ds) (v :: vs) G2 H2 p2 (s1.trans s2) o2 ⟨v, vs, rfl, r1.mono s2, r2⟩
theorem ex_tup {P1 : Bx → List D → Prop} (h : EvXA B ta b ρ P1) (q : ∀ b' ds, P1 b' ds → ds.length ≤ 1000 ∧ P b' (.tup ds)) : EvX B (tTup ta) b ρ P := fun σ G H o Q k =>
  h σ G H o _ fun b1 ds vs G1 H1 p1 s1 o1 r1 => ⟨by rw [← r1.length]; exact Nat.le_of_lt (small1000 (q _ _ p1).1), fun p hp =>
    k b1 (.tup ds) _ (upd G1 p (.tup vs)) _ (q _ _ p1).2 (s1.trans (same_upd (o1.sub.free hp))) (o1.go (.new o1.sub hp)) ⟨p, vs, rfl, upd_same, r1.mono (same_upd (o1.sub.free hp))⟩⟩
theorem ex_lst {P1 : Bx → List D → Prop} (h : EvXA B ta b ρ P1) (q : ∀ b' ds, P1 b' ds → ds.length ≤ 1000 ∧ ∀ p, Fre b' p → P (b'.add p (.lst ds)) (.ref p)) : EvX B (tLst ta) b ρ P := fun σ G H o Q k =>
  h σ G H o _ fun b1 ds vs G1 H1 p1 s1 o1 r1 => ⟨by rw [← r1.length]; exact Nat.le_of_lt (small1000 (q _ _ p1).1), fun p hp =>
    k _ (.ref p) _ G1 _ ((q _ _ p1).2 p (o1.fre hp)) s1 (o1.add (.own o1.sub hp) hp (o1.sub.free hp) ⟨vs, upd_same, r1⟩) rfl⟩
/-- a root frozen where its value is asked -/
theorem EvX.frz {m : Bx → Addr → M → Prop} (h : EvX B te b ρ fun b' d => ∃ p m, d = .ref p ∧ (p, m) ∈ b'.rt ∧ P (b'.drop p) m.d) : EvX B te b ρ P := fun σ G H o Q k =>
  h σ G H o Q fun b' d v G' H' ⟨p, m, e, hp, q⟩ s o' r => by
    subst e
    obtain ⟨G2, s2, r2, o2⟩ := o'.freeze hp
    cases (show v = V.ref p from r)
    exact k _ _ _ G2 H' q (s.trans s2) o2 r2
theorem ex_frz (h : EvN b te ρ ds) (q : P b (.lst ds)) : EvX B te b ρ P := ex_pure h.ev q
/-! methods of roots -/
theorem root_at {σ : L2.St} {G H : Hp} {m : M} (o : Ok B b σ ρ G H) (hp : (p, m) ∈ b.rt) : m.st G H p := (o.lk.rt _ hp).at'
theorem ex_pop {es : List D} (h : Ev b to ρ (.ref p)) (hp : (p, .lst (es ++ [d])) ∈ b.rt) (q : P (b.put p (.lst es)) d) : EvX B (tBM0 K "list" rPop to) b ρ P := fun σ G H o Q k =>
  h σ G H o.lk o.env o.sub _ fun v H1 G1 g1 r1 => by
    cases (show v = V.ref p from r1)
    have o1 := o.go g1
    obtain ⟨xs, e1, e2⟩ := root_at o1 hp
    have hl := e2.length
    have hy : (es ++ [d])[es.length]? = some d := by simp
    obtain ⟨y, y1, y2⟩ := e2.get hy
    have hxl : xs.length - 1 = es.length := by rw [← hl]; simp
    refine ⟨.inl ⟨rfl, xs, SqL.of e1⟩, p, xs, y, rfl, rfl, e1, by rw [hxl]; exact y1, k _ d y G1 _ q g1.gx (o1.mut hp ⟨xs.dropLast, upd_same, ?_⟩) y2⟩
    have := e2.dropLast
    rwa [List.dropLast_concat] at this
theorem ex_pop0 {es : List D} {tn : TA} (h : Ev b to ρ (.ref p)) (hp : (p, .lst (d :: es)) ∈ b.rt) (hn : EvA b tn ρ [.int 0]) (hl : es.length ≤ 100000) (q : P (b.put p (.lst es)) d) : EvX B (tBM K "list" rPopAt to tn) b ρ P := fun σ G H o Q k =>
  h σ G H o.lk o.env o.sub _ fun v H1 G1 g1 r1 => by
    cases (show v = V.ref p from r1)
    have o1 := o.go g1
    obtain ⟨xs, e1, e2⟩ := root_at o1 hp
    refine ⟨.inl ⟨rfl, xs, SqL.of e1⟩, hn σ G1 H1 o1.lk o1.env o1.sub _ fun vs H2 G2 g2 r2 => ?_⟩
    obtain ⟨w, rfl, rfl⟩ := r2.one'
    have o2 := o1.go g2
    obtain ⟨xs, e1, y, r, rfl, y2, y3⟩ := root_at o2 hp
    refine ⟨p, y :: r, 0, 0, y, rfl, rfl, e1, by decide, by decide, ?_, rfl, k _ d y G2 _ q (g1.gx.trans g2.gx) (o2.mut hp ⟨r, upd_same, y3⟩) y2⟩
    unfold seqIndex?
    simp
theorem ex_append {P1 : Po} {es : List D → Prop} (h : Ev b to ρ (.ref p)) (ha : EvX B te b ρ P1) (q : ∀ b' d, P1 b' d → ∃ ds, (p, .lst ds) ∈ b'.rt ∧ ds.length ≤ 100000 ∧ P (b'.put p (.lst (ds ++ [d]))) .non) (h0 : ∃ ds, (p, .lst ds) ∈ b.rt) : EvX B (tBM K "list" rAppend to (tCons te tNil)) b ρ P := fun σ G H o Q k =>
  h σ G H o.lk o.env o.sub _ fun v H1 G1 g1 r1 => by
    cases (show v = V.ref p from r1)
    have o1 := o.go g1
    obtain ⟨ds0, hp0⟩ := h0
    obtain ⟨xs0, e0, _⟩ := root_at o1 hp0
    refine ⟨.inl ⟨rfl, xs0, SqL.of e0⟩, ha σ G1 H1 o1 _ fun b2 d w G2 H2 p2 s2 o2 r2 => ?_⟩
    obtain ⟨ds, hp, hl, q2⟩ := q _ _ p2
    obtain ⟨xs, e1, e2⟩ := root_at o2 hp
    exact ⟨p, xs, w, rfl, rfl, e1, by rw [← e2.length, PySem.sizeLine_eq]; omega, k _ .non _ G2 _ q2 (g1.gx.trans s2) (o2.mut hp ⟨xs ++ [w], upd_same, e2.snoc r2⟩) rfl⟩
theorem ex_extend {es ds : List D} (h : Ev b to ρ (.ref p)) (ha : Ev b te ρ (.lst es)) (hp : (p, .lst ds) ∈ b.rt) (hl : ds.length + es.length ≤ 100000) (q : P (b.put p (.lst (ds ++ es))) .non) : EvX B (tBM K "list" rExtend to (tCons te tNil)) b ρ P := fun σ G H o Q k =>
  h σ G H o.lk o.env o.sub _ fun v H1 G1 g1 r1 => by
    cases (show v = V.ref p from r1)
    have o1 := o.go g1
    obtain ⟨xs0, e0, _⟩ := root_at o1 hp
    refine ⟨.inl ⟨rfl, xs0, SqL.of e0⟩, ha σ G1 H1 o1.lk o1.env o1.sub _ fun w H2 G2 g2 r2 => ?_⟩
    have o2 := o1.go g2
    obtain ⟨c, zs, rfl, z1, z2⟩ := r2
    obtain ⟨xs, e1, e2⟩ := root_at o2 hp
    exact ⟨p, c, xs, zs, rfl, rfl, e1, o2.sub _ _ z1, by rw [← e2.length, ← z2.length, PySem.sizeLine_eq]; omega, k _ .non _ G2 _ q (g1.gx.trans g2.gx) (o2.mut hp ⟨xs ++ zs, upd_same, e2.append z2⟩) rfl⟩
end

/-! ### reading roots -/
section
variable {b : Bx} {ρ : Ro} {te to ta tb : TE} {d : D} {ds : List D} {K : PySem.W.Frag} {p : Addr}
theorem rt_lst {G H : Hp} {v : V} (l : Lk b G H) (hp : (p, .lst ds) ∈ b.rt) (r : Rep G (.ref p) v) : v = .ref p ∧ ∃ xs, H p = some (.lst xs) ∧ Reps G ds xs := ⟨r, (l.rt _ hp).at'⟩
theorem rd_nilR {neg : Bool} (hp : (p, .lst ds) ∈ b.rt) : RD b (rNil neg K) (.ref p) (.lst []) (.bl (if neg then !ds.isEmpty else ds.isEmpty)) := fun G H u v l s r1 r2 Q q => by
  obtain ⟨rfl, xs, h2, h3⟩ := rt_lst l hp r1
  obtain ⟨a', ys, rfl, h2', h3'⟩ := r2
  cases h3'
  refine ⟨p, a', xs, rfl, rfl, SqL.of h2, SqL.of (s _ _ h2'), ?_⟩
  have e : xs.isEmpty = ds.isEmpty := by
    cases ds with
    | nil => cases h3; rfl
    | cons => obtain ⟨v, r, rfl, _⟩ := h3; rfl
  rw [e]
  exact q _ H G (.refl s) rfl
theorem rd_ixLR {i : Int} (hp : (p, .lst ds) ∈ b.rt) (e : atI ds i = some d) : RD b (rIxL K) (.ref p) (.int i) d := fun G H u v l s r1 r2 Q q => by
  obtain ⟨rfl, xs, h2, h3⟩ := rt_lst l hp r1
  obtain ⟨w, h4, h5⟩ := h3.atI e
  exact ⟨p, xs, i, w, rfl, r2, SqL.of h2, h4, q w H G (.refl s) h5⟩
theorem rc_lenLR {X : Cx} (hp : (p, .lst ds) ∈ b.rt) : RC b (fun xs H Q => ∃ p ys, xs = [.ref p] ∧ (SqL X.K H p ys ∨ SqT X.K H p ys) ∧ Q (.int ys.length) H) [.ref p] (.int ds.length) := fun G H us l s r Q q => by
  obtain ⟨v, rfl, r1⟩ := r.one'
  obtain ⟨rfl, xs, h2, h3⟩ := rt_lst l hp r1
  exact ⟨p, xs, rfl, .inl (SqL.of h2), by rw [← h3.length]; exact q _ H G (.refl s) rfl⟩
theorem rn_catR {es : List D} (hp : (p, .lst ds) ∈ b.rt) (h : ds.length + es.length ≤ sizeLine) : RN b rCat (.ref p) (.lst es) (ds ++ es) := fun G H u v l s r1 r2 Q q => by
  obtain ⟨rfl, xs, h2, h3⟩ := rt_lst l hp r1
  obtain ⟨a', ys, rfl, h5, h6⟩ := r2
  exact ⟨p, a', xs, ys, rfl, rfl, h2, s _ _ h5, by rw [← h3.length, ← h6.length]; exact h, fun p hp => q p _ _ G (.own s hp) hp upd_same (s.free hp) (h3.append h6)⟩
theorem src_listR (h : Ev b te ρ (.ref p)) (hp : (p, .lst ds) ∈ b.rt) {σ : L2.St} {G H : Hp} (l : Lk b G H) (E : Env G σ ρ) (s : Same G H) : te σ H fun v H' => v = .ref p ∧ ∃ G' xs, Gr H G H' G' ∧ H' p = some (.lst xs) ∧ Reps G' ds xs :=
  h σ G H l E s _ fun v H1 G1 g1 r1 => by
    obtain ⟨rfl, xs, h2, h3⟩ := rt_lst (l.gr g1) hp r1
    exact ⟨rfl, G1, xs, g1, h2, h3⟩
theorem ev_inKR {kvs : List (Key × D)} {k : Key} {c : Bool} (hk : Ev b tb ρ (kD k)) (hd : Ev b ta ρ (.ref p)) (hp : (p, .dK kvs) ∈ b.rt) (e : (valD kvs k).isSome = c) : Ev b (tDIn tb ta) ρ (.bl c) := fun σ G H l E s Q q =>
  hk σ G H l E s _ fun u H1 G1 g1 r1 => hd σ G1 H1 (l.gr g1) (E.mono g1.gx) g1.sub _ fun v H2 G2 g2 r2 => by
    cases (show v = V.ref p from r2)
    obtain ⟨xs, h2, h3⟩ := (((l.gr g1).gr g2).rt _ hp).at'
    refine ⟨p, valV xs k, rfl, .inl ⟨xs, k, .inl h2, rep_kD r1, rfl⟩, ?_⟩
    rw [h3.isSome k, e]
    exact q _ H2 G2 (g1.trans g2) rfl
theorem ev_inTR {kvs : List (List Key × D)} {k : Pr} {c : Bool} (hk : Ev b tb ρ (pD k)) (hd : Ev b ta ρ (.ref p)) (hp : (p, .dT kvs) ∈ b.rt) (e : (valD kvs (pK k)).isSome = c) : Ev b (tDIn tb ta) ρ (.bl c) := fun σ G H l E s Q q =>
  hk σ G H l E s _ fun u H1 G1 g1 r1 => hd σ G1 H1 (l.gr g1) (E.mono g1.gx) g1.sub _ fun v H2 G2 g2 r2 => by
    cases (show v = V.ref p from r2)
    obtain ⟨c', rfl, h5⟩ := rep_pD r1
    obtain ⟨xs, h2, h3⟩ := (((l.gr g1).gr g2).rt _ hp).at'
    refine ⟨p, valV xs (pK k), rfl, .inr ⟨xs, pK k, c', .inl h2, rfl, g2.ex _ _ (g1.sub _ _ h5), rfl⟩, ?_⟩
    rw [h3.isSome (pK k), e]
    exact q _ H2 G2 (g1.trans g2) rfl
theorem ev_ninKR {kvs : List (Key × D)} {k : Key} {c : Bool} (hk : Ev b tb ρ (kD k)) (hd : Ev b ta ρ (.ref p)) (hp : (p, .dK kvs) ∈ b.rt) (e : (!(valD kvs k).isSome) = c) : Ev b (tDNotIn tb ta) ρ (.bl c) := fun σ G H l E s Q q =>
  hk σ G H l E s _ fun u H1 G1 g1 r1 => hd σ G1 H1 (l.gr g1) (E.mono g1.gx) g1.sub _ fun v H2 G2 g2 r2 => by
    cases (show v = V.ref p from r2)
    obtain ⟨xs, h2, h3⟩ := (((l.gr g1).gr g2).rt _ hp).at'
    refine ⟨p, valV xs k, rfl, .inl ⟨xs, k, .inl h2, rep_kD r1, rfl⟩, ?_⟩
    rw [h3.isSome k, e]
    exact q _ H2 G2 (g1.trans g2) rfl
theorem ev_ninTR {kvs : List (List Key × D)} {k : Pr} {c : Bool} (hk : Ev b tb ρ (pD k)) (hd : Ev b ta ρ (.ref p)) (hp : (p, .dT kvs) ∈ b.rt) (e : (!(valD kvs (pK k)).isSome) = c) : Ev b (tDNotIn tb ta) ρ (.bl c) := fun σ G H l E s Q q =>
  hk σ G H l E s _ fun u H1 G1 g1 r1 => hd σ G1 H1 (l.gr g1) (E.mono g1.gx) g1.sub _ fun v H2 G2 g2 r2 => by
    cases (show v = V.ref p from r2)
    obtain ⟨c', rfl, h5⟩ := rep_pD r1
    obtain ⟨xs, h2, h3⟩ := (((l.gr g1).gr g2).rt _ hp).at'
    refine ⟨p, valV xs (pK k), rfl, .inr ⟨xs, pK k, c', .inl h2, rfl, g2.ex _ _ (g1.sub _ _ h5), rfl⟩, ?_⟩
    rw [h3.isSome (pK k), e]
    exact q _ H2 G2 (g1.trans g2) rfl
theorem ev_dgetKR {kvs : List (Key × D)} {k : Key} (hd : Ev b ta ρ (.ref p)) (hk : Ev b tb ρ (kD k)) (hp : (p, .dK kvs) ∈ b.rt) (e : valD kvs k = some d) : Ev b (tDGet ta tb) ρ d := fun σ G H l E s Q q =>
  hd σ G H l E s _ fun v H1 G1 g1 r1 => hk σ G1 H1 (l.gr g1) (E.mono g1.gx) g1.sub _ fun u H2 G2 g2 r2 => by
    cases (show v = V.ref p from r1)
    obtain ⟨xs, h2, h3⟩ := (((l.gr g1).gr g2).rt _ hp).at'
    rcases h3.val k with ⟨n, _⟩ | ⟨d', w, e1, e2, e3⟩
    · rw [n] at e; cases e
    · rw [e1] at e; cases e
      exact ⟨p, w, rfl, .inl ⟨xs, k, .inl h2, rep_kD r2, e2.symm⟩, q w H2 G2 (g1.trans g2) e3⟩
theorem ev_dgetTR {kvs : List (List Key × D)} {k : Pr} (hd : Ev b ta ρ (.ref p)) (hk : Ev b tb ρ (pD k)) (hp : (p, .dT kvs) ∈ b.rt) (e : valD kvs (pK k) = some d) : Ev b (tDGet ta tb) ρ d := fun σ G H l E s Q q =>
  hd σ G H l E s _ fun v H1 G1 g1 r1 => hk σ G1 H1 (l.gr g1) (E.mono g1.gx) g1.sub _ fun u H2 G2 g2 r2 => by
    cases (show v = V.ref p from r1)
    obtain ⟨c, rfl, h5⟩ := rep_pD r2
    obtain ⟨xs, h2, h3⟩ := (((l.gr g1).gr g2).rt _ hp).at'
    rcases h3.val (pK k) with ⟨n, _⟩ | ⟨d', w, e1, e2, e3⟩
    · rw [n] at e; cases e
    · rw [e1] at e; cases e
      exact ⟨p, w, rfl, .inr ⟨xs, pK k, c, .inl h2, rfl, g2.sub _ _ h5, e2.symm⟩, q w H2 G2 (g1.trans g2) e3⟩
theorem ev_fldR {C : Addr} {fs : List (Str × D)} {f : Str} (h : Ev b te ρ (.ref p)) (hp : (p, .ins C fs) ∈ b.rt) (hc : Cls K C) (hn : NoAttr K C f) (e : fs.lookup f = some d) : Ev b (tFld K te f) ρ d := fun σ G H l E s Q q =>
  h σ G H l E s _ fun v H1 G1 g1 r1 => by
    cases (show v = V.ref p from r1)
    obtain ⟨dx, xs, h2, h3⟩ := ((l.gr g1).rt _ hp).at'
    obtain ⟨w, h4, h5⟩ := h3.lookup e
    exact ⟨p, C, dx, xs, w, rfl, h2, hc, hn, h4, q w H1 G1 g1 h5⟩
end

/-! ### statements -/
abbrev Pn := Bx → Ro → Prop
structure Po4 where
  nx : Pn
  rt : Po
  bk : Pn
  ct : Pn
def Stm (B : Bs) (ts : TS) (b : Bx) (ρ : Ro) (P : Po4) : Prop := ∀ σ G H (D : Ends), Ok B b σ ρ G H →
  (∀ b' ρ' σ' G' H', P.nx b' ρ' → Same G G' → Ok B b' σ' ρ' G' H' → D.nx σ' H') →
  (∀ b' d v σ' ρ' G' H', P.rt b' d → Same G G' → Ok B b' σ' ρ' G' H' → Rep G' d v → D.rt v H') →
  (∀ b' ρ' σ' G' H', P.bk b' ρ' → Same G G' → Ok B b' σ' ρ' G' H' → D.bk σ' H') →
  (∀ b' ρ' σ' G' H', P.ct b' ρ' → Same G G' → Ok B b' σ' ρ' G' H' → D.ct σ' H') → ts D σ H
section
variable {B : Bs} {b : Bx} {ρ : Ro} {te tv td ty tf : TE} {tt : TT} {ta : TA} {d x y z : D} {ds : List D} {P : Po4} {P1 : Po} {K : PySem.W.Frag} {p : Addr} {ts tw tz tb : TS} {wi : TI} {g : TG} {i j l : Nat}
theorem sm_next (h : P.nx b ρ) : Stm B tNext b ρ P := fun σ G H D o n r k c => n b ρ σ G H h (Same.refl G) o
theorem sm_last (h : Stm B (tSeq ts tNext) b ρ P) : Stm B ts b ρ P := fun σ G H D o n r k c => h σ G H D o n r k c
theorem sm_assoc (h : Stm B (tSeq ts (tSeq tw tz)) b ρ P) : Stm B (tSeq (tSeq ts tw) tz) b ρ P := h
theorem sm_unit (h : Stm B tz b ρ P) : Stm B (tSeq tNext tz) b ρ P := h
theorem sm_retX (h : EvX B te b ρ P.rt) : Stm B (tRet te) b ρ P := fun σ G H D o n r k c => h σ G H o _ fun b' d v G' H' p s o' rr => r b' d v σ ρ G' H' p s o' rr
theorem sm_ret (h : Ev b te ρ d) (q : P.rt b d) : Stm B (tRet te) b ρ P := sm_retX (ex_pure h q)
theorem sm_retS (h : Stm B (tRet te) b ρ P) : Stm B (tSeq (tRet te) tz) b ρ P := h
theorem sm_cont (q : P.ct b ρ) : Stm B (tSeq tCont tz) b ρ P := fun σ G H D o n r k c => c b ρ σ G H q (Same.refl G) o
theorem sm_contL (q : P.ct b ρ) : Stm B tCont b ρ P := fun σ G H D o n r k c => c b ρ σ G H q (Same.refl G) o
theorem sm_setX (h : EvX B te b ρ P1) (k : ∀ b' d, P1 b' d → Stm B tz b' (ρ.set i (some d)) P) : Stm B (tSeq (tAsg te (gName i)) tz) b ρ P := fun σ G H D o n r kk c =>
  h σ G H o _ fun b' d v G' H' q s o' rr => k b' d q _ G' H' _ (o'.set i rr) (fun b2 ρ2 σ2 G2 H2 q2 s2 => n b2 ρ2 σ2 G2 H2 q2 (s.trans s2)) (fun b2 d2 v2 σ2 ρ2 G2 H2 q2 s2 => r b2 d2 v2 σ2 ρ2 G2 H2 q2 (s.trans s2)) (fun b2 ρ2 σ2 G2 H2 q2 s2 => kk b2 ρ2 σ2 G2 H2 q2 (s.trans s2)) (fun b2 ρ2 σ2 G2 H2 q2 s2 => c b2 ρ2 σ2 G2 H2 q2 (s.trans s2))
theorem sm_set (h : Ev b te ρ d) (k : Stm B tz b (ρ.set i (some d)) P) : Stm B (tSeq (tAsg te (gName i)) tz) b ρ P := sm_setX (P1 := fun b' d' => b' = b ∧ d' = d) (ex_pure h ⟨rfl, rfl⟩) fun b' d' ⟨e1, e2⟩ => by subst e1 e2; exact k
theorem sm_setN (h : EvN b te ρ ds) (k : ∀ p, Fre b p → Stm B tz (b.add p (.lst ds)) (ρ.set i (some (.ref p))) P) : Stm B (tSeq (tAsg te (gName i)) tz) b ρ P := sm_setX (P1 := fun b' d' => ∃ p, Fre b p ∧ b' = b.add p (.lst ds) ∧ d' = .ref p) (ex_new h fun p f => ⟨p, f, rfl, rfl⟩) fun b' d' ⟨p, f, e1, e2⟩ => by subst e1 e2; exact k p f
theorem sm_dropX (h : EvX B te b ρ P1) (k : ∀ b' d, P1 b' d → Stm B tz b' ρ P) : Stm B (tSeq (tDrop te) tz) b ρ P := fun σ G H D o n r kk c =>
  h σ G H o _ fun b' d v G' H' q s o' rr => k b' d q _ G' H' _ o' (fun b2 ρ2 σ2 G2 H2 q2 s2 => n b2 ρ2 σ2 G2 H2 q2 (s.trans s2)) (fun b2 d2 v2 σ2 ρ2 G2 H2 q2 s2 => r b2 d2 v2 σ2 ρ2 G2 H2 q2 (s.trans s2)) (fun b2 ρ2 σ2 G2 H2 q2 s2 => kk b2 ρ2 σ2 G2 H2 q2 (s.trans s2)) (fun b2 ρ2 σ2 G2 H2 q2 s2 => c b2 ρ2 σ2 G2 H2 q2 (s.trans s2))
theorem sm_if {cc : Bool} (h : EvT b tt ρ cc) (h1 : cc = true → Stm B (tSeq ts tz) b ρ P) (h2 : cc = false → Stm B (tSeq tw tz) b ρ P) : Stm B (tSeq (tIfS tt ts tw) tz) b ρ P := fun σ G H D o n r kk c =>
  h σ G H o.lk o.env o.sub _ fun H1 G1 g1 => by
    have o1 := o.go g1
    cases cc with
    | true => exact h1 rfl _ G1 H1 _ o1 (fun b2 ρ2 σ2 G2 H2 q2 s2 => n b2 ρ2 σ2 G2 H2 q2 (g1.gx.trans s2)) (fun b2 d2 v2 σ2 ρ2 G2 H2 q2 s2 => r b2 d2 v2 σ2 ρ2 G2 H2 q2 (g1.gx.trans s2)) (fun b2 ρ2 σ2 G2 H2 q2 s2 => kk b2 ρ2 σ2 G2 H2 q2 (g1.gx.trans s2)) (fun b2 ρ2 σ2 G2 H2 q2 s2 => c b2 ρ2 σ2 G2 H2 q2 (g1.gx.trans s2))
    | false => exact h2 rfl _ G1 H1 _ o1 (fun b2 ρ2 σ2 G2 H2 q2 s2 => n b2 ρ2 σ2 G2 H2 q2 (g1.gx.trans s2)) (fun b2 d2 v2 σ2 ρ2 G2 H2 q2 s2 => r b2 d2 v2 σ2 ρ2 G2 H2 q2 (g1.gx.trans s2)) (fun b2 ρ2 σ2 G2 H2 q2 s2 => kk b2 ρ2 σ2 G2 H2 q2 (g1.gx.trans s2)) (fun b2 ρ2 σ2 G2 H2 q2 s2 => c b2 ρ2 σ2 G2 H2 q2 (g1.gx.trans s2))
/-- a, b = a pair that is computed -/
theorem sm_pairX (h : EvX B te b ρ P1) (k : ∀ b' d, P1 b' d → ∃ x y, d = .tup [x, y] ∧ Stm B tz b' ((ρ.set i (some x)).set j (some y)) P) : Stm B (tSeq (tAsg te (gTup K 2 (gCons (gName i) (gCons (gName j) gNil)))) tz) b ρ P := fun σ G H D o n r kk c =>
  h σ G H o _ fun b' d v G' H' q s o' rr => by
    obtain ⟨x, y, rfl, k⟩ := k b' d q
    obtain ⟨a, xs, rfl, h2, h3⟩ := rr
    obtain ⟨v1, v2, rfl, r1, r2⟩ := h3.two'
    refine ⟨a, _, rfl, SqT.of (o'.sub _ _ h2), rfl, v1, _, rfl, v2, _, rfl, rfl, ?_⟩
    exact k _ G' H' _ ((o'.set i r1).set j r2) (fun b2 ρ2 σ2 G2 H2 q2 s2 => n b2 ρ2 σ2 G2 H2 q2 (s.trans s2)) (fun b2 d2 v2 σ2 ρ2 G2 H2 q2 s2 => r b2 d2 v2 σ2 ρ2 G2 H2 q2 (s.trans s2)) (fun b2 ρ2 σ2 G2 H2 q2 s2 => kk b2 ρ2 σ2 G2 H2 q2 (s.trans s2)) (fun b2 ρ2 σ2 G2 H2 q2 s2 => c b2 ρ2 σ2 G2 H2 q2 (s.trans s2))
theorem Reps.three' {G : Hp} {xs : List V} (h : Reps G [x, y, z] xs) : ∃ u v w, xs = [u, v, w] ∧ Rep G x u ∧ Rep G y v ∧ Rep G z w := by
  obtain ⟨u, r, rfl, h1, v, r', rfl, h2, w, r'', rfl, h3, e⟩ := h
  cases e
  exact ⟨u, v, w, rfl, h1, h2, h3⟩
theorem sm_triX (h : EvX B te b ρ P1) (k : ∀ b' d, P1 b' d → ∃ x y z, d = .tup [x, y, z] ∧ Stm B tz b' (((ρ.set i (some x)).set j (some y)).set l (some z)) P) : Stm B (tSeq (tAsg te (gTup K 3 (gCons (gName i) (gCons (gName j) (gCons (gName l) gNil))))) tz) b ρ P := fun σ G H D o n r kk c =>
  h σ G H o _ fun b' d v G' H' q s o' rr => by
    obtain ⟨x, y, z, rfl, k⟩ := k b' d q
    obtain ⟨a, xs, rfl, h2, h3⟩ := rr
    obtain ⟨v1, v2, v3, rfl, r1, r2, r3⟩ := h3.three'
    refine ⟨a, _, rfl, SqT.of (o'.sub _ _ h2), rfl, v1, _, rfl, v2, _, rfl, v3, _, rfl, rfl, ?_⟩
    exact k _ G' H' _ (((o'.set i r1).set j r2).set l r3) (fun b2 ρ2 σ2 G2 H2 q2 s2 => n b2 ρ2 σ2 G2 H2 q2 (s.trans s2)) (fun b2 d2 v2 σ2 ρ2 G2 H2 q2 s2 => r b2 d2 v2 σ2 ρ2 G2 H2 q2 (s.trans s2)) (fun b2 ρ2 σ2 G2 H2 q2 s2 => kk b2 ρ2 σ2 G2 H2 q2 (s.trans s2)) (fun b2 ρ2 σ2 G2 H2 q2 s2 => c b2 ρ2 σ2 G2 H2 q2 (s.trans s2))
/-- a, b = x, y -/
theorem sm_parX {P2 : Bx → List D → Prop} (h : EvXA B ta b ρ P2) (k : ∀ b' ds, P2 b' ds → ∃ x y, ds = [x, y] ∧ Stm B tz b' ((ρ.set i (some x)).set j (some y)) P) : Stm B (tSeq (tPar i j ta) tz) b ρ P := fun σ G H D o n r kk c =>
  h σ G H o _ fun b' ds vs G' H' q s o' rr => by
    obtain ⟨x, y, rfl, k⟩ := k b' ds q
    obtain ⟨v1, v2, rfl, r1, r2⟩ := rr.two'
    refine ⟨v1, v2, rfl, ?_⟩
    exact k _ G' H' _ ((o'.set i r1).set j r2) (fun b2 ρ2 σ2 G2 H2 q2 s2 => n b2 ρ2 σ2 G2 H2 q2 (s.trans s2)) (fun b2 d2 v2 σ2 ρ2 G2 H2 q2 s2 => r b2 d2 v2 σ2 ρ2 G2 H2 q2 (s.trans s2)) (fun b2 ρ2 σ2 G2 H2 q2 s2 => kk b2 ρ2 σ2 G2 H2 q2 (s.trans s2)) (fun b2 ρ2 σ2 G2 H2 q2 s2 => c b2 ρ2 σ2 G2 H2 q2 (s.trans s2))
theorem sm_par3X {P2 : Bx → List D → Prop} (h : EvXA B ta b ρ P2) (k : ∀ b' ds, P2 b' ds → ∃ x y z, ds = [x, y, z] ∧ Stm B tz b' (((ρ.set i (some x)).set j (some y)).set l (some z)) P) : Stm B (tSeq (tPar3 i j l ta) tz) b ρ P := fun σ G H D o n r kk c =>
  h σ G H o _ fun b' ds vs G' H' q s o' rr => by
    obtain ⟨x, y, z, rfl, k⟩ := k b' ds q
    obtain ⟨v1, v2, v3, rfl, r1, r2, r3⟩ := rr.three'
    refine ⟨v1, v2, v3, rfl, ?_⟩
    exact k _ G' H' _ (((o'.set i r1).set j r2).set l r3) (fun b2 ρ2 σ2 G2 H2 q2 s2 => n b2 ρ2 σ2 G2 H2 q2 (s.trans s2)) (fun b2 d2 v2 σ2 ρ2 G2 H2 q2 s2 => r b2 d2 v2 σ2 ρ2 G2 H2 q2 (s.trans s2)) (fun b2 ρ2 σ2 G2 H2 q2 s2 => kk b2 ρ2 σ2 G2 H2 q2 (s.trans s2)) (fun b2 ρ2 σ2 G2 H2 q2 s2 => c b2 ρ2 σ2 G2 H2 q2 (s.trans s2))
/-- n += x -/
theorem sm_aug {n m : Int} (hn : ρ[i]? = some (some (.int n))) (h : Ev b te ρ (.int m)) (k : Stm B tz b (ρ.set i (some (.int (n + m)))) P) : Stm B (tSeq (tAug i te (ipI fun i j => i + j)) tz) b ρ P := fun σ G H D o nn r kk c => by
  obtain ⟨v, h1, h2⟩ := o.env.at' i _ hn
  cases (show v = V.int n from h2)
  refine ⟨.int n, h1, h σ G H o.lk o.env o.sub _ fun w G' H' g rr => ?_⟩
  cases (show w = V.int m from rr)
  refine ⟨n, m, rfl, rfl, ?_⟩
  have o' := o.go g
  exact k _ _ _ _ (o'.set i (d := .int (n + m)) rfl) (fun b2 ρ2 σ2 G2 H2 q2 s2 => nn b2 ρ2 σ2 G2 H2 q2 (g.gx.trans s2)) (fun b2 d2 v2 σ2 ρ2 G2 H2 q2 s2 => r b2 d2 v2 σ2 ρ2 G2 H2 q2 (g.gx.trans s2)) (fun b2 ρ2 σ2 G2 H2 q2 s2 => kk b2 ρ2 σ2 G2 H2 q2 (g.gx.trans s2)) (fun b2 ρ2 σ2 G2 H2 q2 s2 => c b2 ρ2 σ2 G2 H2 q2 (g.gx.trans s2))
end
end Sh
set_option Elab.async false
set_option linter.all false
set_option maxRecDepth 100000
/-! ShO: dict and field stores, loops, locks, calls that change objects. -/
namespace Sh
open PySem L2
section
variable {B : Bs} {b : Bx} {ρ : Ro} {te tv td ty tf : TE} {tt : TT} {ta : TA} {d x y z : D} {ds : List D} {P : Po4} {P1 : Po} {K : PySem.W.Frag} {p : Addr} {ts tw tz tb : TS} {wi : TI} {g : TG} {i j l : Nat} {m : M}
theorem length_putD {κ : Type} [DecidableEq κ] (kvs : List (κ × D)) (k : κ) (d : D) : (putD kvs k d).length ≤ kvs.length + 1 := by
  unfold putD
  split <;> simp
/-- d[k] = v on a root with plain keys -/
theorem sm_dputK {k : Key} (h : EvX B tv b ρ P1) (q : ∀ b' x, P1 b' x → ∃ p kvs, Ev b' td ρ (.ref p) ∧ Ev b' ty ρ (kD k) ∧ (p, .dK kvs) ∈ b'.rt ∧ kvs.length ≤ 100000 ∧ Stm B tz (b'.put p (.dK (putD kvs k x))) ρ P) : Stm B (tSeq (sDPut td ty tv) tz) b ρ P := fun σ G H D o n r kk c =>
  h σ G H o _ fun b' x v G1 H1 p1 s1 o1 rx => by
    obtain ⟨p, kvs, hd, hk, hp, hl, k⟩ := q b' x p1
    refine hd σ G1 H1 o1.lk o1.env o1.sub _ fun u G2 H2 g2 r2 => ?_
    have o2 := o1.go g2
    cases (show u = V.ref p from r2)
    refine hk σ _ _ o2.lk o2.env o2.sub _ fun w H3 G3 g3 r3 => ?_
    have o3 := o2.go g3
    obtain ⟨xs, e1, e2⟩ := root_at o3 hp
    have s3 := (s1.trans g2.gx).trans g3.gx
    refine ⟨p, _, rfl, .inl ⟨xs, _, e1, rep_kD r3, ?_, rfl⟩, ?_⟩
    · rw [← e2.len, PySem.sizeLine_eq]; omega
    · exact k _ _ _ _ (o3.mut hp ⟨_, upd_same, e2.put _ ((rx.mono g2.gx).mono g3.gx)⟩) (fun b2 ρ2 σ2 G2 H2 q2 s2 => n b2 ρ2 σ2 G2 H2 q2 (s3.trans s2)) (fun b2 d2 v2 σ2 ρ2 G2 H2 q2 s2 => r b2 d2 v2 σ2 ρ2 G2 H2 q2 (s3.trans s2)) (fun b2 ρ2 σ2 G2 H2 q2 s2 => kk b2 ρ2 σ2 G2 H2 q2 (s3.trans s2)) (fun b2 ρ2 σ2 G2 H2 q2 s2 => c b2 ρ2 σ2 G2 H2 q2 (s3.trans s2))
theorem sm_dputT {k : Pr} (h : EvX B tv b ρ P1) (q : ∀ b' x, P1 b' x → ∃ p kvs, Ev b' td ρ (.ref p) ∧ Ev b' ty ρ (pD k) ∧ (p, .dT kvs) ∈ b'.rt ∧ kvs.length ≤ 100000 ∧ Stm B tz (b'.put p (.dT (putD kvs (pK k) x))) ρ P) : Stm B (tSeq (sDPut td ty tv) tz) b ρ P := fun σ G H D o n r kk c =>
  h σ G H o _ fun b' x v G1 H1 p1 s1 o1 rx => by
    obtain ⟨p, kvs, hd, hk, hp, hl, k⟩ := q b' x p1
    refine hd σ G1 H1 o1.lk o1.env o1.sub _ fun u G2 H2 g2 r2 => ?_
    have o2 := o1.go g2
    cases (show u = V.ref p from r2)
    refine hk σ _ _ o2.lk o2.env o2.sub _ fun w H3 G3 g3 r3 => ?_
    have o3 := o2.go g3
    obtain ⟨xs, e1, e2⟩ := root_at o3 hp
    obtain ⟨c', rfl, h5⟩ := rep_pD r3
    have s3 := (s1.trans g2.gx).trans g3.gx
    refine ⟨p, _, rfl, .inr ⟨xs, _, c', e1, rfl, o3.sub _ _ h5, ?_, rfl⟩, ?_⟩
    · rw [← e2.len, PySem.sizeLine_eq]; omega
    · exact k _ _ _ _ (o3.mut hp ⟨_, upd_same, e2.put _ ((rx.mono g2.gx).mono g3.gx)⟩) (fun b2 ρ2 σ2 G2 H2 q2 s2 => n b2 ρ2 σ2 G2 H2 q2 (s3.trans s2)) (fun b2 d2 v2 σ2 ρ2 G2 H2 q2 s2 => r b2 d2 v2 σ2 ρ2 G2 H2 q2 (s3.trans s2)) (fun b2 ρ2 σ2 G2 H2 q2 s2 => kk b2 ρ2 σ2 G2 H2 q2 (s3.trans s2)) (fun b2 ρ2 σ2 G2 H2 q2 s2 => c b2 ρ2 σ2 G2 H2 q2 (s3.trans s2))
/-- the fields' list with f's value put -/
def putFD (f : Str) (d : D) : List (Str × D) → List (Str × D)
  | [] => [(f, d)]
  | (g, x) :: r => if g = f then (g, d) :: r else (g, x) :: putFD f d r
theorem RepD.putF {G : Hp} {f : Str} {d : D} {v : V} (r : Rep G d v) : ∀ {fs : List (Str × D)} {xs : List (Str × V)}, RepD G fs xs → RepD G (putFD f d fs) (L2.putF f v xs)
  | _, _, .nil => .cons r .nil
  | _, _, .cons (k := k) r' t => by
    unfold putFD L2.putF
    by_cases e : k = f
    · rw [if_pos e, if_pos e]; exact .cons r t
    · rw [if_neg e, if_neg e]; exact .cons r' (RepD.putF r t)
/-- self.f = v on a root -/
theorem sm_fld {f : Str} {C : Addr} (hc : Cls K C) (hn : NoAttr K C f) (h : EvX B tv b ρ P1) (q : ∀ b' x, P1 b' x → ∃ p fs, Ev b' td ρ (.ref p) ∧ (p, .ins C fs) ∈ b'.rt ∧ fs.length ≤ 900 ∧ Stm B tz (b'.put p (.ins C (putFD f x fs))) ρ P) : Stm B (tSeq (sFld K td tv f) tz) b ρ P := fun σ G H D o n r kk c =>
  h σ G H o _ fun b' x v G1 H1 p1 s1 o1 rx => by
    obtain ⟨p, fs, hd, hp, hl, k⟩ := q b' x p1
    refine hd σ G1 H1 o1.lk o1.env o1.sub _ fun u G2 H2 g2 r2 => ?_
    have o2 := o1.go g2
    cases (show u = V.ref p from r2)
    obtain ⟨dx, xs, e1, e2⟩ := root_at o2 hp
    have s3 := s1.trans g2.gx
    refine ⟨p, C, dx, xs, rfl, e1, hc, hn, by rw [← e2.len]; omega, ?_⟩
    exact k _ _ _ _ (o2.mut hp ⟨dx, _, upd_same, e2.putF (rx.mono g2.gx)⟩) (fun b2 ρ2 σ2 G2 H2 q2 s2 => n b2 ρ2 σ2 G2 H2 q2 (s3.trans s2)) (fun b2 d2 v2 σ2 ρ2 G2 H2 q2 s2 => r b2 d2 v2 σ2 ρ2 G2 H2 q2 (s3.trans s2)) (fun b2 ρ2 σ2 G2 H2 q2 s2 => kk b2 ρ2 σ2 G2 H2 q2 (s3.trans s2)) (fun b2 ρ2 σ2 G2 H2 q2 s2 => c b2 ρ2 σ2 G2 H2 q2 (s3.trans s2))
/-- freezing a root that a name holds -/
theorem sm_frz (hp : (p, m) ∈ b.rt) (hi : ρ[i]? = some (some (.ref p))) (k : Stm B ts (b.drop p) (ρ.set i (some m.d)) P) : Stm B ts b ρ P := fun σ G H D o n r kk c => by
  obtain ⟨G', s, rr, o'⟩ := o.freeze hp
  have e : Env G' σ (ρ.set i (some m.d)) := by
    refine ⟨by simp [o'.env.len], fun j d' h => ?_⟩
    by_cases hj : i = j
    · subst hj
      have hi' : i < ρ.length := (List.getElem?_eq_some_iff.mp hi).1
      rw [List.getElem?_set_self hi'] at h
      cases h
      obtain ⟨v, h1, h2⟩ := o.env.at' i _ hi
      cases (show v = V.ref p from h2)
      exact ⟨_, h1, rr⟩
    · rw [List.getElem?_set_ne hj] at h
      exact o'.env.at' j d' h
  exact k σ G' H D (o'.reenv e) (fun b2 ρ2 σ2 G2 H2 q2 s2 => n b2 ρ2 σ2 G2 H2 q2 (s.trans s2)) (fun b2 d2 v2 σ2 ρ2 G2 H2 q2 s2 => r b2 d2 v2 σ2 ρ2 G2 H2 q2 (s.trans s2)) (fun b2 ρ2 σ2 G2 H2 q2 s2 => kk b2 ρ2 σ2 G2 H2 q2 (s.trans s2)) (fun b2 ρ2 σ2 G2 H2 q2 s2 => c b2 ρ2 σ2 G2 H2 q2 (s.trans s2))
/-- less known, fewer roots -/
theorem sm_less {b' : Bx} {ρ' : Ro} (h1 : b'.fl = true → b.fl = true) (h2 : ∀ x ∈ b'.rt, x ∈ b.rt) (hl : ρ'.length = ρ.length) (he : ∀ (i : Nat) (d : D), ρ'[i]? = some (some d) → ρ[i]? = some (some d)) (k : Stm B ts b' ρ' P) : Stm B ts b ρ P := fun σ G H D o =>
  k σ G H D ((o.less h1 h2).reenv (o.env.less hl he))
/-! ### loops -/
theorem sm_while (I : Nat → Bx → Ro → Prop) (m0 : Nat) (h0 : I m0 b ρ)
    (turn : ∀ m b ρ, I m b ρ → ∃ cc, EvT b tt ρ cc ∧ (cc = true → Stm B tb b ρ ⟨fun b' ρ' => ∃ m', m' < m ∧ I m' b' ρ', P.rt, fun _ _ => False, fun b' ρ' => ∃ m', m' < m ∧ I m' b' ρ'⟩) ∧ (cc = false → Stm B tz b ρ P)) : Stm B (tSeq (tWhile tt tb) tz) b ρ P := fun σ G H D o n r kk c => by
  refine ⟨fun m σ' H' => ∃ b' ρ' G', I m b' ρ' ∧ Same G G' ∧ Ok B b' σ' ρ' G' H', ⟨m0, b, ρ, G, h0, Same.refl G, o⟩, ?_⟩
  rintro m σ1 H1 ⟨b1, ρ1, G1, i1, s1, o1⟩
  obtain ⟨cc, ht, h1, h2⟩ := turn m b1 ρ1 i1
  refine ht σ1 G1 H1 o1.lk o1.env o1.sub _ fun H2 G2 g2 => ?_
  have o2 := o1.go g2
  have s2 := s1.trans g2.gx
  cases cc with
  | true =>
    refine ⟨fun σ' H' => ∃ m', m' < m ∧ ∃ b' ρ' G', I m' b' ρ' ∧ Same G G' ∧ Ok B b' σ' ρ' G' H', fun σ' H' h => h, ?_⟩
    exact h1 rfl σ1 G2 H2 _ o2 (fun b3 ρ3 σ3 G3 H3 ⟨m', lt, i3⟩ s3 o3 => ⟨m', lt, b3, ρ3, G3, i3, s2.trans s3, o3⟩) (fun b2 d2 v2 σ2 ρ2 G2 H2 q2 s3 => r b2 d2 v2 σ2 ρ2 G2 H2 q2 (s2.trans s3)) (fun _ _ _ _ _ z => z.elim) (fun b3 ρ3 σ3 G3 H3 ⟨m', lt, i3⟩ s3 o3 => ⟨m', lt, b3, ρ3, G3, i3, s2.trans s3, o3⟩)
  | false => exact h2 rfl σ1 G2 H2 _ o2 (fun b3 ρ3 σ3 G3 H3 q3 s3 => n b3 ρ3 σ3 G3 H3 q3 (s2.trans s3)) (fun b2 d2 v2 σ2 ρ2 G2 H2 q2 s3 => r b2 d2 v2 σ2 ρ2 G2 H2 q2 (s2.trans s3)) (fun b3 ρ3 σ3 G3 H3 q3 s3 => kk b3 ρ3 σ3 G3 H3 q3 (s2.trans s3)) (fun b3 ρ3 σ3 G3 H3 q3 s3 => c b3 ρ3 σ3 G3 H3 q3 (s2.trans s3))
theorem sx_pure {P : Bx → List D → Prop} (h : Src b wi ρ ds) (q : P b ds) : SrcX B wi b ρ P := fun σ G H o R k => h σ G H o.lk o.env o.sub R fun J H' G' g S => k b ds J G' H' q g.gx (o.go g) S
theorem sx_list {P : Bx → List D → Prop} (h : EvX B te b ρ fun b' d => ∃ ds, d = .lst ds ∧ P b' ds) : SrcX B (iList K te) b ρ P := fun σ G H o R k => h σ G H o _ fun b' d v G' H' ⟨ds, e, q⟩ s o' rr => by
  subst e
  obtain ⟨a, xs, rfl, h2, h3⟩ := rr
  exact ⟨a, rfl, ⟨xs, SqL.of (o'.sub _ _ h2)⟩, k b' ds _ G' H' q s o' (srcok_list h2 h3)⟩
theorem sm_for {P2 : Bx → List D → Prop} (hs : SrcX B wi b ρ P2)
    (k : ∀ b1 ds, P2 b1 ds → ∃ I : Nat → Bx → Ro → Prop, I 0 b1 ρ ∧ (∀ i b ρ, I i b ρ → ∀ d, ds[i]? = some d → ∃ ρ2 vs, TgT g vs ρ d ρ2 ∧ Stm B tb b ρ2 ⟨I (i + 1), P.rt, fun _ _ => False, I (i + 1)⟩) ∧ ∀ b ρ, I ds.length b ρ → Stm B tz b ρ P) : Stm B (tSeq (tFor wi g tb) tz) b ρ P := fun σ G H D o n r kk c =>
  hs σ G H o _ fun b1 ds J G1 H1 p1 s1 o1 S => by
    obtain ⟨I, i0, turn, fin⟩ := k b1 ds p1
    refine ⟨fun i m σ' H' => m = ds.length - i ∧ i ≤ ds.length ∧ ∃ b' ρ' G', I i b' ρ' ∧ Same G1 G' ∧ Ok B b' σ' ρ' G' H', ⟨ds.length, by simp, Nat.zero_le _, b1, ρ, G1, i0, Same.refl G1, o1⟩, ?_⟩
    rintro i m σ2 H2 ⟨rfl, hi, b2, ρ2, G2, i2, s2, o2⟩
    by_cases hlt : i < ds.length
    · refine .inr ⟨S.go i G2 H2 s2 o2.sub hlt, fun σ' H' => i + 1 ≤ ds.length ∧ ∃ b' ρ' G', I (i + 1) b' ρ' ∧ Same G1 G' ∧ Ok B b' σ' ρ' G' H', fun σ' H' ⟨le, h⟩ => ⟨ds.length - (i + 1), by omega, rfl, le, h⟩, fun v H3 y => ?_⟩
      obtain ⟨G3, d, g3, e3, r3⟩ := S.yld i G2 H2 v H3 s2 o2.sub hlt y
      have o3 := o2.go g3
      obtain ⟨ρ4, vs, tg, body⟩ := turn i b2 ρ2 i2 d e3
      refine tg σ2 G3 H3 v o3.env o3.sub r3 _ fun σ4 E4 _ _ => ?_
      have s3 := s2.trans g3.gx
      exact body σ4 G3 H3 _ (o3.reenv E4) (fun b5 ρ5 σ5 G5 H5 q5 s5 o5 => ⟨hlt, b5, ρ5, G5, q5, s3.trans s5, o5⟩) (fun b5 d5 v5 σ5 ρ5 G5 H5 q5 s5 => r b5 d5 v5 σ5 ρ5 G5 H5 q5 ((s1.trans s3).trans s5)) (fun _ _ _ _ _ z => z.elim) (fun b5 ρ5 σ5 G5 H5 q5 s5 o5 => ⟨hlt, b5, ρ5, G5, q5, s3.trans s5, o5⟩)
    · have ei : i = ds.length := by omega
      subst ei
      have s12 := s1.trans s2
      refine .inl ⟨S.stop G2 H2 s2 o2.sub, ?_⟩
      exact fin b2 ρ2 i2 σ2 G2 H2 _ o2 (fun b5 ρ5 σ5 G5 H5 q5 s5 => n b5 ρ5 σ5 G5 H5 q5 (s12.trans s5)) (fun b5 d5 v5 σ5 ρ5 G5 H5 q5 s5 => r b5 d5 v5 σ5 ρ5 G5 H5 q5 (s12.trans s5)) (fun b5 ρ5 σ5 G5 H5 q5 s5 => kk b5 ρ5 σ5 G5 H5 q5 (s12.trans s5)) (fun b5 ρ5 σ5 G5 H5 q5 s5 => c b5 ρ5 σ5 G5 H5 q5 (s12.trans s5))
end
end Sh
set_option Elab.async false
set_option linter.all false
set_option maxRecDepth 100000
/-! ShP: locks: loops and comprehensions over dicts. -/
namespace Sh
open PySem L2
/-! ### the base set anew -/
def minus (H : Hp) (ps : List Addr) : Hp := fun a => if a ∈ ps then none else H a
theorem minus_in {H : Hp} {ps : List Addr} {a : Addr} (h : a ∈ ps) : minus H ps a = none := if_pos h
theorem minus_out {H : Hp} {ps : List Addr} {a : Addr} (h : a ∉ ps) : minus H ps a = H a := if_neg h
theorem minus_some {H : Hp} {ps : List Addr} {a : Addr} {o : HO} (h : minus H ps a = some o) : a ∉ ps ∧ H a = some o := by
  unfold minus at h
  split at h
  · cases h
  · rename_i c; exact ⟨c, h⟩
theorem Gr.past {H0 G0 H G H' G' : Hp} {ps : List Addr} (g : Gr H0 G0 H G) (hn : ∀ p ∈ ps, H0 p = none) (h : Gr (minus H ps) G H' G') : Gr H0 G0 H' G' := by
  have key : ∀ a o, H0 a = some o → minus H ps a = some o := fun a o e => by
    have : a ∉ ps := fun z => by rw [hn a z] at e; cases e
    rw [minus_out this]
    exact g.ex a o e
  exact ⟨fun a o e => h.ex a o (key a o e), g.gx.trans h.gx, h.sub, fun a o e n => (h.old a o (key a o e) n).trans (g.old a o e n), fun a o u e => g.lk a o u (h.lk a o u e)⟩
def rts (b : Bx) : List Addr := b.rt.map (·.1)
def Bx.lk (b : Bx) : Bx := ⟨false, b.rt⟩
def Bx.ul (b : Bx) : Bx := ⟨true, b.rt⟩
theorem M.st_tr {G G' H : Hp} {p : Addr} {m : M} (r : m.st G H p) (t : Tr G G') : m.st G' H p := by
  have go : ∀ {κ : Type} [DecidableEq κ] {ds : List (κ × D)} {xs : List (κ × V)}, RepD G ds xs → RepD G' ds xs := by
    intro κ _ ds xs h
    induction h with
    | nil => exact .nil
    | cons r _ ih => exact .cons (r.tr t) ih
  cases m with
  | lst ds => obtain ⟨xs, h1, h2⟩ := r; exact ⟨xs, h1, h2.tr t⟩
  | dK ds => obtain ⟨xs, h1, h2⟩ := r; exact ⟨xs, h1, go h2⟩
  | dT ds => obtain ⟨xs, h1, h2⟩ := r; exact ⟨xs, h1, go h2⟩
  | ins C ds => obtain ⟨dx, xs, h1, h2⟩ := r; exact ⟨dx, xs, h1, go h2⟩
section
variable {B : Bs} {b : Bx} {σ : L2.St} {ρ : Ro} {G H G' H' : Hp} {p a : Addr} {m m' : M} {d : D} {v : V} {u : HO}
/-- the base of a locked part -/
def lkB (b : Bx) (G H : Hp) (a : Addr) (od : Obj) (u : HO) : Bs := ⟨upd (minus H (rts b)) a (.frz od u), upd G a (.frz od u)⟩
theorem rt_ne (o : Ok B b σ ρ G H) (hG : G a = some u) {x : Addr × M} (hx : x ∈ b.rt) : x.1 ≠ a := fun e => by
  have := (o.lk.rt x hx).gp
  rw [e, hG] at this
  cases this
theorem Ok.lock (o : Ok B b σ ρ G H) (hG : G a = some u) (hu : isDic u = true) (od : Obj) : Ok (lkB b G H a od u) b.lk σ ρ (upd G a (.frz od u)) (upd H a (.frz od u)) := by
  have t := Tr.lock (o := od) hG hu
  refine ⟨⟨fun x ob e => ?_, Same.refl _, same_upd2 o.sub, fun _ _ _ _ => rfl, fun _ _ _ e => e⟩, ⟨(fun z => by cases z), fun x hx => ?_⟩, o.env.tr t, fun x hx => ?_⟩
  · show upd H a (.frz od u) x = some ob
    have e : upd (minus H (rts b)) a (.frz od u) x = some ob := e
    by_cases c : x = a
    · subst c; rw [upd_same] at e ⊢; exact e
    · rw [upd_ne c] at e ⊢; exact (minus_some e).2
  · have ne := rt_ne o hG hx
    have r := o.lk.rt x hx
    exact ⟨by rw [upd_ne ne]; exact r.gp, M.st_at (M.st_tr r.at' t) (fun z => ne z.symm)⟩
  · show upd (minus H (rts b)) a (.frz od u) x.1 = none
    rw [upd_ne (rt_ne o hG hx)]
    exact minus_in (List.mem_map.mpr ⟨x, hx, rfl⟩)
theorem Ok.unlock {b2 : Bx} {σ2 : L2.St} {ρ2 : Ro} {G2 H2 : Hp} {od : Obj} (o : Ok B b σ ρ G H) (hfl : b.fl = true) (hG : G a = some u) (hu : isDic u = true) (o2 : Ok (lkB b G H a od u) b2 σ2 ρ2 G2 H2) :
    H2 a = some (.frz od u) ∧ Same G (upd G2 a u) ∧ Tr G2 (upd G2 a u) ∧ Ok B b2.ul σ2 ρ2 (upd G2 a u) (upd H2 a u) := by
  have na : a ∉ rts b := fun z => by
    obtain ⟨x, hx, e⟩ := List.mem_map.mp z
    exact rt_ne o hG hx e
  obtain ⟨e1, e2, g3⟩ := Gr.unlock hG (by rw [minus_out na]; exact o.sub _ _ hG) hu o2.gr
  have t := Tr.unlock e1 hu
  have gr : Gr B.H0 B.G0 (upd H2 a u) (upd G2 a u) := o.gr.past (ps := rts b) (fun p hp => by
    obtain ⟨x, hx, e⟩ := List.mem_map.mp hp
    exact e ▸ o.new x hx) g3
  refine ⟨e2, g3.gx, t, gr, ⟨fun _ a' ob u' e => o.lk.fl hfl a' ob u' (g3.lk a' ob u' e), fun x hx => ?_⟩, o2.env.tr t, fun x hx => ?_⟩
  · have r := o2.lk.rt x hx
    have ne : x.1 ≠ a := fun z => by
      have := r.gp
      rw [z, e1] at this
      cases this
    exact ⟨by rw [upd_ne ne]; exact r.gp, M.st_at (M.st_tr r.at' t) (fun z => ne z.symm)⟩
  · have := o2.new x hx
    have this : upd (minus H (rts b)) a (.frz od u) x.1 = none := this
    have ne : x.1 ≠ a := fun z => by rw [z, upd_same] at this; cases this
    rw [upd_ne ne] at this
    by_cases c : x.1 ∈ rts b
    · obtain ⟨y, hy, e⟩ := List.mem_map.mp c
      exact e ▸ o.new y hy
    · rw [minus_out c] at this
      exact o.gr.ex.free this
end
/-! ### what is read without a trace, and locked sources -/
def Kn (td : TE) (ρ : Ro) (d : D) : Prop := ∀ σ G H, Env G σ ρ → Same G H → ∃ v, Rep G d v ∧ ∀ (H2 : Hp) (Q : VK), (∀ a C dx xs, G a = some (.ins C dx xs) → H2 a = some (.ins C dx xs)) → Q v H2 → td σ H2 Q
theorem kn_var {ρ : Ro} {i : Nat} {d : D} (h : ρ[i]? = some (some d)) : Kn (tVar i) ρ d := fun σ G H E s => by
  obtain ⟨v, h1, h2⟩ := E.at' i d h
  exact ⟨v, h2, fun H2 Q _ q => ⟨v, h1, q⟩⟩
theorem kn_fld {K : PySem.W.Frag} {ρ : Ro} {te : TE} {d : D} {C : Addr} {fs : List (Str × D)} {f : Str} (h : Kn te ρ (.ins C fs)) (hc : Cls K C) (hn : NoAttr K C f) (e : fs.lookup f = some d) : Kn (tFld K te f) ρ d := fun σ G H E s => by
  obtain ⟨v, r1, k⟩ := h σ G H E s
  obtain ⟨a, dx, xs, rfl, h2, h3⟩ := r1
  obtain ⟨w, h4, h5⟩ := (repF_iff.mp h3).lookup e
  exact ⟨w, h5, fun H2 Q hk q => k H2 _ hk ⟨a, C, dx, xs, w, rfl, hk _ _ _ _ h2, hc, hn, h4, q⟩⟩
def SrcL (b : Bx) (wi : TI) (ρ : Ro) (ds : List D) : Prop := ∀ σ G H, Lk b G H → Env G σ ρ → Same G H → ∃ a u, G a = some u ∧ isDic u = true ∧ Mut (some u) ∧ ∀ od, ∀ R : It → Hp → Prop, (∀ J, SrcOk J (upd G a (.frz od u)) ds → R J (upd H a (.frz od u))) → wi σ (upd H a (.frz od u)) R
section
variable {b : Bx} {ρ : Ro} {td : TE}
theorem ins_keep {G H : Hp} {a : Addr} {u : HO} {od : Obj} (s : Same G H) (hG : G a = some u) (hu : isDic u = true) : ∀ x C dx xs, G x = some (.ins C dx xs) → upd H a (.frz od u) x = some (.ins C dx xs) := fun x C dx xs e => by
  have ne : x ≠ a := fun z => by subst z; rw [hG] at e; cases e; cases hu
  rw [upd_ne ne]
  exact s _ _ e
theorem rd_un {G : Hp} {b : Bx} {H : Hp} {a : Addr} {u : HO} (l : Lk b G H) (hfl : b.fl = true) (h : Rd G a u) : G a = some u := by
  rcases h with h | ⟨o, h⟩
  · exact h
  · exact absurd h (l.fl hfl a o u)
theorem RepD.tr' {κ : Type} [DecidableEq κ] {G G' : Hp} (t : Tr G G') {ds : List (κ × D)} {xs : List (κ × V)} (h : RepD G ds xs) : RepD G' ds xs := by
  induction h with
  | nil => exact .nil
  | cons r _ ih => exact .cons (r.tr t) ih
theorem sl_keysK {kvs : List (Key × D)} (hfl : b.fl = true) (h : Kn td ρ (.dK kvs)) : SrcL b (iKeys td) ρ (kvs.map fun kv => kD kv.1) := fun σ G H l E s => by
  obtain ⟨v, r, k⟩ := h σ G H E s
  obtain ⟨a, xs, rfl, h2, h3⟩ := r
  have hG := rd_un l hfl h2
  exact ⟨a, _, hG, rfl, True.intro, fun od R q => k _ _ (ins_keep s hG rfl) ⟨a, od, rfl, .inl ⟨xs, upd_same, q _ (srcok_keysK upd_same (RepD.tr' (Tr.lock hG rfl) (repK_iff.mp h3)))⟩⟩⟩
theorem sl_keysT {kvs : List (List Key × D)} (hfl : b.fl = true) (h : Kn td ρ (.dT kvs)) : SrcL b (iKeys td) ρ (kvs.map fun kv => .tup (kv.1.map kD)) := fun σ G H l E s => by
  obtain ⟨v, r, k⟩ := h σ G H E s
  obtain ⟨a, xs, rfl, h2, h3⟩ := r
  have hG := rd_un l hfl h2
  exact ⟨a, _, hG, rfl, True.intro, fun od R q => k _ _ (ins_keep s hG rfl) ⟨a, od, rfl, .inr ⟨xs, upd_same, q _ (srcok_keysT upd_same (RepD.tr' (Tr.lock hG rfl) (repT_iff.mp h3)))⟩⟩⟩
theorem sl_valsK {kvs : List (Key × D)} (hfl : b.fl = true) (h : Kn td ρ (.dK kvs)) : SrcL b (iVals td) ρ (kvs.map fun kv => kv.2) := fun σ G H l E s => by
  obtain ⟨v, r, k⟩ := h σ G H E s
  obtain ⟨a, xs, rfl, h2, h3⟩ := r
  have hG := rd_un l hfl h2
  exact ⟨a, _, hG, rfl, True.intro, fun od R q => k _ _ (ins_keep s hG rfl) ⟨a, od, xs, rfl, upd_same, q _ (srcok_valsK upd_same (RepD.tr' (Tr.lock hG rfl) (repK_iff.mp h3)))⟩⟩
theorem sl_itemsK {kvs : List (Key × D)} (hfl : b.fl = true) (h : Kn td ρ (.dK kvs)) : SrcL b (iItems td) ρ (kvs.map fun kv => .tup [kD kv.1, kv.2]) := fun σ G H l E s => by
  obtain ⟨v, r, k⟩ := h σ G H E s
  obtain ⟨a, xs, rfl, h2, h3⟩ := r
  have hG := rd_un l hfl h2
  exact ⟨a, _, hG, rfl, True.intro, fun od R q => k _ _ (ins_keep s hG rfl) ⟨a, od, xs, rfl, upd_same, q _ (srcok_itemsK upd_same (RepD.tr' (Tr.lock hG rfl) (repK_iff.mp h3)))⟩⟩
/-! dicts with tuple keys -/
theorem srcok_valsT {G : Hp} {a : Addr} {o : Obj} {kvs : List (List Key × D)} {xs : List (List Key × V)} (h : G a = some (.frz o (.dT xs))) (r : RepD G kvs xs) : SrcOk (ValT a o xs) G (kvs.map fun kv => kv.2) := by
  have hl : (kvs.map fun kv => kv.2).length = xs.length := by rw [List.length_map, r.len]
  refine ⟨fun i G2 H e s hi => ⟨s _ _ (e _ _ h), by rw [← hl]; exact hi⟩, fun G2 H e s => ⟨s _ _ (e _ _ h), by rw [hl]; exact Nat.le_refl _⟩, fun i G2 H x H' e s hi y => ?_⟩
  obtain ⟨e1, k, e2⟩ := y
  subst e1
  obtain ⟨d, h4, h5⟩ := r.get e2
  exact ⟨G2, d, .refl s, by rw [List.getElem?_map, h4]; rfl, h5.mono e⟩
theorem srcok_itemsT {G : Hp} {a : Addr} {o : Obj} {kvs : List (List Key × D)} {xs : List (List Key × V)} (h : G a = some (.frz o (.dT xs))) (r : RepD G kvs xs) : SrcOk (ItmT a o xs) G (kvs.map fun kv => .tup [.tup (kv.1.map kD), kv.2]) := by
  have hl : (kvs.map fun kv => D.tup [.tup (kv.1.map kD), kv.2]).length = xs.length := by rw [List.length_map, r.len]
  refine ⟨fun i G2 H e s hi => ⟨s _ _ (e _ _ h), by rw [← hl]; exact hi⟩, fun G2 H e s => ⟨s _ _ (e _ _ h), by rw [hl]; exact Nat.le_refl _⟩, fun i G2 H x H' e s hi y => ?_⟩
  obtain ⟨T, k, v, q, e1, eq, rfl, hT, rfl⟩ := y
  obtain ⟨d, h4, h5⟩ := r.get e1
  have g1 : Gr H G2 H (upd G2 q (.tup (k.map kV))) := .tup s eq
  have g2 : Gr H (upd G2 q (.tup (k.map kV))) (upd H T (.tup [.ref q, v])) (upd (upd G2 q (.tup (k.map kV))) T (.tup [.ref q, v])) := .new g1.sub hT
  refine ⟨_, .tup [.tup (k.map kD), d], g1.trans g2, by rw [List.getElem?_map, h4]; rfl, T, _, rfl, upd_same, _, _, rfl, ?_, _, _, rfl, (h5.mono e).mono (g1.gx.trans g2.gx), rfl⟩
  exact (show Rep (upd G2 q (.tup (k.map kV))) (.tup (k.map kD)) (.ref q) from ⟨q, _, rfl, upd_same, reps_keys k⟩).mono g2.gx
theorem sl_valsT {kvs : List (List Key × D)} (hfl : b.fl = true) (h : Kn td ρ (.dT kvs)) : SrcL b (iValsT td) ρ (kvs.map fun kv => kv.2) := fun σ G H l E s => by
  obtain ⟨v, r, k⟩ := h σ G H E s
  obtain ⟨a, xs, rfl, h2, h3⟩ := r
  have hG := rd_un l hfl h2
  exact ⟨a, _, hG, rfl, True.intro, fun od R q => k _ _ (ins_keep s hG rfl) ⟨a, od, xs, rfl, upd_same, q _ (srcok_valsT upd_same (RepD.tr' (Tr.lock hG rfl) (repT_iff.mp h3)))⟩⟩
theorem sl_itemsT {kvs : List (List Key × D)} (hfl : b.fl = true) (h : Kn td ρ (.dT kvs)) : SrcL b (iItemsT td) ρ (kvs.map fun kv => .tup [.tup (kv.1.map kD), kv.2]) := fun σ G H l E s => by
  obtain ⟨v, r, k⟩ := h σ G H E s
  obtain ⟨a, xs, rfl, h2, h3⟩ := r
  have hG := rd_un l hfl h2
  exact ⟨a, _, hG, rfl, True.intro, fun od R q => k _ _ (ins_keep s hG rfl) ⟨a, od, xs, rfl, upd_same, q _ (srcok_itemsT upd_same (RepD.tr' (Tr.lock hG rfl) (repT_iff.mp h3)))⟩⟩
theorem pD_keys (p : Pr) : D.tup ((pK p).map kD) = pD p := rfl
theorem SrcL.is {wi : TI} {ds es : List D} (h : SrcL b wi ρ ds) (e : ds = es) : SrcL b wi ρ es := e ▸ h
end
/-! ### a loop over a locked dict -/
section
variable {B : Bs} {b : Bx} {ρ : Ro} {ds : List D} {P : Po4} {ts tw tz tb : TS} {wi : TI} {g : TG}
theorem sm_forL (hfl : b.fl = true) (hs : SrcL b wi ρ ds) (I : Nat → Bx → Ro → Prop) (i0 : I 0 b.lk ρ)
    (turn : ∀ B' i b ρ, I i b ρ → ∀ d, ds[i]? = some d → ∃ ρ2 vs, TgT g vs ρ d ρ2 ∧ Stm B' tb b ρ2 ⟨I (i + 1), fun b d => P.rt b.ul d, fun _ _ => False, I (i + 1)⟩)
    (fin : ∀ b ρ, I ds.length b ρ → Stm B tz b.ul ρ P) : Stm B (tSeq (tLock (tFor wi g tb)) tz) b ρ P := fun σ G H D o n r kk c => by
  obtain ⟨a, u, hG, hu, mu, h⟩ := hs σ G H o.lk o.env o.sub
  refine ⟨a, u, o.sub _ _ hG, mu, fun od => h od _ fun J S => ?_⟩
  have ol := o.lock hG hu od
  refine ⟨fun i m σ' H' => m = ds.length - i ∧ i ≤ ds.length ∧ ∃ b' ρ' G', I i b' ρ' ∧ Same (upd G a (.frz od u)) G' ∧ Ok (lkB b G H a od u) b' σ' ρ' G' H', ⟨ds.length, by simp, Nat.zero_le _, b.lk, ρ, _, i0, Same.refl _, ol⟩, ?_⟩
  rintro i m σ2 H2 ⟨rfl, hi, b2, ρ2, G2, i2, s2, o2⟩
  by_cases hlt : i < ds.length
  · refine .inr ⟨S.go i G2 H2 s2 o2.sub hlt, fun σ' H' => i + 1 ≤ ds.length ∧ ∃ b' ρ' G', I (i + 1) b' ρ' ∧ Same (upd G a (.frz od u)) G' ∧ Ok (lkB b G H a od u) b' σ' ρ' G' H', fun σ' H' ⟨le, h⟩ => ⟨ds.length - (i + 1), by omega, rfl, le, h⟩, fun v H3 y => ?_⟩
    obtain ⟨G3, d, g3, e3, r3⟩ := S.yld i G2 H2 v H3 s2 o2.sub hlt y
    have o3 := o2.go g3
    obtain ⟨ρ4, vs, tg, body⟩ := turn (lkB b G H a od u) i b2 ρ2 i2 d e3
    refine tg σ2 G3 H3 v o3.env o3.sub r3 _ fun σ4 E4 _ _ => ?_
    have s3 := s2.trans g3.gx
    refine body σ4 G3 H3 _ (o3.reenv E4) (fun b5 ρ5 σ5 G5 H5 q5 s5 o5 => ⟨hlt, b5, ρ5, G5, q5, s3.trans s5, o5⟩) (fun b5 d5 v5 σ5 ρ5 G5 H5 q5 s5 o5 r5 => ?_) (fun _ _ _ _ _ z => z.elim) (fun b5 ρ5 σ5 G5 H5 q5 s5 o5 => ⟨hlt, b5, ρ5, G5, q5, s3.trans s5, o5⟩)
    obtain ⟨e5, s6, t6, o6⟩ := o.unlock hfl hG hu o5
    exact ⟨e5, r _ d5 v5 σ5 ρ5 _ _ q5 s6 o6 (r5.tr t6)⟩
  · have ei : i = ds.length := by omega
    subst ei
    obtain ⟨e5, s6, t6, o6⟩ := o.unlock hfl hG hu o2
    refine .inl ⟨S.stop G2 H2 s2 o2.sub, e5, ?_⟩
    exact fin b2 ρ2 i2 σ2 _ _ _ o6 (fun b5 ρ5 σ5 G5 H5 q5 s5 => n b5 ρ5 σ5 G5 H5 q5 (s6.trans s5)) (fun b5 d5 v5 σ5 ρ5 G5 H5 q5 s5 => r b5 d5 v5 σ5 ρ5 G5 H5 q5 (s6.trans s5)) (fun b5 ρ5 σ5 G5 H5 q5 s5 => kk b5 ρ5 σ5 G5 H5 q5 (s6.trans s5)) (fun b5 ρ5 σ5 G5 H5 q5 s5 => c b5 ρ5 σ5 G5 H5 q5 (s6.trans s5))
end
end Sh
set_option Elab.async false
set_option linter.all false
set_option maxRecDepth 100000
/-! ShQ: locked comprehensions, dict comprehensions, sorted, join, and other rules by D's. -/
namespace Sh
open PySem L2
section
variable {b : Bx} {ρ : Ro} {ta tb tc te tx tl tk tv : TE} {t u tt : TT} {x y z d e : D} {ds es zs : List D} {K : PySem.W.Frag} {g g1 : TG} {vs vs1 : List Nat} {wi wi1 : TI}
theorem Lk.lock {b : Bx} {G H : Hp} {a : Addr} {o : HO} {od : Obj} (l : Lk b G H) (hG : G a = some o) (hu : isDic o = true) : Lk b.lk (upd G a (.frz od o)) (upd H a (.frz od o)) := by
  have t := Tr.lock (o := od) hG hu
  refine ⟨(fun z => by cases z), fun x hx => ?_⟩
  have r := l.rt x hx
  have ne : x.1 ≠ a := fun z => by
    have := r.gp
    rw [z, hG] at this
    cases this
  exact ⟨by rw [upd_ne ne]; exact r.gp, M.st_at (M.st_tr r.at' t) (fun z => ne z.symm)⟩
/-- [f for x in d if c], d locked meanwhile -/
theorem evn_lcL {α : Type} {xs : List α} {enc : α → D} {c : α → Bool} {f : α → D} (hs : SrcL b wi ρ (xs.map enc)) (hn : xs.length ≤ 1000) (turn : ∀ x ∈ xs, LcT b.lk g tt te vs ρ (enc x) (c x) (f x)) :
    EvN b (tLockE (tLc wi g tt te vs)) ρ ((xs.filter c).map f) := fun σ G H l E s Q q => by
  obtain ⟨a, u, hG, hu, mu, h⟩ := hs σ G H l E s
  refine ⟨a, u, s _ _ hG, mu, fun od => h od _ fun J S => fun Dl hD => ?_⟩
  refine lc_run S (l.lock hG hu) (E.tr (Tr.lock hG hu)) (same_upd2 s) hD hn turn fun H2 G2 ys g2 gD hD2 r2 => ?_
  obtain ⟨e1, e2, g3⟩ := Gr.unlock hG (s _ _ hG) hu g2
  have ne : Dl ≠ a := fun z => by rw [z, upd_same] at hD; cases hD
  refine ⟨e2, q Dl ys _ _ g3 (by rw [upd_ne ne] at hD; exact hD) (by rw [upd_ne ne]; exact hD2) (by rw [upd_ne ne]; exact gD) (r2.tr (Tr.unlock e1 hu))⟩
theorem evn_lcLY {α : Type} {xs : List α} {enc : α → D} {f : α → D} (hs : SrcL b wi ρ (xs.map enc)) (hn : xs.length ≤ 1000) (turn : ∀ x ∈ xs, LcT b.lk g tYes te vs ρ (enc x) true (f x)) :
    EvN b (tLockE (tLc wi g tYes te vs)) ρ (xs.map f) := by
  have h := evn_lcL (c := fun _ => true) hs hn turn
  rw [List.filter_eq_self.mpr (fun _ _ => rfl)] at h
  exact h
/-! ### dict comprehensions -/
/-- what the fold of putD gives -/
def mkD {κ : Type} [DecidableEq κ] (xs : List (κ × D)) : List (κ × D) := xs.foldl (fun acc x => putD acc x.1 x.2) []
theorem mkD_len {κ : Type} [DecidableEq κ] : ∀ (xs acc : List (κ × D)), (xs.foldl (fun acc x => putD acc x.1 x.2) acc).length ≤ acc.length + xs.length
  | [], acc => Nat.le_refl _
  | x :: xs, acc => by
    have h1 := mkD_len xs (putD acc x.1 x.2)
    have h2 := length_putD acc x.1 x.2
    simp only [List.foldl_cons, List.length_cons]
    omega
theorem mkD_nodup {κ : Type} [DecidableEq κ] : ∀ (xs acc : List (κ × D)), ((acc ++ xs).map (·.1)).Nodup → xs.foldl (fun acc x => putD acc x.1 x.2) acc = acc ++ xs
  | [], acc, _ => by simp
  | x :: xs, acc, h => by
    have hp : putD acc x.1 x.2 = acc ++ [x] := by
      unfold putD
      rw [if_neg]
      intro hc
      obtain ⟨y, hy, e⟩ := List.any_eq_true.mp hc
      rw [List.map_append, List.nodup_append] at h
      exact h.2.2 y.1 (List.mem_map.mpr ⟨y, hy, rfl⟩) x.1 (by simp) (by simpa using e)
    simp only [List.foldl_cons]
    rw [hp, mkD_nodup xs (acc ++ [x]) (by simpa using h)]
    simp
theorem mkD_eq {κ : Type} [DecidableEq κ] {xs : List (κ × D)} (h : (xs.map (·.1)).Nodup) : mkD xs = xs := by
  have := mkD_nodup xs [] (by simpa using h)
  simpa [mkD] using this
/-- one turn: a key and a value -/
structure DcT (b : Bx) (g : TG) (tk tv : TE) (vs : List Nat) (ρ : Ro) (d : D) (kd vd : D) : Prop where
  ex : ∃ ρ', TgT g vs (wipeD ρ vs) d ρ' ∧ Ev b tk ρ' kd ∧ Ev b tv ρ' vd
theorem dct {ρ' : Ro} {kd vd : D} (hg : TgT g vs (wipeD ρ vs) d ρ') (hk : Ev b tk ρ' kd) (hv : Ev b tv ρ' vd) : DcT b g tk tv vs ρ d kd vd := ⟨ρ', hg, hk, hv⟩
theorem DcT.run {kd vd : D} (L : DcT b g tk tv vs ρ d kd vd) {σ : L2.St} {G H : Hp} {v : V} (l : Lk b G H) (E : Env G σ ρ) (s : Same G H) (r : Rep G d v) {Q2 : V → V → Hp → Prop}
    (q : ∀ y z H' G', Gr H G H' G' → Rep G' kd y → Rep G' vd z → Q2 y z H') :
    g v (wipe σ vs) H fun σ2 H2 => wipe σ2 vs = wipe σ vs ∧ tYes σ2 H2 fun bb H3 => if bb = true then tk σ2 H3 fun y H4 => tv σ2 H4 fun z H5 => Q2 y z H5 else False := by
  obtain ⟨ρ', hg, hk, hv⟩ := L.ex
  refine hg (wipe σ vs) G H v (E.wipe vs) s r _ fun σ2 E2 e2 l2 => ⟨wipe_eq (fun i hi => by rw [e2 i hi, wipe_out' hi]) (by rw [l2, wipe_length]), ?_⟩
  show (if true = true then _ else False)
  rw [if_pos rfl]
  exact hk σ2 G H l E2 s _ fun y H4 G4 g4 r4 => hv σ2 G4 H4 (l.gr g4) (E2.mono g4.gx) g4.sub _ fun z H5 G5 g5 r5 => q y z H5 G5 (g4.trans g5) (r4.mono g5.gx) r5
theorem dc_runK {α : Type} {J : It} {G H : Hp} {Dl : Addr} {σ : L2.St} {xs : List α} {enc : α → D} {k : α → Key} {f : α → D} {Qd : Hp → Prop} (S : SrcOk J G (xs.map enc)) (l : Lk b G H) (E : Env G σ ρ) (s : Same G H) (hD : H Dl = none)
    (hn : xs.length ≤ 1000) (turn : ∀ x ∈ xs, DcT b g tk tv vs ρ (enc x) (kD (k x)) (f x))
    (q : ∀ H' G' ys, Gr H G H' G' → G' Dl = none → H' Dl = some (.dK ys) → RepD G' (mkD (xs.map fun x => (k x, f x))) ys → Qd H') :
    ∃ W : Nat → Nat → Hp → Prop, (∃ m, W 0 m (upd H Dl (.dK []))) ∧ ∀ i m H, W i m H →
      (J.stop i H ∧ Qd H) ∨ (J.go i H ∧ ∃ Nx : Hp → Prop, (∀ H', Nx H' → ∃ m', m' < m ∧ W (i + 1) m' H') ∧ ∀ x H', J.yld i H x H' → g x (wipe σ vs) H' fun σ2 H2 => wipe σ2 vs = wipe σ vs ∧ tYes σ2 H2 fun b H3 =>
        if b = true then tk σ2 H3 fun y H4 => tv σ2 H4 fun z H5 => ∃ kvs k, y = kV k ∧ H5 Dl = some (.dK kvs) ∧ kvs.length < sizeLine ∧ Nx (upd H5 Dl (.dK (putK kvs k z))) else Nx H3) := by
  let Pv : Nat → Hp → Prop := fun i H' => ∃ G' ys, Gr H G H' G' ∧ G' Dl = none ∧ H' Dl = some (.dK ys) ∧ RepD G' (mkD ((xs.take i).map fun x => (k x, f x))) ys
  refine ⟨fun i m H' => m = xs.length - i ∧ i ≤ xs.length ∧ Pv i H', ⟨xs.length, by simp, Nat.zero_le _, G, [], .own s hD, s.free hD, upd_same, .nil⟩, ?_⟩
  rintro i m H1 ⟨rfl, hi, G1, ys, g1, gD, hD1, r1⟩
  by_cases hlt : i < xs.length
  · refine .inr ⟨S.go i G1 H1 g1.gx g1.sub (by simpa using hlt), Pv (i + 1), fun H' p => ⟨xs.length - (i + 1), by omega, rfl, hlt, p⟩, fun v H2 y => ?_⟩
    obtain ⟨G2, d, g2, e2, r2⟩ := S.yld i G1 H1 v H2 g1.gx g1.sub (by simpa using hlt) y
    have hx : xs[i]? = some xs[i] := List.getElem?_eq_getElem hlt
    rw [List.getElem?_map, hx] at e2
    cases e2
    have ht : xs.take (i + 1) = xs.take i ++ [xs[i]] := by rw [List.take_add_one, hx]; rfl
    have gD2 : G2 Dl = none := g2.out hD1 (by intro xs z; cases z) gD
    have hD2 : H2 Dl = some (.dK ys) := g2.ex _ _ hD1
    have hlen : ys.length ≤ i := by
      rw [← r1.len]
      refine Nat.le_trans (mkD_len _ []) ?_
      simp
      omega
    have key := (turn xs[i] (List.getElem_mem hlt)).run ((l.gr g1).gr g2) ((E.mono g1.gx).mono g2.gx) g2.sub r2 (Q2 := fun y z H5 => ∃ kvs k, y = kV k ∧ H5 Dl = some (.dK kvs) ∧ kvs.length < sizeLine ∧ Pv (i + 1) (upd H5 Dl (.dK (putK kvs k z)))) fun y z H3 G3 g3 ry rz => by
      have gD3 : G3 Dl = none := g3.out hD2 (by intro xs z; cases z) gD2
      refine ⟨ys, k xs[i], rep_kD ry, g3.ex _ _ hD2, Nat.lt_of_le_of_lt hlen (small1000 (by omega)), G3, _, ((g1.trans g2).trans g3).mut hD gD3, gD3, upd_same, ?_⟩
      rw [ht, List.map_append]
      show RepD G3 (List.foldl _ [] _) _
      rw [List.foldl_append]
      exact ((r1.mono g2.gx).mono g3.gx).put _ rz
    exact key
  · have ei : i = xs.length := by omega
    subst ei
    refine .inl ⟨by have := S.stop G1 H1 g1.gx g1.sub; simpa using this, q H1 G1 ys g1 gD hD1 ?_⟩
    rw [List.take_length] at r1
    exact r1
theorem dc_runT {α : Type} {J : It} {G H : Hp} {Dl : Addr} {σ : L2.St} {xs : List α} {enc : α → D} {k : α → Pr} {f : α → D} {Qd : Hp → Prop} (S : SrcOk J G (xs.map enc)) (l : Lk b G H) (E : Env G σ ρ) (s : Same G H) (hD : H Dl = none)
    (hn : xs.length ≤ 1000) (turn : ∀ x ∈ xs, DcT b g tk tv vs ρ (enc x) (pD (k x)) (f x))
    (q : ∀ H' G' ys, Gr H G H' G' → G' Dl = none → H' Dl = some (.dT ys) → RepD G' (mkD (xs.map fun x => (pK (k x), f x))) ys → Qd H') :
    ∃ W : Nat → Nat → Hp → Prop, (∃ m, W 0 m (upd H Dl (.dT []))) ∧ ∀ i m H, W i m H →
      (J.stop i H ∧ Qd H) ∨ (J.go i H ∧ ∃ Nx : Hp → Prop, (∀ H', Nx H' → ∃ m', m' < m ∧ W (i + 1) m' H') ∧ ∀ x H', J.yld i H x H' → g x (wipe σ vs) H' fun σ2 H2 => wipe σ2 vs = wipe σ vs ∧ tYes σ2 H2 fun b H3 =>
        if b = true then tk σ2 H3 fun y H4 => tv σ2 H4 fun z H5 => ∃ (kvs : List (List Key × V)) (k : List Key) (c : Addr), y = .ref c ∧ H5 c = some (.tup (k.map kV)) ∧ H5 Dl = some (.dT kvs) ∧ kvs.length < sizeLine ∧ Nx (upd H5 Dl (.dT (putK kvs k z))) else Nx H3) := by
  let Pv : Nat → Hp → Prop := fun i H' => ∃ G' ys, Gr H G H' G' ∧ G' Dl = none ∧ H' Dl = some (.dT ys) ∧ RepD G' (mkD ((xs.take i).map fun x => (pK (k x), f x))) ys
  refine ⟨fun i m H' => m = xs.length - i ∧ i ≤ xs.length ∧ Pv i H', ⟨xs.length, by simp, Nat.zero_le _, G, [], .own s hD, s.free hD, upd_same, .nil⟩, ?_⟩
  rintro i m H1 ⟨rfl, hi, G1, ys, g1, gD, hD1, r1⟩
  by_cases hlt : i < xs.length
  · refine .inr ⟨S.go i G1 H1 g1.gx g1.sub (by simpa using hlt), Pv (i + 1), fun H' p => ⟨xs.length - (i + 1), by omega, rfl, hlt, p⟩, fun v H2 y => ?_⟩
    obtain ⟨G2, d, g2, e2, r2⟩ := S.yld i G1 H1 v H2 g1.gx g1.sub (by simpa using hlt) y
    have hx : xs[i]? = some xs[i] := List.getElem?_eq_getElem hlt
    rw [List.getElem?_map, hx] at e2
    cases e2
    have ht : xs.take (i + 1) = xs.take i ++ [xs[i]] := by rw [List.take_add_one, hx]; rfl
    have gD2 : G2 Dl = none := g2.out hD1 (by intro xs z; cases z) gD
    have hD2 : H2 Dl = some (.dT ys) := g2.ex _ _ hD1
    have hlen : ys.length ≤ i := by
      rw [← r1.len]
      refine Nat.le_trans (mkD_len _ []) ?_
      simp
      omega
    have key := (turn xs[i] (List.getElem_mem hlt)).run ((l.gr g1).gr g2) ((E.mono g1.gx).mono g2.gx) g2.sub r2 (Q2 := fun y z H5 => ∃ (kvs : List (List Key × V)) (k : List Key) (c : Addr), y = .ref c ∧ H5 c = some (.tup (k.map kV)) ∧ H5 Dl = some (.dT kvs) ∧ kvs.length < sizeLine ∧ Pv (i + 1) (upd H5 Dl (.dT (putK kvs k z)))) fun y z H3 G3 g3 ry rz => by
      have gD3 : G3 Dl = none := g3.out hD2 (by intro xs z; cases z) gD2
      obtain ⟨c, rfl, hc⟩ := rep_pD ry
      refine ⟨ys, pK (k xs[i]), c, rfl, g3.sub _ _ hc, g3.ex _ _ hD2, Nat.lt_of_le_of_lt hlen (small1000 (by omega)), G3, _, ((g1.trans g2).trans g3).mut hD gD3, gD3, upd_same, ?_⟩
      rw [ht, List.map_append]
      show RepD G3 (List.foldl _ [] _) _
      rw [List.foldl_append]
      exact ((r1.mono g2.gx).mono g3.gx).put _ rz
    exact key
  · have ei : i = xs.length := by omega
    subst ei
    refine .inl ⟨by have := S.stop G1 H1 g1.gx g1.sub; simpa using this, q H1 G1 ys g1 gD hD1 ?_⟩
    rw [List.take_length] at r1
    exact r1
/-- {k: f for x in xs}, frozen at once -/
theorem ev_dcK {α : Type} {xs : List α} {enc : α → D} {k : α → Key} {f : α → D} (hs : Src b wi ρ (xs.map enc)) (hn : xs.length ≤ 1000) (turn : ∀ x ∈ xs, DcT b g tk tv vs ρ (enc x) (kD (k x)) (f x)) :
    Ev b (tDc wi g tYes tk tv vs) ρ (.dK (mkD (xs.map fun x => (k x, f x)))) := fun σ G H l E s Q q =>
  hs σ G H l E s _ fun J H1 G1 g1 S => fun Dl hD => dc_runK S (l.gr g1) (E.mono g1.gx) g1.sub hD hn turn fun H2 G2 ys g2 gD hD2 r2 =>
    q (.ref Dl) H2 (upd G2 Dl (.dK ys)) (g1.trans (g2.freeze hD hD2 gD)) ⟨Dl, ys, rfl, .inl upd_same, repK_iff.mpr (r2.mono (same_upd gD))⟩
theorem ev_dcT {α : Type} {xs : List α} {enc : α → D} {k : α → Pr} {f : α → D} (hs : Src b wi ρ (xs.map enc)) (hn : xs.length ≤ 1000) (turn : ∀ x ∈ xs, DcT b g tk tv vs ρ (enc x) (pD (k x)) (f x)) :
    Ev b (tDcT wi g tYes tk tv vs) ρ (.dT (mkD (xs.map fun x => (pK (k x), f x)))) := fun σ G H l E s Q q =>
  hs σ G H l E s _ fun J H1 G1 g1 S => fun Dl hD => dc_runT S (l.gr g1) (E.mono g1.gx) g1.sub hD hn turn fun H2 G2 ys g2 gD hD2 r2 =>
    q (.ref Dl) H2 (upd G2 Dl (.dT ys)) (g1.trans (g2.freeze hD hD2 gD)) ⟨Dl, ys, rfl, .inl upd_same, repT_iff.mpr (r2.mono (same_upd gD))⟩
/-- .. over a locked dict -/
theorem ev_dcKL {α : Type} {xs : List α} {enc : α → D} {k : α → Key} {f : α → D} (hs : SrcL b wi ρ (xs.map enc)) (hn : xs.length ≤ 1000) (turn : ∀ x ∈ xs, DcT b.lk g tk tv vs ρ (enc x) (kD (k x)) (f x)) :
    Ev b (tLockE (tDc wi g tYes tk tv vs)) ρ (.dK (mkD (xs.map fun x => (k x, f x)))) := fun σ G H l E s Q q => by
  obtain ⟨a, u, hG, hu, mu, h⟩ := hs σ G H l E s
  refine ⟨a, u, s _ _ hG, mu, fun od => h od _ fun J S => fun Dl hD => ?_⟩
  refine dc_runK S (l.lock hG hu) (E.tr (Tr.lock hG hu)) (same_upd2 s) hD hn turn fun H2 G2 ys g2 gD hD2 r2 => ?_
  obtain ⟨e1, e2, g3⟩ := Gr.unlock hG (s _ _ hG) hu g2
  have ne : Dl ≠ a := fun z => by rw [z, upd_same] at hD; cases hD
  have gD3 : upd G2 a u Dl = none := by rw [upd_ne ne]; exact gD
  have hD3 : upd H2 a u Dl = some (.dK ys) := by rw [upd_ne ne]; exact hD2
  have hD0 : H Dl = none := by rw [upd_ne ne] at hD; exact hD
  exact ⟨e2, q (.ref Dl) _ (upd (upd G2 a u) Dl (.dK ys)) (g3.freeze hD0 hD3 gD3) ⟨Dl, ys, rfl, .inl upd_same, repK_iff.mpr ((RepD.tr' (Tr.unlock e1 hu) r2).mono (same_upd gD3))⟩⟩
end
end Sh
set_option Elab.async false
set_option linter.all false
set_option maxRecDepth 100000
/-! ShU: calls of defs that change what they are handed; makers; bodies. -/
namespace Sh
open PySem L2
/-- Pre: of the arguments and what may change; Post: also of what comes back and what may change behind -/
def MutSp (lk : Bool) (n : Nat) (Pre : List D → List (Addr × M) → Prop) (Post : List D → List (Addr × M) → D → List (Addr × M) → Prop) : Sp := fun vs H Q _ => vs.length = n ∧ ∃ G ds ms, Lk ⟨lk, ms⟩ G H ∧ Same G H ∧ Reps G ds vs ∧ Pre ds ms ∧
  ∀ d ms' v H' G', Post ds ms d ms' → ms'.map (·.1) = ms.map (·.1) → Gr (minus H (ms.map (·.1))) G H' G' → Rep G' d v → (∀ x ∈ ms', Root G' H' x.1 x.2) → Q v H'
section
variable {B : Bs} {b : Bx} {ρ : Ro} {te to : TE} {ta : TA} {d : D} {ds : List D} {P : Po} {lk : Bool} {n : Nat} {Pre : List D → List (Addr × M) → Prop} {Post : List D → List (Addr × M) → D → List (Addr × M) → Prop} {σ : L2.St} {G H G' H' : Hp}
/-- what is left of the roots behind a call -/
structure Puts (b : Bx) (ms' : List (Addr × M)) (b' : Bx) : Prop where
  fl : b'.fl = b.fl
  new : ∀ x ∈ ms', x ∈ b'.rt
  old : ∀ x ∈ b.rt, x.1 ∉ ms'.map (·.1) → x ∈ b'.rt
  sub : ∀ x ∈ b'.rt, x ∈ ms' ∨ x ∈ b.rt
def Bx.puts (b : Bx) (ms' : List (Addr × M)) : Bx := ⟨b.fl, ms' ++ b.rt.filter fun x => decide (x.1 ∉ ms'.map (·.1))⟩
theorem puts_ok (b : Bx) (ms' : List (Addr × M)) : Puts b ms' (b.puts ms') :=
  ⟨rfl, fun x hx => List.mem_append_left _ hx, fun x hx h => List.mem_append_right _ (List.mem_filter.mpr ⟨hx, by simpa using h⟩), fun x hx => by
    rcases List.mem_append.mp hx with h | h
    · exact .inl h
    · exact .inr (List.mem_filter.mp h).1⟩
theorem M.st_minus {p : Addr} {m : M} {ps : List Addr} (r : m.st G H p) (h : p ∉ ps) : m.st G (minus H ps) p := by
  have e := minus_out (H := H) h
  cases m with
  | lst ds => obtain ⟨xs, h1, h2⟩ := r; exact ⟨xs, e.trans h1, h2⟩
  | dK ds => obtain ⟨xs, h1, h2⟩ := r; exact ⟨xs, e.trans h1, h2⟩
  | dT ds => obtain ⟨xs, h1, h2⟩ := r; exact ⟨xs, e.trans h1, h2⟩
  | ins C ds => obtain ⟨dx, xs, h1, h2⟩ := r; exact ⟨dx, xs, e.trans h1, h2⟩
/-- behind the call -/
theorem Ok.back {ms ms' : List (Addr × M)} (o : Ok B b σ ρ G H) (hm : ∀ x ∈ ms, x ∈ b.rt) (ek : ms'.map (·.1) = ms.map (·.1)) (g : Gr (minus H (ms.map (·.1))) G H' G') (hr : ∀ x ∈ ms', Root G' H' x.1 x.2) : Ok B (b.puts ms') σ ρ G' H' := by
  have hn : ∀ p ∈ ms.map (·.1), B.H0 p = none := fun p hp => by
    obtain ⟨x, hx, rfl⟩ := List.mem_map.mp hp
    exact o.new x (hm x hx)
  refine ⟨o.gr.past hn g, ⟨fun hb a ob u e => o.lk.fl hb a ob u (g.lk a ob u e), fun x hx => ?_⟩, o.env.mono g.gx, fun x hx => ?_⟩
  · rcases List.mem_append.mp hx with h | h
    · exact hr x h
    · obtain ⟨h1, h2⟩ := List.mem_filter.mp h
      have h3 : x.1 ∉ ms.map (·.1) := by rw [← ek]; simpa using h2
      have r := o.lk.rt x h1
      exact (Root.mk r.gp (M.st_minus r.at' h3)).gr g
  · rcases List.mem_append.mp hx with h | h
    · exact hn x.1 (by rw [← ek]; exact List.mem_map.mpr ⟨x, h, rfl⟩)
    · exact o.new x (List.mem_filter.mp h).1
theorem ex_call {P1 : Bx → List D → Prop} {E0 : XK} (ha : EvXA B ta b ρ P1) (q : ∀ b' ds, P1 b' ds → ds.length = n ∧ ∃ ms, (∀ x ∈ ms, x ∈ b'.rt) ∧ Pre ds ms ∧ (lk = true → b'.fl = true) ∧ ∀ d ms' b'', Post ds ms d ms' → ms'.map (·.1) = ms.map (·.1) → Puts b' ms' b'' → P b'' d) :
    EvX B (tCall (MutSp lk n Pre Post) [] E0 ta) b ρ P := fun σ G H o Q k =>
  ha σ G H o _ fun b1 ds vs G1 H1 p1 s1 o1 r1 => by
    obtain ⟨hn, ms, hm, hp, hl, q⟩ := q b1 ds p1
    refine ⟨by rw [List.append_nil, ← r1.length, hn], G1, ds, ms, o1.lk.less hl hm, o1.sub, by rw [List.append_nil]; exact r1, hp, fun d ms' v H2 G2 hR ek g2 r2 hr => ?_⟩
    exact k _ d v G2 H2 (q d ms' _ hR ek (puts_ok b1 ms')) (s1.trans g2.gx) (o1.back hm ek g2 hr) r2
theorem ex_meth {P1 : Bx → List D → Prop} {E0 : XK} {C : Addr} {fs : List (Str × D)} {m : Str} (ho : Ev b to ρ (.ins C fs)) (hm : fs.lookup m = none) (ha : EvXA B ta b ρ P1)
    (q : ∀ b' ds, P1 b' ds → ds.length + 1 = n ∧ ∃ ms, (∀ x ∈ ms, x ∈ b'.rt) ∧ Pre (.ins C fs :: ds) ms ∧ (lk = true → b'.fl = true) ∧ ∀ d ms' b'', Post (.ins C fs :: ds) ms d ms' → ms'.map (·.1) = ms.map (·.1) → Puts b' ms' b'' → P b'' d) :
    EvX B (tMeth C m (MutSp lk n Pre Post) [] E0 to ta) b ρ P := fun σ G H o Q k =>
  ho σ G H o.lk o.env o.sub _ fun v H0 G0 g0 r0 => by
    have o0 := o.go g0
    obtain ⟨a, dx, xs, rfl, h2, h3⟩ := id r0
    refine ⟨a, dx, xs, rfl, o0.sub _ _ h2, (repF_iff.mp h3).lookup_none hm, ?_⟩
    refine ha σ G0 H0 o0 _ fun b1 ds vs G1 H1 p1 s1 o1 r1 => ?_
    obtain ⟨hn, ms, hms, hp, hl, q⟩ := q b1 ds p1
    refine ⟨by rw [List.append_nil, List.length_cons, ← r1.length, hn], G1, .ins C fs :: ds, ms, o1.lk.less hl hms, o1.sub, ⟨_, _, rfl, r0.mono s1, by rw [List.append_nil]; exact r1⟩, hp, fun d ms' v H2 G2 hR ek g2 r2 hr => ?_⟩
    exact k _ d v G2 H2 (q d ms' _ hR ek (puts_ok b1 ms')) ((g0.gx.trans s1).trans g2.gx) (o1.back hms ek g2 hr) r2
/-- pure defs whose arguments have effects -/
theorem ex_callP {R : List D → D → Prop} {P1 : Bx → List D → Prop} {E0 : XK} (ha : EvXA B ta b ρ P1) (q : ∀ b' ds, P1 b' ds → ds.length = n ∧ ∃ d, R ds d ∧ (lk = true → b'.fl = true) ∧ P b' d) : EvX B (tCall (PureSp lk n R) [] E0 ta) b ρ P := fun σ G H o Q k =>
  ha σ G H o _ fun b1 ds vs G1 H1 p1 s1 o1 r1 => by
    obtain ⟨hn, d, hR, hl, q⟩ := q b1 ds p1
    exact ⟨by rw [List.append_nil, ← r1.length, hn], G1, ds, d, o1.lk.less hl (fun _ z => nomatch z), o1.sub, by rw [List.append_nil]; exact r1, hR, fun v H2 G2 g2 r2 => k b1 d v G2 H2 q (s1.trans g2.gx) (o1.go g2) r2⟩
/-- C(..), the instance frozen when it is made -/
theorem ev_make {E0 : XK} {C : Addr} {fs : List (Str × D)} (ha : EvA b ta ρ ds) (hn : ds.length + 1 = n) (hl : lk = true → b.fl = true) (hR : ∀ x, Pre (.ref x :: ds) [(x, .ins C [])]) (hP : ∀ x d ms', Post (.ref x :: ds) [(x, .ins C [])] d ms' → ms'.map (·.1) = [x] → d = .non ∧ ms' = [(x, .ins C fs)]) :
    Ev b (tMake C (MutSp lk n Pre Post) [] E0 ta) ρ (.ins C fs) := fun σ G H l E s Q q =>
  ha σ G H l E s _ fun vs H1 G1 g1 r1 x dx hx hdx ne => by
    have l1 := l.gr g1
    have gx : G1 x = none := g1.sub.free hx
    have gdx : G1 dx = none := g1.sub.free hdx
    have hat : upd (upd H1 dx (.own x)) x (.ins C dx []) x = some (.ins C dx []) := upd_same
    have sub : Same G1 (upd (upd H1 dx (.own x)) x (.ins C dx [])) := fun a o e => by
      rw [upd_ne (ne_of_none e gx), upd_ne (ne_of_none e gdx)]
      exact g1.sub a o e
    refine ⟨by rw [List.append_nil, List.length_cons, ← r1.length, hn], G1, .ref x :: ds, [(x, .ins C [])], ⟨fun h => l1.fl (hl h), fun y hy => ?_⟩, sub, ⟨_, _, rfl, rfl, by rw [List.append_nil]; exact r1⟩, hR x, fun d ms' v H2 G2 hPo ek g2 r2 hr => ?_⟩
    · cases List.mem_singleton.mp hy
      exact ⟨gx, dx, [], hat, .nil⟩
    · obtain ⟨rfl, rfl⟩ := hP x d ms' hPo ek
      refine ⟨r2, ?_⟩
      have rt := hr _ (List.mem_singleton.mpr rfl)
      obtain ⟨dx', xs, e1, e2⟩ := rt.at'
      have g3 : Gr H1 G1 (minus (upd (upd H1 dx (.own x)) x (.ins C dx [])) [x]) G1 := by
        refine Gr.of g1.sub fun a o e => ?_
        have na : a ≠ x := ne_of_none e hx
        rw [minus_out (by simpa using na), upd_ne na, upd_ne (ne_of_none e hdx)]
        exact e
      have g4 := g3.trans g2
      exact q (.ref x) H2 (upd G2 x (.ins C dx' xs)) (g1.trans (g4.freeze hx e1 rt.gp)) ⟨x, dx', xs, rfl, upd_same, repF_iff.mpr (e2.mono (same_upd rt.gp))⟩
end
/-! ### bodies -/
def ro0 (N : List Str) (ds : List D) : Ro := ds.map some ++ List.replicate (N.length - ds.length) none
/-- what a body is to reach -/
def PoM (Post : D → List (Addr × M) → Prop) (ms : List (Addr × M)) : Po4 := ⟨fun b ρ => ∃ ms', Post .non ms' ∧ ms'.map (·.1) = ms.map (·.1) ∧ ∀ x ∈ ms', x ∈ b.rt, fun b d => ∃ ms', Post d ms' ∧ ms'.map (·.1) = ms.map (·.1) ∧ ∀ x ∈ ms', x ∈ b.rt, fun _ _ => False, fun _ _ => False⟩
theorem body_okM {lk : Bool} {n : Nat} {Pre : List D → List (Addr × M) → Prop} {Post : List D → List (Addr × M) → D → List (Addr × M) → Prop} {N : List Str} {vs : List V} {H : Hp} {Q : VK} {E : XK} {t : TS} (h : MutSp lk n Pre Post vs H Q E)
    (k : ∀ ds ms, ds.length = n → Pre ds ms → ∀ B, Stm B t ⟨lk, ms⟩ (ro0 N ds) (PoM (Post ds ms) ms)) :
    t { nx := fun _ H' => Q .non H', rt := Q } (start N vs) H := by
  obtain ⟨hn, G, ds, ms, l, s, r, hp, q⟩ := h
  have sub : Same G (minus H (ms.map (·.1))) := fun a o e => by
    have : a ∉ ms.map (·.1) := fun z => by
      obtain ⟨x, hx, rfl⟩ := List.mem_map.mp z
      rw [(l.rt x hx).gp] at e
      cases e
    rw [minus_out this]
    exact s a o e
  have o : Ok ⟨minus H (ms.map (·.1)), G⟩ ⟨lk, ms⟩ (start N vs) (ro0 N ds) G H := ⟨⟨fun a o e => (minus_some e).2, Same.refl G, s, fun _ _ _ _ => rfl, fun _ _ _ e => e⟩, l, Env.start r, fun x hx => minus_in (List.mem_map.mpr ⟨x, hx, rfl⟩)⟩
  refine k ds ms (r.length.trans hn) hp _ _ G H _ o (fun b' ρ' σ' G' H' ⟨ms', e, ek, hm⟩ s' o' => ?_) (fun b' d' v σ' ρ' G' H' ⟨ms', e, ek, hm⟩ s' o' r' => ?_) (fun _ _ _ _ _ z => z.elim) (fun _ _ _ _ _ z => z.elim)
  · exact q .non ms' .non H' G' e ek o'.gr rfl fun x hx => o'.lk.rt x (hm x hx)
  · exact q d' ms' v H' G' e ek o'.gr r' fun x hx => o'.lk.rt x (hm x hx)
theorem body_okP {lk : Bool} {n : Nat} {R : List D → D → Prop} {N : List Str} {vs : List V} {H : Hp} {Q : VK} {E : XK} {t : TS} (h : PureSp lk n R vs H Q E)
    (k : ∀ ds d, ds.length = n → R ds d → ∀ B, Stm B t ⟨lk, []⟩ (ro0 N ds) ⟨fun b ρ => d = .non, fun b d' => d' = d, fun _ _ => False, fun _ _ => False⟩) :
    t { nx := fun _ H' => Q .non H', rt := Q } (start N vs) H := by
  obtain ⟨hn, G, ds, d, l, s, r, hR, q⟩ := h
  have o : Ok ⟨H, G⟩ ⟨lk, []⟩ (start N vs) (ro0 N ds) G H := ⟨.refl s, l, Env.start r, fun x hx => nomatch hx⟩
  refine k ds d (r.length.trans hn) hR _ _ G H _ o (fun b' ρ' σ' G' H' e s' o' => ?_) (fun b' d' v σ' ρ' G' H' e s' o' r' => ?_) (fun _ _ _ _ _ z => z.elim) (fun _ _ _ _ _ z => z.elim)
  · subst e
    exact q .non H' G' o'.gr rfl
  · subst e
    exact q v H' G' o'.gr r'
end Sh
set_option Elab.async false
set_option linter.all false
set_option maxRecDepth 100000
/-! ShV: further rules by D's. -/
namespace Sh
open PySem L2
section
variable {B : Bs} {b : Bx} {ρ : Ro} {ta tb tc te to tx tl tk tv td : TE} {tA : TA} {t u tt tt1 : TT} {x y z d e : D} {ds es zs : List D} {K : PySem.W.Frag} {g g1 : TG} {vs vs1 : List Nat} {wi wi1 : TI} {X : Cx} {P : Po} {p : Addr}
/-! ### indices of any sequence -/
theorem rd_ixQL {i : Int} (e : atI ds i = some d) : RD b (rIx K) (.lst ds) (.int i) d := fun G H u v l s r1 r2 Q q => .inl (rd_ixL e G H u v l s r1 r2 Q q)
theorem rd_ixQS {z : Str} {i : Int} {c : Nat} (hl : z.length ≤ sizeLine) (e : atI z.cps.toList i = some c) : RD b (rIx K) (.str z) (.int i) (.str ⟨#[c]⟩) := fun G H u v l s r1 r2 Q q => .inr (.inr (rd_ixS hl e G H u v l s r1 r2 Q q))
/-! ### sorted -/
theorem rcn_sortedS {xs zs : List Str} (h : ∀ ys : List Str, ys.Perm xs → PyProof.Rows.sortedS ys = true → ys = zs) (hl : xs.length < 64) : RCN b (rSortedS K) [.lst (xs.map .str)] (zs.map .str) := fun G H us l s r Q q => by
  obtain ⟨v, rfl, a, ws, rfl, h2, h3⟩ := r.one'
  have e := h3.strs
  subst e
  refine ⟨a, xs, rfl, SqL.of (s _ _ h2), hl, fun ys p pm hs hp => ?_⟩
  have := h ys pm hs
  subst this
  exact q p _ _ G (.own s hp) hp upd_same (s.free hp) (Reps.ofStrs ys)
theorem ex_sortedSet {ks : List Str} (ha : EvA b tA ρ [.lst (ks.map .str)]) (hl : ks.length < 64) (q : ∀ zs : List Str, PyProof.Rows.sortedS zs = true → zs.Nodup → (∀ k, k ∈ zs ↔ k ∈ ks) → zs.length ≤ ks.length → P b (.lst (zs.map .str))) :
    EvX B (tCB (rSortedSetS X) (tCons (tCB (rSetS X) tA) tNil)) b ρ P := fun σ G H o Q k =>
  ha σ G H o.lk o.env o.sub _ fun us H1 G1 g1 r1 => by
    obtain ⟨v, rfl, a, ws, rfl, h2, h3⟩ := r1.one'
    have e := h3.strs
    subst e
    refine ⟨a, ks, rfl, SqL.of (g1.sub _ _ h2), hl, fun p1 hp1 => ?_⟩
    have g2 : Gr H1 G1 (upd H1 p1 (SetSO X.prog X.w p1 ks)) G1 := .own g1.sub hp1
    refine ⟨p1, ks, rfl, upd_same, hl, fun zs p hs hn hm hle hp => ?_⟩
    have g3 : Gr _ G1 (upd (upd H1 p1 (SetSO X.prog X.w p1 ks)) p (.lst (zs.map .str))) (upd G1 p (.lst (zs.map .str))) := .new g2.sub hp
    have g4 := (g1.trans g2).trans g3
    exact k b (.lst (zs.map .str)) _ _ _ (q zs hs hn hm hle) g4.gx (o.go g4) ⟨p, _, rfl, upd_same, Reps.ofStrs zs⟩
/-- a pair of numbers -/
def qD (p : Int × Int) : D := .tup [.int p.1, .int p.2]
theorem rep_qD {G : Hp} {p : Int × Int} {v : V} (h : Rep G (qD p) v) : ∃ a, v = .ref a ∧ G a = some (.tup [.int p.1, .int p.2]) := by
  obtain ⟨a, xs, h1, h2, h3⟩ := h
  obtain ⟨v1, v2, rfl, r1, r2⟩ := h3.two'
  cases (show v1 = V.int p.1 from r1)
  cases (show v2 = V.int p.2 from r2)
  exact ⟨a, h1, h2⟩
theorem rep_qD_of {G : Hp} {p : Int × Int} {a : Addr} (h : G a = some (.tup [.int p.1, .int p.2])) : Rep G (qD p) (.ref a) := ⟨a, _, rfl, h, _, _, rfl, rfl, _, _, rfl, rfl, rfl⟩
def kOf (G : Hp) : V → Int × Int
  | .ref t => match G t with | some (.tup [.int a, .int c]) => (a, c) | _ => (0, 0)
  | _ => (0, 0)
theorem reps_q {G : Hp} : ∀ {ps : List (Int × Int)} {xs : List V}, Reps G (ps.map qD) xs → ps = xs.map (kOf G) ∧ ∀ x ∈ xs, ∃ t, x = V.ref t ∧ G t = some (.tup [.int (kOf G x).1, .int (kOf G x).2])
  | [], _, h => by cases h; exact ⟨rfl, fun x hx => nomatch hx⟩
  | p :: ps, _, h => by
    obtain ⟨v, r, rfl, h2, h3⟩ := h
    obtain ⟨a, rfl, e⟩ := rep_qD h2
    have k : kOf G (.ref a) = p := by simp only [kOf, e]
    obtain ⟨i1, i2⟩ := reps_q h3
    refine ⟨by rw [List.map_cons, k, ← i1], fun x hx => ?_⟩
    rcases List.mem_cons.mp hx with rfl | hx
    · exact ⟨a, rfl, by rw [k]; exact e⟩
    · exact i2 x hx
theorem ex_sortedPO {ps : List (Int × Int)} (ha : EvA b tA ρ [.lst (ps.map qD)]) (q : ∀ qs : List (Int × Int), qs.Perm ps → qs.Pairwise (fun x y => SrtO.lexB y x = false) → P b (.lst (qs.map qD))) : EvX B (tCB (rSortedPO K) tA) b ρ P := fun σ G H o Q k =>
  ha σ G H o.lk o.env o.sub _ fun us H1 G1 g1 r1 => by
    obtain ⟨v, rfl, a, xs, rfl, h2, h3⟩ := r1.one'
    obtain ⟨e1, e2⟩ := reps_q h3
    refine ⟨a, xs, kOf G1, rfl, SqL.of (g1.sub _ _ h2), fun x hx => let ⟨t, a1, a2⟩ := e2 x hx; ⟨t, a1, g1.sub _ _ a2⟩, fun ys p hs hst hp => ?_⟩
    have hy : ∀ y ∈ ys, ∃ t, y = V.ref t ∧ G1 t = some (.tup [.int (kOf G1 y).1, .int (kOf G1 y).2]) := fun y hy => e2 y (hst.perm.mem_iff.mp hy)
    have rp : ∀ zs : List V, (∀ y ∈ zs, ∃ t, y = V.ref t ∧ G1 t = some (.tup [.int (kOf G1 y).1, .int (kOf G1 y).2])) → Reps G1 ((zs.map (kOf G1)).map qD) zs := by
      intro zs
      induction zs with
      | nil => intro _; rfl
      | cons z zs ih =>
        intro h
        obtain ⟨t, rfl, e⟩ := h z List.mem_cons_self
        exact ⟨_, _, rfl, rep_qD_of e, ih fun y hy => h y (List.mem_cons_of_mem _ hy)⟩
    have gp := g1.sub.free hp
    have g2 : Gr H1 G1 (upd H1 p (.lst ys)) (upd G1 p (.lst ys)) := .new g1.sub hp
    refine k b (.lst ((ys.map (kOf G1)).map qD)) _ _ _ (q _ ?_ ?_) (g1.gx.trans g2.gx) (o.go (g1.trans g2)) ⟨p, ys, rfl, upd_same, (rp ys hy).mono g2.gx⟩
    · rw [e1]; exact hst.perm.map _
    · rw [List.pairwise_map]; exact hs
/-! ### join, repetition -/
theorem ev_join {a : Str} {ys : List Str} (ho : Ev b to ρ (.str a)) (he : Ev b te ρ (.lst (ys.map .str))) (hl : (ys.map (·.length)).sum + ys.length * a.length ≤ 16777216) :
    Ev b (tM1 (fun x xs H Q => ∃ a p, ∃ ys : List Str, x = .str a ∧ xs = [.ref p] ∧ (SqL K H p (ys.map V.str) ∨ SqT K H p (ys.map V.str)) ∧ (ys.map (·.length)).sum + ys.length * a.length ≤ 16777216 ∧ Q (.str (Txt.join a ys)) H) to te) ρ (.str (Txt.join a ys)) := fun σ G H l E s Q q =>
  ho σ G H l E s _ fun v H1 G1 g1 r1 => by
    cases (show v = V.str a from r1)
    refine ⟨⟨a, rfl⟩, he σ G1 H1 (l.gr g1) (E.mono g1.gx) g1.sub _ fun w H2 G2 g2 r2 => ?_⟩
    obtain ⟨p, xs, rfl, h2, h3⟩ := r2
    have e := h3.strs
    subst e
    exact ⟨a, p, ys, rfl, rfl, .inl (SqL.of (g2.sub _ _ h2)), hl, q _ H2 G2 (g1.trans g2) rfl⟩
theorem rn_rep {n : Nat} (hl : ds.length * n ≤ 1000) (hn : n ≤ 1000) : RN b rRep (.lst ds) (.int (n : Nat)) (List.replicate n ds).flatten := fun G H u v l s r1 r2 Q q => by
  obtain ⟨a, xs, rfl, h2, h3⟩ := r1
  have rp : ∀ n, Reps G (List.replicate n ds).flatten (List.replicate n xs).flatten := by
    intro n
    induction n with
    | zero => rfl
    | succ n ih =>
      rw [List.replicate_succ, List.replicate_succ, List.flatten_cons, List.flatten_cons]
      exact h3.append ih
  refine ⟨a, (n : Nat), xs, rfl, r2, s _ _ h2, by omega, by omega, ?_, fun p hp => ?_⟩
  · rw [Int.toNat_natCast, ← h3.length]
    exact Nat.le_of_lt (small1000 hl)
  · rw [Int.toNat_natCast]
    exact q p _ _ G (.own s hp) hp upd_same (s.free hp) (rp n)
/-! ### dict(pairs), list(values) -/
def prsT (xs : List (Pr × D)) : List D := xs.map fun x => .tup [pD x.1, x.2]
theorem reps_prsT {G H : Hp} (s : Same G H) : ∀ {xs : List (Pr × D)} {vs : List V}, Reps G (prsT xs) vs → ∃ (ps : List Addr) (kvs : List (List Key × V)), vs = ps.map V.ref ∧ Paired (PrT K H) ps kvs ∧ RepD G (xs.map fun x => (pK x.1, x.2)) kvs
  | [], _, h => by cases h; exact ⟨[], [], rfl, .nil, .nil⟩
  | x :: xs, _, h => by
    obtain ⟨v, r, rfl, h2, h3⟩ := h
    obtain ⟨a, ws, rfl, h4, h5⟩ := h2
    obtain ⟨v1, v2, rfl, r1, r2⟩ := h5.two'
    obtain ⟨c, rfl, h6⟩ := rep_pD r1
    obtain ⟨ps, kvs, rfl, hp, hr⟩ := reps_prsT s h3
    exact ⟨a :: ps, (pK x.1, v2) :: kvs, rfl, .cons ⟨c, SqT.of (s _ _ h4), s _ _ h6⟩ hp, .cons r2 hr⟩
theorem RepD.merge {κ : Type} [DecidableEq κ] {G : Hp} {es : List (κ × D)} {ys : List (κ × V)} (r : RepD G es ys) : ∀ {ds : List (κ × D)} {xs : List (κ × V)}, RepD G ds xs → RepD G (es.foldl (fun acc x => putD acc x.1 x.2) ds) (ys.foldl (fun acc x => putK acc x.1 x.2) xs) := by
  induction r with
  | nil => exact fun h => h
  | @cons k d v ds vs r _ ih => exact fun h => ih (h.put k r)
theorem rc_dictPT {xs : List (Pr × D)} : RC b (rDictPT K) [.lst (prsT xs)] (.dT (mkD (xs.map fun x => (pK x.1, x.2)))) := fun G H us l s r Q q => by
  obtain ⟨v, rfl, a, ws, rfl, h2, h3⟩ := r.one'
  obtain ⟨ps, kvs, rfl, hp, hr⟩ := reps_prsT (K := K) s h3
  refine ⟨a, ps, kvs, rfl, SqL.of (s _ _ h2), hp, fun p hp => ?_⟩
  have gp := s.free hp
  exact q (.ref p) _ (upd G p (.dT (mergeT [] kvs))) (.new s hp) ⟨p, _, rfl, .inl upd_same, repT_iff.mpr ((RepD.merge hr RepD.nil).mono (same_upd gp))⟩
def prsK (xs : List (Key × D)) : List D := xs.map fun x => .tup [kD x.1, x.2]
theorem reps_prsK {G H : Hp} (s : Same G H) : ∀ {xs : List (Key × D)} {vs : List V}, Reps G (prsK xs) vs → ∃ (ps : List Addr) (kvs : List (Key × V)), vs = ps.map V.ref ∧ Paired (fun p kv => SqT K H p [kV kv.1, kv.2]) ps kvs ∧ RepD G xs kvs
  | [], _, h => by cases h; exact ⟨[], [], rfl, .nil, .nil⟩
  | x :: xs, _, h => by
    obtain ⟨v, r, rfl, h2, h3⟩ := h
    obtain ⟨a, ws, rfl, h4, h5⟩ := h2
    obtain ⟨v1, v2, rfl, r1, r2⟩ := h5.two'
    have e := rep_kD r1
    subst e
    obtain ⟨ps, kvs, rfl, hp, hr⟩ := reps_prsK s h3
    exact ⟨a :: ps, (x.1, v2) :: kvs, rfl, .cons (SqT.of (s _ _ h4)) hp, .cons r2 hr⟩
theorem rc_dictP {X : Cx} {xs : List (Key × D)} : RC b (fun xs H Q => ∃ (a : Addr) (ps : List Addr) (kvs : List (Key × V)), xs = [.ref a] ∧ SqL X.K H a (ps.map V.ref) ∧ Paired (fun p kv => SqT X.K H p [kV kv.1, kv.2]) ps kvs ∧ ∀ p, H p = none → Q (.ref p) (upd H p (.dK (mergeK [] kvs)))) [.lst (prsK xs)] (.dK (mkD xs)) := fun G H us l s r Q q => by
  obtain ⟨v, rfl, a, ws, rfl, h2, h3⟩ := r.one'
  obtain ⟨ps, kvs, rfl, hp, hr⟩ := reps_prsK (K := X.K) s h3
  refine ⟨a, ps, kvs, rfl, SqL.of (s _ _ h2), hp, fun p hp => ?_⟩
  have gp := s.free hp
  exact q (.ref p) _ (upd G p (.dK (mergeK [] kvs))) (.new s hp) ⟨p, _, rfl, .inl upd_same, repK_iff.mpr ((RepD.merge hr RepD.nil).mono (same_upd gp))⟩
theorem evn_listVals {kvs : List (List Key × D)} (hfl : b.fl = true) (h : Ev b td ρ (.dT kvs)) : EvN b (tCB rListVals (tCons (tBM0 K "dict" rValuesT td) tNil)) ρ (kvs.map (·.2)) := fun σ G H l E s Q q =>
  h σ G H l E s _ fun v H1 G1 g1 r1 => by
    obtain ⟨a, xs, rfl, h2, h3⟩ := r1
    have hG := rd_un (l.gr g1) hfl h2
    have hH := g1.sub _ _ hG
    refine ⟨.inr (.inr (.inl ⟨rfl, .inr ⟨xs, hH⟩⟩)), a, xs, rfl, rfl, hH, fun p hp => ?_⟩
    have g2 : Gr H1 G1 (upd H1 p (valuesO p a)) G1 := .own g1.sub hp
    refine ⟨p, a, xs, rfl, upd_same, g2.ex _ _ hH, fun q' hq' => ?_⟩
    have rv : ∀ {ds : List (List Key × D)} {xs : List (List Key × V)}, RepD G1 ds xs → Reps G1 (ds.map (·.2)) (xs.map (·.2)) := by
      intro ds xs r
      induction r with
      | nil => rfl
      | cons r _ ih => exact ⟨_, _, rfl, r, ih⟩
    exact q q' _ _ G1 ((g1.trans g2).trans (.own g2.sub hq')) (g1.ex.free (g2.ex.free hq')) upd_same (g2.sub.free hq') (rv (repT_iff.mp h3))
/-- root.update(d) -/
theorem ex_updT {kvs more : List (List Key × D)} (hfl : b.fl = true) (ho : Ev b to ρ (.ref p)) (he : Ev b te ρ (.dT more)) (hp : (p, .dT kvs) ∈ b.rt) (hz : kvs ≠ [] ∨ more.length ≤ 1) (hl : kvs.length + more.length ≤ 100000) (q : P (b.put p (.dT (more.foldl (fun acc x => putD acc x.1 x.2) kvs))) .non) :
    EvX B (tBM K "dict" rUpdT to (tCons te tNil)) b ρ P := fun σ G H o Q k =>
  ho σ G H o.lk o.env o.sub _ fun v H1 G1 g1 r1 => by
    cases (show v = V.ref p from r1)
    have o1 := o.go g1
    obtain ⟨xs0, e0, _⟩ := root_at o1 hp
    refine ⟨.inr (.inr (.inl ⟨rfl, .inr ⟨xs0, e0⟩⟩)), he σ G1 H1 o1.lk o1.env o1.sub _ fun w H2 G2 g2 r2 => ?_⟩
    have o2 := o1.go g2
    obtain ⟨c, ys, rfl, h2, h3⟩ := r2
    have hG := rd_un o2.lk hfl h2
    obtain ⟨xs, e1, e2⟩ := root_at o2 hp
    have gp := (o2.lk.rt _ hp).gp
    have r3 := repT_iff.mp h3
    refine ⟨p, c, xs, ys, rfl, rfl, e1, o2.sub _ _ hG, fun z => ?_, ?_, ?_, k _ .non _ G2 _ q (g1.gx.trans g2.gx) (o2.mut hp ⟨_, upd_same, RepD.merge r3 e2⟩) rfl⟩
    · rw [← z] at hG
      rw [show G2 p = none from gp] at hG
      cases hG
    · rcases hz with hz | hz
      · refine .inl fun z => ?_
        subst z
        have := e2.len
        exact hz (List.length_eq_zero_iff.mp this)
      · exact .inr (by rw [← r3.len]; exact hz)
    · rw [← r3.len, ← e2.len, PySem.sizeLine_eq]; omega
/-! ### a comprehension whose source has effects -/
theorem ex_lcX {α : Type} {enc : α → D} {c : α → Bool} {f : α → D} {P1 : Bx → List D → Prop} (hs : SrcX B wi b ρ P1)
    (q : ∀ b' ds, P1 b' ds → ∃ xs : List α, ds = xs.map enc ∧ xs.length ≤ 1000 ∧ (∀ x ∈ xs, LcT b' g tt te vs ρ (enc x) (c x) (f x)) ∧ P b' (.lst ((xs.filter c).map f))) : EvX B (tLc wi g tt te vs) b ρ P := fun σ G H o Q k =>
  hs σ G H o _ fun b1 ds J G1 H1 p1 s1 o1 S => by
    obtain ⟨xs, rfl, hn, turn, q⟩ := q b1 ds p1
    intro Dl hD
    refine lc_run S o1.lk o1.env o1.sub hD hn turn fun H2 G2 ys g2 gD hD2 r2 => ?_
    have g3 := g2.freeze hD hD2 gD
    exact k b1 _ _ _ _ q (s1.trans g3.gx) (o1.go g3) ⟨Dl, ys, rfl, upd_same, r2.mono (same_upd gD)⟩
/-! ### two clauses -/
theorem evn_lc2 {α β : Type} {xs : List α} {enc : α → D} {ys : α → List β} {enc1 : α → β → D} {f : α → β → D} (hs : Src b wi ρ (xs.map enc)) (hn : xs.length ≤ 1000) (hn2 : (xs.flatMap fun x => (ys x).map (f x)).length ≤ 1000)
    (turn : ∀ x ∈ xs, ∃ ρ', TgT g vs (wipeD ρ vs) (enc x) ρ' ∧ Src b wi1 ρ' ((ys x).map (enc1 x)) ∧ ∀ y ∈ ys x, ∃ ρ2, TgT g1 vs1 (wipeD ρ' vs1) (enc1 x y) ρ2 ∧ Ev b te ρ2 (f x y)) :
    EvN b (tLc2 wi g tYes wi1 g1 tYes te vs vs1) ρ (xs.flatMap fun x => (ys x).map (f x)) := fun σ G H l E s Q q =>
  hs σ G H l E s _ fun J H1 G1 g1' S => fun Dl hD => by
    have l1 := l.gr g1'
    have E1 := E.mono g1'.gx
    have s1 := g1'.sub
    let Pv : Nat → Hp → Prop := fun i H' => ∃ G' zs, Gr H1 G1 H' G' ∧ G' Dl = none ∧ H' Dl = some (.lst zs) ∧ Reps G' ((xs.take i).flatMap fun x => (ys x).map (f x)) zs
    refine ⟨fun i m H' => m = xs.length - i ∧ i ≤ xs.length ∧ Pv i H', ⟨xs.length, by simp, Nat.zero_le _, G1, [], .own s1 hD, s1.free hD, upd_same, rfl⟩, ?_⟩
    rintro i m H2 ⟨rfl, hi, G2, zs, g2, gD, hD2, r2⟩
    by_cases hlt : i < xs.length
    · refine .inr ⟨S.go i G2 H2 g2.gx g2.sub (by simpa using hlt), Pv (i + 1), fun H' p => ⟨xs.length - (i + 1), by omega, rfl, hlt, p⟩, fun v H3 yl => ?_⟩
      obtain ⟨G3, d, g3, e3, r3⟩ := S.yld i G2 H2 v H3 g2.gx g2.sub (by simpa using hlt) yl
      have hx : xs[i]? = some xs[i] := List.getElem?_eq_getElem hlt
      rw [List.getElem?_map, hx] at e3
      cases e3
      have ht : xs.take (i + 1) = xs.take i ++ [xs[i]] := by rw [List.take_add_one, hx]; rfl
      obtain ⟨ρ', tg, src1, inner⟩ := turn xs[i] (List.getElem_mem hlt)
      have g123 := g2.trans g3
      have gD3 : G3 Dl = none := g3.out hD2 (by intro xs z; cases z) gD
      have hD3 : H3 Dl = some (.lst zs) := g3.ex _ _ hD2
      refine tg (wipe σ vs) G3 H3 v ((E1.mono g123.gx).wipe vs) g3.sub r3 _ fun σ2 E2 e2 l2 => ⟨wipe_eq (fun i hi => by rw [e2 i hi, wipe_out' hi]) (by rw [l2, wipe_length]), ?_⟩
      simp only [tYes, if_true]
      refine src1 σ2 G3 H3 (l1.gr g123) E2 g3.sub _ fun J1 H4 G4 g4 S1 => ?_
      have gD4 : G4 Dl = none := g4.out hD3 (by intro xs z; cases z) gD3
      have hD4 : H4 Dl = some (.lst zs) := g4.ex _ _ hD3
      have g1234 := g123.trans g4
      have r4 : Reps G4 ((xs.take i).flatMap fun x => (ys x).map (f x)) zs := ((r2.mono g3.gx).mono g4.gx)
      let Pw : Nat → Hp → Prop := fun j H' => ∃ G' ws, Gr H1 G1 H' G' ∧ Same G4 G' ∧ G' Dl = none ∧ H' Dl = some (.lst ws) ∧ Reps G' (((xs.take i).flatMap fun x => (ys x).map (f x)) ++ ((ys xs[i]).take j).map (f xs[i])) ws
      refine ⟨fun j k H' => k = (ys xs[i]).length - j ∧ j ≤ (ys xs[i]).length ∧ Pw j H', ⟨_, rfl, Nat.zero_le _, G4, zs, g1234, Same.refl _, gD4, hD4, by simpa using r4⟩, ?_⟩
      rintro j k H5 ⟨rfl, hj, G5, ws, g5, s45, gD5, hD5, r5⟩
      by_cases hlt2 : j < (ys xs[i]).length
      · refine .inr ⟨S1.go j G5 H5 s45 g5.sub (by simpa using hlt2), Pw (j + 1), fun H' p => ⟨(ys xs[i]).length - (j + 1), by omega, rfl, hlt2, p⟩, fun v2 H6 yl2 => ?_⟩
        obtain ⟨G6, d2, g6, e6, r6⟩ := S1.yld j G5 H5 v2 H6 s45 g5.sub (by simpa using hlt2) yl2
        have hy : (ys xs[i])[j]? = some (ys xs[i])[j] := List.getElem?_eq_getElem hlt2
        rw [List.getElem?_map, hy] at e6
        cases e6
        have ht2 : (ys xs[i]).take (j + 1) = (ys xs[i]).take j ++ [(ys xs[i])[j]] := by rw [List.take_add_one, hy]; rfl
        obtain ⟨ρ2, tg2, ev2⟩ := inner _ (List.getElem_mem hlt2)
        have g56 := g5.trans g6
        have gD6 : G6 Dl = none := g6.out hD5 (by intro xs z; cases z) gD5
        have hD6 : H6 Dl = some (.lst ws) := g6.ex _ _ hD5
        refine tg2 (wipe σ2 vs1) G6 H6 v2 (((E2.mono g4.gx).mono (s45.trans g6.gx)).wipe vs1) g6.sub r6 _ fun σ3 E3 e3 l3 => ⟨wipe_eq (fun i hi => by rw [e3 i hi, wipe_out' hi]) (by rw [l3, wipe_length]), ?_⟩
        try simp only [tYes, if_true]
        refine ev2 σ3 G6 H6 (l1.gr g56) E3 g6.sub _ fun w H7 G7 g7 r7 => ?_
        have gD7 : G7 Dl = none := g7.out hD6 (by intro xs z; cases z) gD6
        have hlen : ws.length ≤ 1000 := by
          rw [← r5.length]
          have h1 : ((xs.flatMap fun x => (ys x).map (f x)).take (((xs.take i).flatMap fun x => (ys x).map (f x)).length + j)).length ≤ 1000 := by
            rw [List.length_take]; omega
          have h2 : xs.flatMap (fun x => (ys x).map (f x)) = ((xs.take i).flatMap fun x => (ys x).map (f x)) ++ ((ys xs[i]).map (f xs[i]) ++ (xs.drop (i + 1)).flatMap fun x => (ys x).map (f x)) := by
            conv => lhs; rw [← List.take_append_drop i xs, List.drop_eq_getElem_cons hlt]
            rw [List.flatMap_append, List.flatMap_cons]
          rw [List.length_append, List.length_map, List.length_take]
          have h3 := congrArg List.length h2
          rw [List.length_append, List.length_append, List.length_map] at h3
          omega
        refine ⟨ws, g7.ex _ _ hD6, Nat.lt_of_le_of_lt hlen (small1000 (Nat.le_refl _)), G7, ws ++ [w], (g56.trans g7).mut hD gD7, (s45.trans g6.gx).trans g7.gx, gD7, upd_same, ?_⟩
        rw [ht2, List.map_append, ← List.append_assoc]
        exact ((r5.mono g6.gx).mono g7.gx).snoc r7
      · have ej : j = (ys xs[i]).length := by omega
        subst ej
        refine .inl ⟨by have := S1.stop G5 H5 s45 g5.sub; simpa using this, G5, ws, g5, gD5, hD5, ?_⟩
        rw [List.take_length] at r5
        rw [ht, List.flatMap_append]
        simpa using r5
    · have ei : i = xs.length := by omega
      subst ei
      refine .inl ⟨by have := S.stop G2 H2 g2.gx g2.sub; simpa using this, ?_⟩
      rw [List.take_length] at r2
      exact q Dl zs H2 G2 (g1'.trans g2) (g1'.ex.free hD) hD2 gD r2
/-! ### found.setdefault(k, []).append(x) -/
def lkA (ls : List (Key × Addr)) (k : Key) : Option Addr := (ls.find? fun x => decide (x.1 = k)).map (·.2)
theorem valV_cons {κ : Type} [DecidableEq κ] (k' k : κ) (v : V) (xs : List (κ × V)) : valV ((k', v) :: xs) k = if k' = k then some v else valV xs k := by
  unfold valV
  rw [List.find?_cons]
  by_cases c : k' = k
  · simp [c]
  · simp [c]
theorem lkA_cons (k' k : Key) (a : Addr) (ls : List (Key × Addr)) : lkA ((k', a) :: ls) k = if k' = k then some a else lkA ls k := by
  unfold lkA
  rw [List.find?_cons]
  by_cases c : k' = k
  · simp [c]
  · simp [c]
theorem ev_weak (h : Ev ⟨false, []⟩ te ρ d) : Ev b te ρ d := fun σ G H l => h σ G H (l.less (fun z => by cases z) (fun _ z => nomatch z))
theorem ex_setdApp {ls : List (Key × Addr)} {k : Key} {v : D} (hd : Ev b td ρ (.ref p)) (hk : Ev b tk ρ (kD k)) (hv : Ev ⟨false, []⟩ tv ρ v) (hp : (p, .dK (ls.map fun x => (x.1, .ref x.2))) ∈ b.rt) (hl : ls.length ≤ 100000)
    (q1 : ∀ a, lkA ls k = some a → ∃ ds, (a, .lst ds) ∈ b.rt ∧ ds.length ≤ 100000 ∧ P (b.put a (.lst (ds ++ [v]))) .non)
    (q2 : lkA ls k = none → ∀ a, Fre b a → P ((b.put p (.dK ((ls ++ [(k, a)]).map fun x => (x.1, .ref x.2)))).add a (.lst [v])) .non) :
    EvX B (tBM K "list" rAppend (tDSetd td tk (tLst tNil)) (tCons tv tNil)) b ρ P := fun σ G H o Q kk =>
  hd σ G H o.lk o.env o.sub _ fun v1 H1 G1 g1 r1 => by
    cases (show v1 = V.ref p from r1)
    have o1 := o.go g1
    obtain ⟨xs1, e1, _⟩ := root_at o1 hp
    refine ⟨p, rfl, ?_, ?_⟩
    · exact .inl ⟨xs1, .inl e1⟩
    refine hk σ G1 H1 o1.lk o1.env o1.sub _ fun v2 H2 G2 g2 r2 => ?_
    have o2 := o1.go g2
    refine ⟨by decide, fun a0 ha0 => ?_⟩
    have g3 : Gr H2 G2 (upd H2 a0 (.lst [])) G2 := .own o2.sub ha0
    have o3 := o2.go g3
    have f0 := o2.fre ha0
    obtain ⟨xs, e3, r3⟩ := root_at o3 hp
    have hg12 := g1.gx.trans g2.gx
    have lk : ∀ {ls : List (Key × Addr)} {xs : List (Key × V)}, RepD G2 (ls.map fun x => (x.1, D.ref x.2)) xs → valV xs k = (lkA ls k).map V.ref := by
      intro ls
      induction ls with
      | nil => intro xs r; cases r; rfl
      | cons y ls ih =>
        intro xs r
        obtain ⟨k', a'⟩ := y
        cases r with
        | cons r t =>
          cases r
          rw [valV_cons, lkA_cons, ih t]
          split <;> rfl
    refine ⟨xs, k, e3, rep_kD r2, by rw [← r3.len, List.length_map, PySem.sizeLine_eq]; omega, fun w hw => ?_, fun hw => ?_⟩
    · rw [lk r3] at hw
      cases ha : lkA ls k with
      | none => rw [ha] at hw; cases hw
      | some a =>
        rw [ha] at hw
        cases hw
        obtain ⟨ds, hds, hdl, q⟩ := q1 a ha
        obtain ⟨ys, e4, _⟩ := root_at o3 hds
        refine ⟨.inl ⟨rfl, ys, SqL.of e4⟩, ev_weak (b := b) hv σ G2 _ o3.lk o3.env o3.sub _ fun w5 H5 G5 g5 r5 => ?_⟩
        have o5 := o3.go g5
        obtain ⟨ys, e6, r6⟩ := root_at o5 hds
        exact ⟨a, ys, w5, rfl, rfl, e6, by rw [← r6.length, PySem.sizeLine_eq]; omega, kk _ .non _ G5 _ q (hg12.trans g5.gx) (o5.mut hds ⟨ys ++ [w5], upd_same, r6.snoc r5⟩) rfl⟩
    · rw [lk r3] at hw
      have hnone : lkA ls k = none := by
        cases ha : lkA ls k with
        | none => rfl
        | some a => rw [ha] at hw; cases hw
      have q := q2 hnone a0 f0
      have ne0 : p ≠ a0 := f0 _ hp
      have nk : (xs.any fun kv => decide (kv.1 = k)) = false := by
        have := lk r3
        rw [hnone] at this
        unfold valV at this
        cases hf : xs.find? fun kv => decide (kv.1 = k) with
        | none =>
          rw [List.find?_eq_none] at hf
          rw [List.any_eq_false]
          exact hf
        | some y => rw [hf] at this; cases this
      have ep : putK xs k (V.ref a0) = xs ++ [(k, .ref a0)] := by unfold putK; rw [nk]; rfl
      -- the dict is written, the list is new
      have oa := o2.add (m := .lst []) g3 ha0 (o2.sub.free ha0) ⟨[], upd_same, rfl⟩
      have o4 := oa.mut (m' := .dK ((ls ++ [(k, a0)]).map fun x => (x.1, .ref x.2))) (o' := .dK (putK xs k (V.ref a0))) (mem_add_of hp) ⟨_, upd_same, by
        rw [ep, List.map_append]
        exact r3.app (.cons rfl .nil)⟩
      have e5 : upd (upd H2 a0 (.lst [])) p (.dK (putK xs k (V.ref a0))) a0 = some (.lst []) := by rw [upd_ne (fun z => ne0 z.symm)]; exact upd_same
      refine ⟨.inl ⟨rfl, [], SqL.of e5⟩, ev_weak hv σ G2 _ o4.lk o4.env o4.sub _ fun w5 H5 G5 g5 r5 => ?_⟩
      have o5 := o4.go g5
      have ma : (a0, M.lst []) ∈ ((b.add a0 (.lst [])).put p (.dK ((ls ++ [(k, a0)]).map fun x => (x.1, .ref x.2)))).rt := mem_put_ne mem_add (fun z => ne0 z.symm)
      have e6 : H5 a0 = some (.lst []) := g5.ex _ _ e5
      have o6 := o5.mut (m' := .lst [v]) (o' := .lst [w5]) ma ⟨[w5], upd_same, .one r5⟩
      refine ⟨a0, [], w5, rfl, rfl, e6, by decide, kk _ .non _ G5 _ q (hg12.trans g5.gx) (o6.less (fun h => h) fun x hx => ?_) rfl⟩
      rcases List.mem_cons.mp hx with rfl | hx
      · exact mem_put ma
      · obtain ⟨y, hy, e⟩ := List.mem_map.mp hx
        by_cases c : y.1 = p
        · rw [if_pos c] at e
          subst e
          exact mem_put_ne (mem_put (mem_add_of hp)) ne0
        · rw [if_neg c] at e
          subst e
          exact mem_put_ne (mem_put_ne (mem_add_of hy) c) (f0 _ hy)
end
end Sh
set_option Elab.async false
set_option linter.all false
set_option maxRecDepth 100000
/-! ShW: dicts of new lists; freezing what holds what may change. -/
namespace Sh
open PySem L2
section
variable {B : Bs} {b : Bx} {σ : L2.St} {ρ : Ro} {G H G' H' : Hp} {p : Addr} {m m' : M} {d : D} {v : V} {P : Po} {te tk : TE} {wi : TI} {g : TG} {vs : List Nat} {ts : TS} {PP : Po4}
theorem upd_id {H : Hp} {p : Addr} {o : HO} (h : H p = some o) : upd H p o = H := funext fun a => by
  by_cases e : a = p
  · subst e; rw [upd_same, h]
  · rw [upd_ne e]
theorem Ok.reM (o : Ok B b σ ρ G H) (hp : (p, m) ∈ b.rt) (h : m'.st G H p) : Ok B (b.put p m') σ ρ G H := by
  obtain ⟨ob, h1, _, _⟩ := M.st_ob h
  have := o.mut (m' := m') (o' := ob) hp (by rw [upd_id h1]; exact h)
  rwa [upd_id h1] at this
theorem Ok.frzL : ∀ {L : List (Addr × M)} {b : Bx} {G : Hp}, Ok B b σ ρ G H → (∀ x ∈ L, x ∈ b.rt) → (L.map (·.1)).Nodup → ∃ G' b', Same G G' ∧ (∀ x ∈ L, Rep G' x.2.d (.ref x.1)) ∧ Ok B b' σ ρ G' H ∧ b'.fl = b.fl ∧ (∀ y ∈ b.rt, y.1 ∉ L.map (·.1) → y ∈ b'.rt)
  | [], b, G, o, _, _ => ⟨G, b, Same.refl G, (fun _ z => nomatch z), o, rfl, fun y hy _ => hy⟩
  | (p, m) :: L, b, G, o, hL, nd => by
    rw [List.map_cons, List.nodup_cons] at nd
    obtain ⟨G1, s1, r1, o1⟩ := o.freeze (hL (p, m) List.mem_cons_self)
    have hL' : ∀ x ∈ L, x ∈ (b.drop p).rt := fun x hx => List.mem_filter.mpr ⟨hL x (List.mem_cons_of_mem _ hx), by
      simp only [decide_eq_true_eq]
      exact fun e => nd.1 (List.mem_map.mpr ⟨x, hx, e⟩)⟩
    obtain ⟨G2, b2, s2, r2, o2, f2, k2⟩ := Ok.frzL o1 hL' nd.2
    refine ⟨G2, b2, s1.trans s2, fun x hx => ?_, o2, f2, fun y hy ny => ?_⟩
    · rcases List.mem_cons.mp hx with rfl | hx
      · exact r1.mono s2
      · exact r2 x hx
    · rw [List.map_cons, List.mem_cons, not_or] at ny
      exact k2 y (List.mem_filter.mpr ⟨hy, by simpa using ny.1⟩) ny.2
theorem repD_refs {κ : Type} {α : Type} {key : α → κ} {ad : α → Addr} {f : α → D} : ∀ {xs : List α} {ys : List (κ × V)}, RepD G (xs.map fun x => (key x, D.ref (ad x))) ys → (∀ x ∈ xs, Rep G (f x) (.ref (ad x))) → RepD G (xs.map fun x => (key x, f x)) ys
  | [], _, r, _ => by cases r; exact .nil
  | x :: xs, _, r, h => by
    cases r with
    | cons r t =>
      cases (show _ = V.ref (ad x) from r)
      exact .cons (h x List.mem_cons_self) (repD_refs t fun y hy => h y (List.mem_cons_of_mem _ hy))
theorem reps_refs {α : Type} {ad : α → Addr} {f : α → D} : ∀ {xs : List α} {ys : List V}, Reps G (xs.map fun x => D.ref (ad x)) ys → (∀ x ∈ xs, Rep G (f x) (.ref (ad x))) → Reps G (xs.map f) ys
  | [], _, r, _ => r
  | x :: xs, _, r, h => by
    obtain ⟨v, r', rfl, h2, h3⟩ := r
    cases (show v = V.ref (ad x) from h2)
    exact ⟨_, _, rfl, h x List.mem_cons_self, reps_refs h3 fun y hy => h y (List.mem_cons_of_mem _ hy)⟩
/-- a root whose parts are roots, all frozen -/
theorem Ok.frzM {L : List (Addr × M)} {m0 m1 : M} (o : Ok B b σ ρ G H) (hp : (p, m0) ∈ b.rt) (hL : ∀ x ∈ L, x ∈ b.rt) (nd : (L.map (·.1)).Nodup) (np : p ∉ L.map (·.1)) (h : ∀ G', (∀ x ∈ L, Rep G' x.2.d (.ref x.1)) → m0.st G' H p → m1.st G' H p) :
    ∃ G' b', Same G G' ∧ Rep G' m1.d (.ref p) ∧ Ok B b' σ ρ G' H ∧ b'.fl = b.fl ∧ ∀ y ∈ b.rt, y.1 ≠ p → y.1 ∉ L.map (·.1) → y ∈ b'.rt := by
  obtain ⟨G1, b1, s1, r1, o1, f1, k1⟩ := o.frzL hL nd
  have hp1 := k1 _ hp np
  have o2 := o1.reM hp1 (h G1 r1 (root_at o1 hp1))
  obtain ⟨G3, s3, r3, o3⟩ := o2.freeze (mem_put hp1)
  exact ⟨G3, _, s1.trans s3, r3, o3, f1, fun y hy n1 n2 => mem_drop (mem_put_ne (k1 y hy n2) n1) n1⟩
theorem sm_frzM {L : List (Addr × M)} {m0 m1 : M} {i : Nat} (hp : (p, m0) ∈ b.rt) (hL : ∀ x ∈ L, x ∈ b.rt) (nd : (L.map (·.1)).Nodup) (np : p ∉ L.map (·.1)) (h : ∀ G' H, (∀ x ∈ L, Rep G' x.2.d (.ref x.1)) → m0.st G' H p → m1.st G' H p)
    (hi : ρ[i]? = some (some (.ref p))) (k : ∀ b', b'.fl = b.fl → (∀ y ∈ b.rt, y.1 ≠ p → y.1 ∉ L.map (·.1) → y ∈ b'.rt) → Stm B ts b' (ρ.set i (some m1.d)) PP) : Stm B ts b ρ PP := fun σ G H D o n r kk c => by
  obtain ⟨G', b', s, rr, o', f', k'⟩ := o.frzM hp hL nd np fun G' => h G' H
  have e : Env G' σ (ρ.set i (some m1.d)) := by
    refine ⟨by simp [o'.env.len], fun j d' h => ?_⟩
    by_cases hj : i = j
    · subst hj
      have hi' : i < ρ.length := (List.getElem?_eq_some_iff.mp hi).1
      rw [List.getElem?_set_self hi'] at h
      cases h
      obtain ⟨v, h1, h2⟩ := o.env.at' i _ hi
      cases (show v = V.ref p from h2)
      exact ⟨_, h1, rr⟩
    · rw [List.getElem?_set_ne hj] at h
      exact o'.env.at' j d' h
  exact k b' f' k' σ G' H D (o'.reenv e) (fun b2 ρ2 σ2 G2 H2 q2 s2 => n b2 ρ2 σ2 G2 H2 q2 (s.trans s2)) (fun b2 d2 v2 σ2 ρ2 G2 H2 q2 s2 => r b2 d2 v2 σ2 ρ2 G2 H2 q2 (s.trans s2)) (fun b2 ρ2 σ2 G2 H2 q2 s2 => kk b2 ρ2 σ2 G2 H2 q2 (s.trans s2)) (fun b2 ρ2 σ2 G2 H2 q2 s2 => c b2 ρ2 σ2 G2 H2 q2 (s.trans s2))
variable {α : Type} {xs : List α} {ad : α → Addr} {f : α → M} {i : Nat}
theorem sm_frzT {key : α → List Key} (hp : (p, .dT (xs.map fun x => (key x, .ref (ad x)))) ∈ b.rt) (hL : ∀ x ∈ xs, (ad x, f x) ∈ b.rt) (nd : (p :: xs.map ad).Nodup)
    (hi : ρ[i]? = some (some (.ref p))) (k : ∀ b', b'.fl = b.fl → (∀ y ∈ b.rt, y.1 ∉ p :: xs.map ad → y ∈ b'.rt) → Stm B ts b' (ρ.set i (some (.dT (xs.map fun x => (key x, (f x).d))))) PP) : Stm B ts b ρ PP := by
  rw [List.nodup_cons] at nd
  have e : (xs.map fun x => (ad x, f x)).map (·.1) = xs.map ad := by rw [List.map_map]; rfl
  refine sm_frzM (L := xs.map fun x => (ad x, f x)) (m1 := .dT (xs.map fun x => (key x, (f x).d))) hp (fun x hx => by obtain ⟨y, hy, rfl⟩ := List.mem_map.mp hx; exact hL y hy) (by rw [e]; exact nd.2) (by rw [e]; exact nd.1) (fun G' H hr hs => ?_) hi fun b' h1 h2 => k b' h1 fun y hy ny => ?_
  · obtain ⟨ys, e1, e2⟩ := hs
    exact ⟨ys, e1, repD_refs e2 fun x hx => hr (ad x, f x) (List.mem_map.mpr ⟨x, hx, rfl⟩)⟩
  · rw [List.mem_cons, not_or] at ny
    exact h2 y hy ny.1 (by rw [e]; exact ny.2)
theorem sm_frzK {key : α → Key} (hp : (p, .dK (xs.map fun x => (key x, .ref (ad x)))) ∈ b.rt) (hL : ∀ x ∈ xs, (ad x, f x) ∈ b.rt) (nd : (p :: xs.map ad).Nodup)
    (hi : ρ[i]? = some (some (.ref p))) (k : ∀ b', b'.fl = b.fl → (∀ y ∈ b.rt, y.1 ∉ p :: xs.map ad → y ∈ b'.rt) → Stm B ts b' (ρ.set i (some (.dK (xs.map fun x => (key x, (f x).d))))) PP) : Stm B ts b ρ PP := by
  rw [List.nodup_cons] at nd
  have e : (xs.map fun x => (ad x, f x)).map (·.1) = xs.map ad := by rw [List.map_map]; rfl
  refine sm_frzM (L := xs.map fun x => (ad x, f x)) (m1 := .dK (xs.map fun x => (key x, (f x).d))) hp (fun x hx => by obtain ⟨y, hy, rfl⟩ := List.mem_map.mp hx; exact hL y hy) (by rw [e]; exact nd.2) (by rw [e]; exact nd.1) (fun G' H hr hs => ?_) hi fun b' h1 h2 => k b' h1 fun y hy ny => ?_
  · obtain ⟨ys, e1, e2⟩ := hs
    exact ⟨ys, e1, repD_refs e2 fun x hx => hr (ad x, f x) (List.mem_map.mpr ⟨x, hx, rfl⟩)⟩
  · rw [List.mem_cons, not_or] at ny
    exact h2 y hy ny.1 (by rw [e]; exact ny.2)
theorem sm_frzLs (hp : (p, .lst (xs.map fun x => .ref (ad x))) ∈ b.rt) (hL : ∀ x ∈ xs, (ad x, f x) ∈ b.rt) (nd : (p :: xs.map ad).Nodup)
    (hi : ρ[i]? = some (some (.ref p))) (k : ∀ b', b'.fl = b.fl → (∀ y ∈ b.rt, y.1 ∉ p :: xs.map ad → y ∈ b'.rt) → Stm B ts b' (ρ.set i (some (.lst (xs.map fun x => (f x).d)))) PP) : Stm B ts b ρ PP := by
  rw [List.nodup_cons] at nd
  have e : (xs.map fun x => (ad x, f x)).map (·.1) = xs.map ad := by rw [List.map_map]; rfl
  refine sm_frzM (L := xs.map fun x => (ad x, f x)) (m1 := .lst (xs.map fun x => (f x).d)) hp (fun x hx => by obtain ⟨y, hy, rfl⟩ := List.mem_map.mp hx; exact hL y hy) (by rw [e]; exact nd.2) (by rw [e]; exact nd.1) (fun G' H hr hs => ?_) hi fun b' h1 h2 => k b' h1 fun y hy ny => ?_
  · obtain ⟨ys, e1, e2⟩ := hs
    exact ⟨ys, e1, reps_refs e2 fun x hx => hr (ad x, f x) (List.mem_map.mpr ⟨x, hx, rfl⟩)⟩
  · rw [List.mem_cons, not_or] at ny
    exact h2 y hy ny.1 (by rw [e]; exact ny.2)
/-- {k: [] for x in xs} -/
def dnB (b : Bx) (p : Addr) (k : α → Pr) (ys : List (α × Addr)) : Bx := ⟨b.fl, (p, .dT (ys.map fun y => (pK (k y.1), .ref y.2))) :: (ys.map fun y => (y.2, M.lst [])) ++ b.rt⟩
theorem ex_dcTnew {enc : α → D} {k : α → Pr} (hs : Src b wi ρ (xs.map enc)) (hn : xs.length ≤ 1000) (nd : (xs.map k).Nodup) (turn : ∀ x ∈ xs, ∃ ρ', TgT g vs (wipeD ρ vs) (enc x) ρ' ∧ Ev ⟨false, []⟩ tk ρ' (pD (k x)))
    (q : ∀ p ys, ys.map (·.1) = xs → (p :: ys.map (·.2)).Nodup → (∀ a ∈ p :: ys.map (·.2), Fre b a) → P (dnB b p k ys) (.ref p)) : EvX B (tDcT wi g tYes tk (tLst tNil) vs) b ρ P := fun σ G H o Q kk =>
  hs σ G H o.lk o.env o.sub _ fun J H1 G1 g1 S => fun Dl hD => by
    have o1 := o.go g1
    have f1 := o1.fre hD
    have oD := o1.add (m := .dT []) (.own o1.sub hD) hD (o1.sub.free hD) ⟨[], upd_same, .nil⟩
    let Pv : Nat → Hp → Prop := fun i H' => ∃ G' ys, Same G1 G' ∧ ys.map (·.1) = xs.take i ∧ (Dl :: ys.map (·.2)).Nodup ∧ (∀ a ∈ Dl :: ys.map (·.2), Fre b a) ∧ Ok B (dnB b Dl k ys) σ ρ G' H'
    refine ⟨fun i mm H' => mm = xs.length - i ∧ i ≤ xs.length ∧ Pv i H', ⟨xs.length, by simp, Nat.zero_le _, G1, [], Same.refl _, rfl, by simp, (fun a ha => by cases List.mem_singleton.mp ha; exact f1), oD⟩, ?_⟩
    rintro i mm H2 ⟨rfl, hi, G2, ys, s12, hys, ndy, fry, o2⟩
    by_cases hlt : i < xs.length
    · refine .inr ⟨S.go i G2 H2 s12 o2.sub (by simpa using hlt), Pv (i + 1), fun H' pr => ⟨xs.length - (i + 1), by omega, rfl, hlt, pr⟩, fun v H3 yl => ?_⟩
      obtain ⟨G3, d, g3, e3, r3⟩ := S.yld i G2 H2 v H3 s12 o2.sub (by simpa using hlt) yl
      have hx : xs[i]? = some xs[i] := List.getElem?_eq_getElem hlt
      rw [List.getElem?_map, hx] at e3
      cases e3
      have ht : xs.take (i + 1) = xs.take i ++ [xs[i]] := by rw [List.take_add_one, hx]; rfl
      obtain ⟨ρ', tg, ek⟩ := turn xs[i] (List.getElem_mem hlt)
      have o3 := o2.go g3
      refine tg (wipe σ vs) G3 H3 v (o3.env.wipe vs) o3.sub r3 _ fun σ2 E2 e2 l2 => ⟨wipe_eq (fun i hi => by rw [e2 i hi, wipe_out' hi]) (by rw [l2, wipe_length]), ?_⟩
      simp only [tYes, if_true]
      refine ev_weak ek σ2 G3 H3 o3.lk E2 o3.sub _ fun y H4 G4 g4 r4 => ?_
      have o4 := o3.go g4
      refine ⟨by decide, fun a0 ha0 => ?_⟩
      obtain ⟨c, rfl, h5⟩ := rep_pD r4
      have fr0 := o4.fre ha0
      have hDm : (Dl, M.dT (ys.map fun y => (pK (k y.1), D.ref y.2))) ∈ (dnB b Dl k ys).rt := List.mem_cons_self
      have neD : Dl ≠ a0 := fr0 _ hDm
      have g5 : Gr H4 G4 (upd H4 a0 (.lst [])) G4 := .own o4.sub ha0
      have oa := o4.add (m := .lst []) g5 ha0 (o4.sub.free ha0) ⟨[], upd_same, rfl⟩
      obtain ⟨kvs, h6, h7⟩ := root_at oa (mem_add_of hDm)
      have hlen : kvs.length < sizeLine := by
        rw [← h7.len, List.length_map]
        have : ys.length = i := by
          have := congrArg List.length hys
          rw [List.length_map, List.length_take] at this
          omega
        exact small1000 (by omega)
      have hc : (upd H4 a0 (.lst [])) c = some (.tup ((pK (k xs[i])).map kV)) := g5.sub _ _ h5
      refine ⟨kvs, pK (k xs[i]), c, rfl, hc, h6, hlen, G4, ys ++ [(xs[i], a0)], (s12.trans g3.gx).trans g4.gx, by rw [List.map_append, hys, ht]; rfl, ?_, ?_, ?_⟩
      · rw [List.map_append, ← List.cons_append, List.nodup_append]
        refine ⟨ndy, by simp, fun a ha c hc e => ?_⟩
        simp at hc
        subst hc
        subst e
        rcases List.mem_cons.mp ha with rfl | ha
        · exact neD rfl
        · obtain ⟨z, hz, e⟩ := List.mem_map.mp ha
          exact fr0 (z.2, M.lst []) (List.mem_cons_of_mem _ (List.mem_append_left _ (List.mem_map.mpr ⟨z, hz, rfl⟩))) e
      · intro a ha
        rw [List.map_append, ← List.cons_append] at ha
        rcases List.mem_append.mp ha with ha | ha
        · exact fry a ha
        · simp at ha
          subst ha
          exact fun z hz => fr0 z (List.mem_cons_of_mem _ (List.mem_append_right _ hz))
      · have nk : (kvs.any fun kv => decide (kv.1 = pK (k xs[i]))) = false := by
          rw [← h7.any, List.any_map, List.any_eq_false]
          intro z hz
          simp only [Function.comp_apply, decide_eq_true_eq]
          intro e
          have e := pK_inj e
          have hz1 : z.1 ∈ xs.take i := by rw [← hys]; exact List.mem_map.mpr ⟨z, hz, rfl⟩
          obtain ⟨j, hj, ej⟩ := List.mem_iff_getElem.mp hz1
          rw [List.getElem_take] at ej
          rw [List.length_take] at hj
          have := (List.getElem_inj (i := j) (j := i) (h₀ := by rw [List.length_map]; omega) (h₁ := by rw [List.length_map]; omega) nd).mp (by rw [List.getElem_map, List.getElem_map, ej, e])
          omega
        have ep : putK kvs (pK (k xs[i])) (V.ref a0) = kvs ++ [(pK (k xs[i]), .ref a0)] := by unfold putK; rw [nk]; rfl
        have ob := oa.mut (m' := .dT ((ys ++ [(xs[i], a0)]).map fun y => (pK (k y.1), .ref y.2))) (o' := .dT (putK kvs (pK (k xs[i])) (V.ref a0))) (mem_add_of hDm) ⟨_, upd_same, by
          rw [ep, List.map_append]
          exact h7.app (.cons rfl .nil)⟩
        refine ob.less (fun h => h) fun z hz => ?_
        rcases List.mem_cons.mp hz with rfl | hz
        · exact mem_put (mem_add_of hDm)
        · rcases List.mem_append.mp hz with hz | hz
          · obtain ⟨y, hy, rfl⟩ := List.mem_map.mp hz
            rcases List.mem_append.mp hy with hy | hy
            · refine mem_put_ne (mem_add_of (List.mem_cons_of_mem _ (List.mem_append_left _ (List.mem_map.mpr ⟨y, hy, rfl⟩)))) fun e => ?_
              rw [List.nodup_cons] at ndy
              exact ndy.1 (List.mem_map.mpr ⟨y, hy, e⟩)
            · rw [List.mem_singleton.mp hy]
              exact mem_put_ne mem_add (fun e => neD e.symm)
          · exact mem_put_ne (mem_add_of (List.mem_cons_of_mem _ (List.mem_append_right _ hz))) (fun e => fry Dl List.mem_cons_self _ hz e)
    · have ei : i = xs.length := by omega
      subst ei
      refine .inl ⟨by have := S.stop G2 H2 s12 o2.sub; simpa using this, ?_⟩
      rw [List.take_length] at hys
      exact kk _ (.ref Dl) _ G2 H2 (q Dl ys hys ndy fry) (g1.gx.trans s12) o2 rfl
end
end Sh
set_option Elab.async false
set_option linter.all false
set_option maxRecDepth 100000
/-! ShX: promises with something chosen beside. -/
namespace Sh
open PySem L2
def MutG {γ : Type} (lk : Bool) (n : Nat) (Pre : γ → List D → List (Addr × M) → Prop) (Post : γ → D → List (Addr × M) → Prop) : Sp := fun vs H Q _ => vs.length = n ∧ ∃ G ds ms g, Lk ⟨lk, ms⟩ G H ∧ Same G H ∧ Reps G ds vs ∧ Pre g ds ms ∧
  ∀ d ms' v H' G', Post g d ms' → ms'.map (·.1) = ms.map (·.1) → Gr (minus H (ms.map (·.1))) G H' G' → Rep G' d v → (∀ x ∈ ms', Root G' H' x.1 x.2) → Q v H'
section
variable {B : Bs} {b : Bx} {ρ : Ro} {te to : TE} {ta : TA} {d : D} {ds : List D} {P : Po} {lk : Bool} {n : Nat} {γ : Type} {Pre : γ → List D → List (Addr × M) → Prop} {Post : γ → D → List (Addr × M) → Prop} {σ : L2.St} {G H G' H' : Hp}
theorem ex_callG {P1 : Bx → List D → Prop} {E0 : XK} (ha : EvXA B ta b ρ P1) (q : ∀ b' ds, P1 b' ds → ds.length = n ∧ ∃ g ms, (∀ x ∈ ms, x ∈ b'.rt) ∧ Pre g ds ms ∧ (lk = true → b'.fl = true) ∧ ∀ d ms' b'', Post g d ms' → ms'.map (·.1) = ms.map (·.1) → Puts b' ms' b'' → P b'' d) :
    EvX B (tCall (MutG lk n Pre Post) [] E0 ta) b ρ P := fun σ G H o Q k =>
  ha σ G H o _ fun b1 ds vs G1 H1 p1 s1 o1 r1 => by
    obtain ⟨hn, gh, ms, hm, hp, hl, q⟩ := q b1 ds p1
    refine ⟨by rw [List.append_nil, ← r1.length, hn], G1, ds, ms, gh, o1.lk.less hl hm, o1.sub, by rw [List.append_nil]; exact r1, hp, fun d ms' v H2 G2 hR ek g2 r2 hr => ?_⟩
    exact k _ d v G2 H2 (q d ms' _ hR ek (puts_ok b1 ms')) (s1.trans g2.gx) (o1.back hm ek g2 hr) r2
theorem ex_methG {P1 : Bx → List D → Prop} {E0 : XK} {C : Addr} {fs : List (Str × D)} {m : Str} (ho : Ev b to ρ (.ins C fs)) (hm : fs.lookup m = none) (ha : EvXA B ta b ρ P1)
    (q : ∀ b' ds, P1 b' ds → ds.length + 1 = n ∧ ∃ g ms, (∀ x ∈ ms, x ∈ b'.rt) ∧ Pre g (.ins C fs :: ds) ms ∧ (lk = true → b'.fl = true) ∧ ∀ d ms' b'', Post g d ms' → ms'.map (·.1) = ms.map (·.1) → Puts b' ms' b'' → P b'' d) :
    EvX B (tMeth C m (MutG lk n Pre Post) [] E0 to ta) b ρ P := fun σ G H o Q k =>
  ho σ G H o.lk o.env o.sub _ fun v H0 G0 g0 r0 => by
    have o0 := o.go g0
    obtain ⟨a, dx, xs, rfl, h2, h3⟩ := id r0
    refine ⟨a, dx, xs, rfl, o0.sub _ _ h2, (repF_iff.mp h3).lookup_none hm, ?_⟩
    refine ha σ G0 H0 o0 _ fun b1 ds vs G1 H1 p1 s1 o1 r1 => ?_
    obtain ⟨hn, gh, ms, hms, hp, hl, q⟩ := q b1 ds p1
    refine ⟨by rw [List.append_nil, List.length_cons, ← r1.length, hn], G1, .ins C fs :: ds, ms, gh, o1.lk.less hl hms, o1.sub, ⟨_, _, rfl, r0.mono s1, by rw [List.append_nil]; exact r1⟩, hp, fun d ms' v H2 G2 hR ek g2 r2 hr => ?_⟩
    exact k _ d v G2 H2 (q d ms' _ hR ek (puts_ok b1 ms')) ((g0.gx.trans s1).trans g2.gx) (o1.back hms ek g2 hr) r2
end
theorem body_okG {lk : Bool} {n : Nat} {γ : Type} {Pre : γ → List D → List (Addr × M) → Prop} {Post : γ → D → List (Addr × M) → Prop} {N : List Str} {vs : List V} {H : Hp} {Q : VK} {E : XK} {t : TS} (h : MutG lk n Pre Post vs H Q E)
    (k : ∀ g ds ms, ds.length = n → Pre g ds ms → ∀ B, Stm B t ⟨lk, ms⟩ (ro0 N ds) (PoM (Post g) ms)) :
    t { nx := fun _ H' => Q .non H', rt := Q } (start N vs) H := by
  obtain ⟨hn, G, ds, ms, gh, l, s, r, hp, q⟩ := h
  have sub : Same G (minus H (ms.map (·.1))) := fun a o e => by
    have : a ∉ ms.map (·.1) := fun z => by
      obtain ⟨x, hx, rfl⟩ := List.mem_map.mp z
      rw [(l.rt x hx).gp] at e
      cases e
    rw [minus_out this]
    exact s a o e
  have o : Ok ⟨minus H (ms.map (·.1)), G⟩ ⟨lk, ms⟩ (start N vs) (ro0 N ds) G H := ⟨⟨fun a o e => (minus_some e).2, Same.refl G, s, fun _ _ _ _ => rfl, fun _ _ _ e => e⟩, l, Env.start r, fun x hx => minus_in (List.mem_map.mpr ⟨x, hx, rfl⟩)⟩
  refine k gh ds ms (r.length.trans hn) hp _ _ G H _ o (fun b' ρ' σ' G' H' ⟨ms', e, ek, hm⟩ s' o' => ?_) (fun b' d' v σ' ρ' G' H' ⟨ms', e, ek, hm⟩ s' o' r' => ?_) (fun _ _ _ _ _ z => z.elim) (fun _ _ _ _ _ z => z.elim)
  · exact q .non ms' .non H' G' e ek o'.gr rfl fun x hx => o'.lk.rt x (hm x hx)
  · exact q d' ms' v H' G' e ek o'.gr r' fun x hx => o'.lk.rt x (hm x hx)
end Sh
set_option Elab.async false
set_option linter.all false
set_option maxRecDepth 100000
/-! ShY: operators, join and comprehensions whose parts have effects. -/
namespace Sh
open PySem L2
section
variable {B : Bs} {b : Bx} {ρ : Ro} {te to ta' tb : TE} {ta : TA} {r : R2} {x y z d : D} {ds : List D} {P P1 : Po} {K : PySem.W.Frag} {wi : TI} {g : TG} {vs : List Nat}
theorem ex_op (ha : EvX B ta' b ρ P1) (hb : ∀ b' x, P1 b' x → EvX B tb b' ρ fun b'' y => ∃ z, RD b'' r x y z ∧ P b'' z) : EvX B (tOp r ta' tb) b ρ P := fun σ G H o Q k =>
  ha σ G H o _ fun b1 x v1 G1 H1 p1 s1 o1 r1 => hb b1 x p1 σ G1 H1 o1 _ fun b2 y v2 G2 H2 ⟨z, hz, q⟩ s2 o2 r2 =>
    hz G2 H2 v1 v2 o2.lk o2.sub (r1.mono s2) r2 Q fun w H3 G3 g3 r3 => k b2 z w G3 H3 q ((s1.trans s2).trans g3.gx) (o2.go g3) r3
theorem ex_opR (ha : Ev b ta' ρ x) (hb : EvX B tb b ρ fun b'' y => ∃ z, RD b'' r x y z ∧ P b'' z) : EvX B (tOp r ta' tb) b ρ P := ex_op (P1 := fun b' x' => b' = b ∧ x' = x) (ex_pure ha ⟨rfl, rfl⟩) fun b' x' ⟨e1, e2⟩ => by subst e1 e2; exact hb
theorem ex_opL (ha : EvX B ta' b ρ P1) (hb : ∀ b' x, P1 b' x → ∃ y z, Ev b' tb ρ y ∧ RD b' r x y z ∧ P b' z) : EvX B (tOp r ta' tb) b ρ P := ex_op ha fun b' x h => by
  obtain ⟨y, z, h1, h2, h3⟩ := hb b' x h
  exact ex_pure h1 ⟨z, h2, h3⟩
theorem ex_cb {rr : List V → Hp → VK → Prop} {P2 : Bx → List D → Prop} (ha : EvXA B ta b ρ P2) (q : ∀ b' ds, P2 b' ds → ∃ z, RC b' rr ds z ∧ P b' z) : EvX B (tCB rr ta) b ρ P := fun σ G H o Q k =>
  ha σ G H o _ fun b1 ds vs G1 H1 p1 s1 o1 r1 => by
    obtain ⟨z, hz, q⟩ := q b1 ds p1
    exact hz G1 H1 vs o1.lk o1.sub r1 Q fun w H2 G2 g2 r2 => k b1 z w G2 H2 q (s1.trans g2.gx) (o1.go g2) r2
theorem ex_join {a : Str} (ho : Ev b to ρ (.str a)) (he : EvX B te b ρ fun b' d => ∃ ys : List Str, d = .lst (ys.map .str) ∧ (ys.map (·.length)).sum + ys.length * a.length ≤ 16777216 ∧ P b' (.str (Txt.join a ys))) :
    EvX B (tM1 (fun x xs H Q => ∃ a p, ∃ ys : List Str, x = .str a ∧ xs = [.ref p] ∧ (SqL K H p (ys.map V.str) ∨ SqT K H p (ys.map V.str)) ∧ (ys.map (·.length)).sum + ys.length * a.length ≤ 16777216 ∧ Q (.str (Txt.join a ys)) H) to te) b ρ P := fun σ G H o Q k =>
  ho σ G H o.lk o.env o.sub _ fun v H1 G1 g1 r1 => by
    cases (show v = V.str a from r1)
    refine ⟨⟨a, rfl⟩, he σ G1 H1 (o.go g1) _ fun b2 d w G2 H2 ⟨ys, e, hl, q⟩ s2 o2 r2 => ?_⟩
    subst e
    obtain ⟨p, xs, rfl, h2, h3⟩ := r2
    have e := h3.strs
    subst e
    exact ⟨a, p, ys, rfl, rfl, .inl (SqL.of (o2.sub _ _ h2)), hl, k b2 _ _ G2 H2 q (g1.gx.trans s2) o2 rfl⟩
/-- [e for x in xs], e with effects; the new list a root meanwhile -/
theorem ex_lcE {α : Type} {xs : List α} {enc : α → D} (hs : Src b wi ρ (xs.map enc)) (hn : xs.length ≤ 1000) (J : Addr → Nat → List D → Bx → Prop) (h0 : ∀ p, Fre b p → J p 0 [] (b.add p (.lst [])))
    (turn : ∀ p i x b' ds, xs[i]? = some x → J p i ds b' → (p, M.lst ds) ∈ b'.rt → ∃ ρ', TgT g vs (wipeD ρ vs) (enc x) ρ' ∧ EvX B te b' ρ' fun b'' d => (p, M.lst ds) ∈ b''.rt ∧ J p (i + 1) (ds ++ [d]) (b''.put p (.lst (ds ++ [d]))))
    (q : ∀ p b' ds, J p xs.length ds b' → (p, M.lst ds) ∈ b'.rt → P b' (.ref p)) : EvX B (tLc wi g tYes te vs) b ρ P := fun σ G H o Q kk =>
  hs σ G H o.lk o.env o.sub _ fun Jt H1 G1 g1 S => fun Dl hD => by
    have o1 := o.go g1
    have f1 := o1.fre hD
    have oD := o1.add (m := .lst []) (.own o1.sub hD) hD (o1.sub.free hD) ⟨[], upd_same, rfl⟩
    let Pv : Nat → Hp → Prop := fun i H' => ∃ G' b' ds, Same G1 G' ∧ Ok B b' σ ρ G' H' ∧ (Dl, M.lst ds) ∈ b'.rt ∧ ds.length = i ∧ J Dl i ds b'
    refine ⟨fun i mm H' => mm = xs.length - i ∧ i ≤ xs.length ∧ Pv i H', ⟨xs.length, by simp, Nat.zero_le _, G1, _, [], Same.refl _, oD, mem_add, rfl, h0 Dl f1⟩, ?_⟩
    rintro i mm H2 ⟨rfl, hi, G2, b2, ds, s12, o2, hm, hl, hJ⟩
    by_cases hlt : i < xs.length
    · refine .inr ⟨S.go i G2 H2 s12 o2.sub (by simpa using hlt), Pv (i + 1), fun H' pr => ⟨xs.length - (i + 1), by omega, rfl, hlt, pr⟩, fun v H3 yl => ?_⟩
      obtain ⟨G3, d, g3, e3, r3⟩ := S.yld i G2 H2 v H3 s12 o2.sub (by simpa using hlt) yl
      have hx : xs[i]? = some xs[i] := List.getElem?_eq_getElem hlt
      rw [List.getElem?_map, hx] at e3
      cases e3
      obtain ⟨ρ', tg, ek⟩ := turn Dl i xs[i] b2 ds hx hJ hm
      have o3 := o2.go g3
      refine tg (wipe σ vs) G3 H3 v (o3.env.wipe vs) o3.sub r3 _ fun σ2 E2 e2 l2 => ⟨wipe_eq (fun i hi => by rw [e2 i hi, wipe_out' hi]) (by rw [l2, wipe_length]), ?_⟩
      simp only [tYes, if_true]
      refine ek σ2 G3 H3 (o3.reenv E2) _ fun b4 d w G4 H4 ⟨hm4, hJ4⟩ s4 o4 r4 => ?_
      have o5 := o4.reenv (o3.env.mono s4)
      obtain ⟨acc, h6, h7⟩ := root_at o5 hm4
      exact ⟨acc, h6, by rw [← h7.length, hl]; exact small1000 (by omega), G4, _, ds ++ [d], (s12.trans g3.gx).trans s4, o5.mut (m' := .lst (ds ++ [d])) hm4 ⟨acc ++ [w], upd_same, h7.snoc r4⟩, mem_put hm4, by simp [hl], hJ4⟩
    · have ei : i = xs.length := by omega
      subst ei
      refine .inl ⟨by have := S.stop G2 H2 s12 o2.sub; simpa using this, ?_⟩
      exact kk _ (.ref Dl) _ G2 H2 (q Dl b2 ds hJ hm) (g1.gx.trans s12) o2 rfl
end
end Sh
set_option Elab.async false
set_option linter.all false
set_option maxRecDepth 100000
/-! ShZ: written dicts whose parts have effects; locked comprehensions with effects; a list that may change, read as if frozen; calls that hand back what may change. -/
namespace Sh
open PySem L2
section
variable {B : Bs} {b : Bx} {ρ : Ro} {te to ta' tb tk tv : TE} {ta : TA} {r : R2} {x y z d : D} {ds : List D} {P P1 : Po} {K : PySem.W.Frag} {wi : TI} {g : TG} {vs : List Nat} {trs : List (TE × TE)}
/-! ### written dicts -/
def EvXP (B : Bs) (trs : List (TE × TE)) (b : Bx) (ρ : Ro) (P : Bx → List (Key × D) → Prop) : Prop := ∀ σ G H, Ok B b σ ρ G H → ∀ Q : List (V × V) → Hp → Prop, (∀ b' kds kvs G' H', P b' kds → Same G G' → Ok B b' σ ρ G' H' → RepD G' kds kvs → Q (kvs.map fun kv => (kV kv.1, kv.2)) H') → tPairs trs σ H Q
theorem xp_nil {P : Bx → List (Key × D) → Prop} (q : P b []) : EvXP B [] b ρ P := fun σ G H o Q k => k b [] [] G H q (Same.refl G) o .nil
theorem xp_cons {P : Bx → List (Key × D) → Prop} {k : Key} (hk : Ev b tk ρ (kD k)) (hv : EvX B tv b ρ P1) (t : ∀ b' d, P1 b' d → EvXP B trs b' ρ fun b'' ds => P b'' ((k, d) :: ds)) : EvXP B ((tk, tv) :: trs) b ρ P := fun σ G H o Q q =>
  hk σ G H o.lk o.env o.sub _ fun u H1 G1 g1 r1 => by
    have e := rep_kD r1
    subst e
    refine hv σ G1 H1 (o.go g1) _ fun b2 d v G2 H2 p2 s2 o2 r2 => t b2 d p2 σ G2 H2 o2 _ fun b3 kds kvs G3 H3 p3 s3 o3 r3 => ?_
    exact q b3 ((k, d) :: kds) ((k, v) :: kvs) G3 H3 p3 ((g1.gx.trans s2).trans s3) o3 (.cons (r2.mono s3) r3)
theorem ex_disp {P2 : Addr → Bx → List (Key × D) → Prop} (h : ∀ p, Fre b p → EvXP B trs (b.add p (.dK [])) ρ (P2 p)) (q : ∀ p b' kds, P2 p b' kds → (p, M.dK []) ∈ b'.rt ∧ kds.length ≤ 15 ∧ (kds.map (·.1)).Nodup ∧ P (b'.put p (.dK kds)) (.ref p)) : EvX B (tDisp trs) b ρ P := fun σ G H o Q k => fun p hp =>
  h p (o.fre hp) σ G _ (o.add (m := .dK []) (.own o.sub hp) hp (o.sub.free hp) ⟨[], upd_same, .nil⟩) _ fun b1 kds kvs G1 H1 p1 s1 o1 r1 => by
    obtain ⟨hm, hl, nd, q⟩ := q p b1 kds p1
    obtain ⟨xs, e1, e2⟩ := root_at o1 hm
    cases e2
    refine ⟨e1, kvs, rfl, by rw [← r1.len]; exact hl, ?_⟩
    have m := r1.merge (ds := []) (xs := []) .nil
    rw [show kds.foldl (fun acc x => putD acc x.1 x.2) [] = kds from mkD_eq nd] at m
    exact k _ (.ref p) _ G1 _ q s1 (o1.mut (m' := .dK kds) hm ⟨_, upd_same, m⟩) rfl
/-! ### [e for x in d], d locked, e with effects -/
theorem ex_lcEL {α : Type} {xs : List α} {enc : α → D} (hfl : b.fl = true) (hs : SrcL b wi ρ (xs.map enc)) (hn : xs.length ≤ 1000) (J : Addr → Nat → List D → Bx → Prop) (h0 : ∀ p, Fre b p → J p 0 [] (b.lk.add p (.lst [])))
    (turn : ∀ B' p i x b' ds, xs[i]? = some x → J p i ds b' → (p, M.lst ds) ∈ b'.rt → ∃ ρ', TgT g vs (wipeD ρ vs) (enc x) ρ' ∧ EvX B' te b' ρ' fun b'' d => (p, M.lst ds) ∈ b''.rt ∧ J p (i + 1) (ds ++ [d]) (b''.put p (.lst (ds ++ [d]))))
    (q : ∀ p b' ds, J p xs.length ds b' → (p, M.lst ds) ∈ b'.rt → P b'.ul (.ref p)) : EvX B (tLockE (tLc wi g tYes te vs)) b ρ P := fun σ G H o Q kk => by
  obtain ⟨a, u, hG, hu, mu, h⟩ := hs σ G H o.lk o.env o.sub
  refine ⟨a, u, o.sub _ _ hG, mu, fun od => h od _ fun Jt S => fun Dl hD => ?_⟩
  have o1 := o.lock hG hu od
  have hD0 : H Dl = none := by
    by_cases c : Dl = a
    · subst c; rw [upd_same] at hD; cases hD
    · rw [upd_ne c] at hD; exact hD
  have f1 : Fre b Dl := o.fre hD0
  have oD := o1.add (m := .lst []) (.own o1.sub hD) hD (o1.sub.free hD) ⟨[], upd_same, rfl⟩
  let Pv : Nat → Hp → Prop := fun i H' => ∃ G' b' ds, Same (upd G a (.frz od u)) G' ∧ Ok (lkB b G H a od u) b' σ ρ G' H' ∧ (Dl, M.lst ds) ∈ b'.rt ∧ ds.length = i ∧ J Dl i ds b'
  refine ⟨fun i mm H' => mm = xs.length - i ∧ i ≤ xs.length ∧ Pv i H', ⟨xs.length, by simp, Nat.zero_le _, _, _, [], Same.refl _, oD, mem_add, rfl, h0 Dl f1⟩, ?_⟩
  rintro i mm H2 ⟨rfl, hi, G2, b2, ds, s12, o2, hm, hl, hJ⟩
  by_cases hlt : i < xs.length
  · refine .inr ⟨S.go i G2 H2 s12 o2.sub (by simpa using hlt), Pv (i + 1), fun H' pr => ⟨xs.length - (i + 1), by omega, rfl, hlt, pr⟩, fun v H3 yl => ?_⟩
    obtain ⟨G3, d, g3, e3, r3⟩ := S.yld i G2 H2 v H3 s12 o2.sub (by simpa using hlt) yl
    have hx : xs[i]? = some xs[i] := List.getElem?_eq_getElem hlt
    rw [List.getElem?_map, hx] at e3
    cases e3
    obtain ⟨ρ', tg, ek⟩ := turn (lkB b G H a od u) Dl i xs[i] b2 ds hx hJ hm
    have o3 := o2.go g3
    refine tg (wipe σ vs) G3 H3 v (o3.env.wipe vs) o3.sub r3 _ fun σ2 E2 e2 l2 => ⟨wipe_eq (fun i hi => by rw [e2 i hi, wipe_out' hi]) (by rw [l2, wipe_length]), ?_⟩
    simp only [tYes, if_true]
    refine ek σ2 G3 H3 (o3.reenv E2) _ fun b4 d w G4 H4 ⟨hm4, hJ4⟩ s4 o4 r4 => ?_
    have o5 := o4.reenv (o3.env.mono s4)
    obtain ⟨acc, h6, h7⟩ := root_at o5 hm4
    exact ⟨acc, h6, by rw [← h7.length, hl]; exact small1000 (by omega), G4, _, ds ++ [d], (s12.trans g3.gx).trans s4, o5.mut (m' := .lst (ds ++ [d])) hm4 ⟨acc ++ [w], upd_same, h7.snoc r4⟩, mem_put hm4, by simp [hl], hJ4⟩
  · have ei : i = xs.length := by omega
    subst ei
    refine .inl ⟨by have := S.stop G2 H2 s12 o2.sub; simpa using this, ?_⟩
    obtain ⟨e5, s6, t6, o6⟩ := o.unlock hfl hG hu o2
    exact ⟨e5, kk _ (.ref Dl) _ _ _ (q Dl b2 ds hJ hm) s6 (o6.reenv (o.env.mono s6)) rfl⟩
/-! ### a list that may change, read as if frozen -/
def Grd : D → Prop
  | .non | .bl _ | .int _ | .str _ | .ty _ | .ref _ => True
  | _ => False
theorem Rep.grd {G G' : Hp} {d : D} {v : V} (h : Rep G d v) (hg : Grd d) : Rep G' d v := by
  cases d <;> first | exact h | exact hg.elim
theorem Reps.grd {G G' : Hp} : ∀ {ds : List D} {xs : List V}, Reps G ds xs → (∀ d ∈ ds, Grd d) → Reps G' ds xs
  | [], _, h, _ => h
  | d :: ds, _, h, hg => by
    obtain ⟨v, r, e, h2, h3⟩ := h
    exact ⟨v, r, e, h2.grd (hg d List.mem_cons_self), Reps.grd h3 fun x hx => hg x (List.mem_cons_of_mem _ hx)⟩
theorem M.st_same {G G' H : Hp} {p : Addr} {m : M} (r : m.st G H p) (s : Same G G') : m.st G' H p := by
  cases m with
  | lst ds => obtain ⟨xs, h1, h2⟩ := r; exact ⟨xs, h1, h2.mono s⟩
  | dK ds => obtain ⟨xs, h1, h2⟩ := r; exact ⟨xs, h1, h2.mono s⟩
  | dT ds => obtain ⟨xs, h1, h2⟩ := r; exact ⟨xs, h1, h2.mono s⟩
  | ins C ds => obtain ⟨dx, xs, h1, h2⟩ := r; exact ⟨dx, xs, h1, h2.mono s⟩
theorem evn_as {p : Addr} {i : Nat} {es : List D} (hp : (p, M.lst es) ∈ b.rt) (hi : ρ[i]? = some (some (.ref p))) (hg : ∀ d ∈ ds, Grd d) (h : EvN (b.drop p) te (ρ.set i (some (.lst es))) ds) : EvN b te ρ ds := fun σ G H l E s Q q => by
  have r := l.rt _ hp
  obtain ⟨xs, e1, e2⟩ := r.at'
  have gp := r.gp
  have sG : Same G (upd G p (.lst xs)) := same_upd gp
  have hlen : i < ρ.length := (List.getElem?_eq_some_iff.mp hi).1
  have l1 : Lk (b.drop p) (upd G p (.lst xs)) H := by
    refine ⟨fun hb a o u e => ?_, fun x hx => ?_⟩
    · by_cases c : a = p
      · subst c; rw [upd_same] at e; cases e
      · rw [upd_ne c] at e; exact l.fl hb a o u e
    · obtain ⟨hx1, hx2⟩ := List.mem_filter.mp hx
      simp only [decide_eq_true_eq] at hx2
      have rx := l.rt x hx1
      exact ⟨by rw [upd_ne hx2]; exact rx.gp, M.st_same rx.at' sG⟩
  have s1 : Same (upd G p (.lst xs)) H := fun a o e => by
    by_cases c : a = p
    · subst c; rw [upd_same] at e; cases e; exact e1
    · rw [upd_ne c] at e; exact s a o e
  have E1 : Env (upd G p (.lst xs)) σ (ρ.set i (some (.lst es))) := by
    refine ⟨by rw [List.length_set]; exact E.len, fun j d hj => ?_⟩
    by_cases c : i = j
    · subst c
      rw [List.getElem?_set_self hlen] at hj
      cases hj
      obtain ⟨v, h1, h2⟩ := E.at' i _ hi
      cases (show v = V.ref p from h2)
      exact ⟨_, h1, p, xs, rfl, upd_same, e2.mono sG⟩
    · rw [List.getElem?_set_ne c] at hj
      obtain ⟨v, h1, h2⟩ := E.at' j d hj
      exact ⟨v, h1, h2.mono sG⟩
  refine h σ _ H l1 E1 s1 Q fun p2 ys H' G' g hp2 hp2' gp2 r2 => ?_
  have keep : ∀ a o, minus G' [p] a = some o → a ≠ p ∧ G' a = some o := fun a o e => by
    obtain ⟨h1, h2⟩ := minus_some e
    exact ⟨fun z => h1 (by rw [z]; exact List.mem_singleton.mpr rfl), h2⟩
  have at1 : ∀ a, a ≠ p → minus G' [p] a = G' a := fun a c => minus_out fun z => c (List.mem_singleton.mp z)
  have at0 : minus G' [p] p = none := minus_in (List.mem_singleton.mpr rfl)
  refine q p2 ys H' (minus G' [p]) ⟨g.ex, fun a o e => ?_, fun a o e => g.sub a o (keep a o e).2, fun a o e n => ?_, fun a o u e => ?_⟩ hp2 hp2' ?_ (r2.grd hg)
  · have c : a ≠ p := fun z => by rw [z, gp] at e; cases e
    rw [at1 a c]
    exact g.gx a o (sG a o e)
  · by_cases c : a = p
    · subst c; rw [at0, gp]
    · rw [at1 a c, g.old a o e n, upd_ne c]
  · obtain ⟨c, e'⟩ := keep a _ e
    have := g.lk a o u e'
    rw [upd_ne c] at this
    exact this
  · by_cases c : p2 = p
    · subst c; exact at0
    · rw [at1 p2 c]; exact gp2
end
/-! ### what hands back what may change -/
def NewG {γ : Type} (lk : Bool) (n : Nat) (Pre : γ → List D → Prop) (Post : γ → D → List (Addr × M) → Prop) : Sp := fun vs H Q _ => vs.length = n ∧ ∃ G ds g, Lk ⟨lk, []⟩ G H ∧ Same G H ∧ Reps G ds vs ∧ Pre g ds ∧
  ∀ d ms' v H' G', Post g d ms' → Gr H G H' G' → Rep G' d v → (∀ x ∈ ms', Root G' H' x.1 x.2 ∧ H x.1 = none) → Q v H'
section
variable {B : Bs} {b : Bx} {ρ : Ro} {ta : TA} {P : Po} {lk : Bool} {n : Nat} {γ : Type} {Pre : γ → List D → Prop} {Post : γ → D → List (Addr × M) → Prop}
def Bx.news (b : Bx) (ms : List (Addr × M)) : Bx := ⟨b.fl, ms ++ b.rt⟩
theorem ex_callN {ds : List D} {E0 : XK} (gh : γ) (ha : EvA b ta ρ ds) (hn : ds.length = n) (hp : Pre gh ds) (hl : lk = true → b.fl = true) (q : ∀ d ms', Post gh d ms' → (∀ x ∈ ms', Fre b x.1) → P (b.news ms') d) :
    EvX B (tCall (NewG lk n Pre Post) [] E0 ta) b ρ P := fun σ G H o Q k =>
  ha σ G H o.lk o.env o.sub _ fun vs H1 G1 g1 r1 => by
    have o1 := o.go g1
    refine ⟨by rw [List.append_nil, ← r1.length, hn], G1, ds, gh, o1.lk.less hl (fun _ z => nomatch z), o1.sub, by rw [List.append_nil]; exact r1, hp, fun d ms' v H2 G2 hR g2 r2 hr => ?_⟩
    have o2 := o1.go g2
    refine k _ d v G2 H2 (q d ms' hR fun x hx => o1.fre (hr x hx).2) (g1.gx.trans g2.gx) ⟨o2.gr, ⟨o2.lk.fl, fun x hx => ?_⟩, o2.env, fun x hx => ?_⟩ r2
    · rcases List.mem_append.mp hx with h | h
      · exact (hr x h).1
      · exact o2.lk.rt x h
    · rcases List.mem_append.mp hx with h | h
      · exact o1.gr.ex.free (hr x h).2
      · exact o2.new x h
end
theorem body_okN {lk : Bool} {n : Nat} {γ : Type} {Pre : γ → List D → Prop} {Post : γ → D → List (Addr × M) → Prop} {N : List Str} {vs : List V} {H : Hp} {Q : VK} {E : XK} {t : TS} (h : NewG lk n Pre Post vs H Q E)
    (k : ∀ g ds, ds.length = n → Pre g ds → ∀ B, Stm B t ⟨lk, []⟩ (ro0 N ds) ⟨fun _ _ => False, fun b d => ∃ ms', Post g d ms' ∧ ∀ x ∈ ms', x ∈ b.rt, fun _ _ => False, fun _ _ => False⟩) :
    t { nx := fun _ H' => Q .non H', rt := Q } (start N vs) H := by
  obtain ⟨hn, G, ds, gh, l, s, r, hp, q⟩ := h
  have o : Ok ⟨H, G⟩ ⟨lk, []⟩ (start N vs) (ro0 N ds) G H := ⟨.refl s, l, Env.start r, fun x hx => nomatch hx⟩
  refine k gh ds (r.length.trans hn) hp _ _ G H _ o (fun _ _ _ _ _ z => z.elim) (fun b' d' v σ' ρ' G' H' ⟨ms', e, hm⟩ s' o' r' => ?_) (fun _ _ _ _ _ z => z.elim) (fun _ _ _ _ _ z => z.elim)
  exact q d' ms' v H' G' e o'.gr r' fun x hx => ⟨o'.lk.rt x (hm x hx), o'.new x (hm x hx)⟩
end Sh
set_option Elab.async false
set_option linter.all false
set_option maxRecDepth 100000
/-! ShZ2: the script, which is no object of ours; tests with effects. -/
namespace Sh
open PySem L2
/-- the script: known to its object, or an object of the module -/
def Scr (K : PySem.W.Frag) (H : Hp) (a : Addr) (xs : List V) : Prop := (∃ o, H a = some (.frz o (.lst xs))) ∨ ∀ H' : Hp, SqL K H' a xs
theorem Scr.same {K : PySem.W.Frag} {H H' : Hp} {a : Addr} {xs : List V} (h : Scr K H a xs) (s : Same H H') : Scr K H' a xs := by
  rcases h with ⟨o, e⟩ | h
  · exact .inl ⟨o, s _ _ e⟩
  · exact .inr h
theorem Scr.of {K : PySem.W.Frag} {H : Hp} {a : Addr} {xs : List V} (hO : ∀ b, H b = none ∨ ∃ o ys, H b = some (.frz o (.lst ys))) (h : SqL K H a xs) : Scr K H a xs := by
  rcases h with (h | ⟨o, h⟩) | h
  · rcases hO a with z | ⟨o, ys, z⟩
    · rw [h] at z; cases z
    · rw [h] at z; cases z
  · exact .inl ⟨o, h⟩
  · exact .inr fun _ => .inr h
theorem Scr.part {K : PySem.W.Frag} {H G : Hp} {a : Addr} {xs : List V} (h : Scr K H a xs) (s : Same G H) : ∃ Gc, Same Gc H ∧ SqL K Gc a xs ∧ ∀ H' G', Gr H Gc H' G' → ∃ G'', Gr H G H' G'' ∧ Tr G' G'' ∧ ∀ p, H p = none → G' p = none → G'' p = none := by
  rcases h with ⟨o, e⟩ | h
  · refine ⟨upd G a (.frz o (.lst xs)), fun x ob ex => ?_, .inl (.inr ⟨o, upd_same⟩), fun H' G' g => ⟨fun x => if x = a then G x else G' x, ?_, ?_, ?_⟩⟩
    · by_cases c : x = a
      · subst c; rw [upd_same] at ex; cases ex; exact e
      · rw [upd_ne c] at ex; exact s x ob ex
    · have at1 : ∀ x, x ≠ a → (if x = a then G x else G' x) = G' x := fun x c => if_neg c
      refine ⟨g.ex, fun x ob ex => ?_, fun x ob ex => ?_, fun x ob ex n => ?_, fun x ob u ex => ?_⟩
      · show (if x = a then G x else G' x) = _
        by_cases c : x = a
        · rw [if_pos c]; exact ex
        · rw [if_neg c]; exact g.gx x ob (by rw [upd_ne c]; exact ex)
      · have ex : (if x = a then G x else G' x) = some ob := ex
        by_cases c : x = a
        · rw [if_pos c] at ex; exact g.ex x ob (s x ob ex)
        · rw [if_neg c] at ex; exact g.sub x ob ex
      · show (if x = a then G x else G' x) = G x
        by_cases c : x = a
        · rw [if_pos c]
        · rw [if_neg c, g.old x ob ex n, upd_ne c]
      · have ex : (if x = a then G x else G' x) = some (.frz ob u) := ex
        by_cases c : x = a
        · rw [if_pos c] at ex; exact ex
        · rw [if_neg c] at ex
          have := g.lk x ob u ex
          rw [upd_ne c] at this
          exact this
    · have ga : G' a = some (.frz o (.lst xs)) := g.gx a _ upd_same
      have ne : ∀ x ob, G' x = some ob → ob ≠ .frz o (.lst xs) → (if x = a then G x else G' x) = some ob := fun x ob ex n => by
        by_cases c : x = a
        · subst c
          rw [ga] at ex
          cases ex
          exact absurd rfl n
        · rw [if_neg c]; exact ex
      refine ⟨fun x ys ex => ne x _ ex (fun z => nomatch z), fun x ys ex => ne x _ ex (fun z => nomatch z), fun x C dx ys ex => ne x _ ex (fun z => nomatch z), fun x ys ex => ?_, fun x ys ex => ?_⟩
      · rcases ex with ex | ⟨ob, ex⟩
        · exact .inl (ne x _ ex (fun z => nomatch z))
        · exact .inr ⟨ob, ne x _ ex (fun z => nomatch z)⟩
      · rcases ex with ex | ⟨ob, ex⟩
        · exact .inl (ne x _ ex (fun z => nomatch z))
        · exact .inr ⟨ob, ne x _ ex (fun z => nomatch z)⟩
    · intro p hp gp
      have c : p ≠ a := fun z => by rw [z, e] at hp; cases hp
      show (if p = a then G p else G' p) = none
      rw [if_neg c]; exact gp
  · exact ⟨G, s, h G, fun H' G' g => ⟨G', g, ⟨fun _ _ e => e, fun _ _ e => e, fun _ _ _ _ e => e, fun _ _ e => e, fun _ _ e => e⟩, fun _ _ e => e⟩⟩
/-- what is handed the script hands back what may change -/
def NewS (K : PySem.W.Frag) (Post : List Int → D → List (Addr × M) → Prop) : Sp := fun vs H Q _ => ∃ (a : Addr) (ns : List Int) (G : Hp), vs = [.ref a] ∧ ns.length ≤ 63 ∧ Same G H ∧ SqL K G a (ns.map V.int) ∧
  ∀ d ms' v H' G', Post ns d ms' → Gr H G H' G' → Rep G' d v → (∀ x ∈ ms', Root G' H' x.1 x.2 ∧ H x.1 = none) → Q v H'
section
variable {B : Bs} {b : Bx} {ρ : Ro} {te : TE} {tt : TT} {P P1 : Po} {K : PySem.W.Frag} {i : Nat} {a : Addr} {ns : List Int} {Post : List Int → D → List (Addr × M) → Prop} {wi : TI} {g : TG} {vs : List Nat}
theorem ex_callS {E0 : XK} (hB : Scr K B.H0 a (ns.map V.int)) (h0 : ρ[i]? = some (some (.ref a))) (hn : ns.length ≤ 63) (q : ∀ d ms', Post ns d ms' → (∀ x ∈ ms', Fre b x.1) → P (b.news ms') d) :
    EvX B (tCall (NewS K Post) [] E0 (tCons (tVar i) tNil)) b ρ P := fun σ G H o Q k => by
  obtain ⟨v, h1, h2⟩ := o.env.at' i _ h0
  cases (show v = V.ref a from h2)
  obtain ⟨Gc, s1, sq, back⟩ := (hB.same o.gr.ex).part o.sub
  refine ⟨_, h1, a, ns, Gc, rfl, hn, s1, sq, fun d ms' v H' G' hp g r hr => ?_⟩
  obtain ⟨G'', g2, t, out⟩ := back H' G' g
  have o2 := o.go g2
  refine k _ d v G'' H' (q d ms' hp fun x hx => o.fre (hr x hx).2) g2.gx ⟨o2.gr, ⟨o2.lk.fl, fun x hx => ?_⟩, o2.env, fun x hx => ?_⟩ (r.tr t)
  · rcases List.mem_append.mp hx with h | h
    · obtain ⟨h3, h4⟩ := hr x h
      exact ⟨out _ h4 h3.gp, M.st_tr h3.at' t⟩
    · exact o2.lk.rt x h
  · rcases List.mem_append.mp hx with h | h
    · exact o.gr.ex.free (hr x h).2
    · exact o2.new x h
theorem sx_scr {P : Bx → List D → Prop} (hG : SqL K B.G0 a (ns.map V.int)) (h0 : ρ[i]? = some (some (.ref a))) (q : P b (ns.map D.int)) : SrcX B (iList K (tVar i)) b ρ P := fun σ G H o R k => by
  obtain ⟨v, h1, h2⟩ := o.env.at' i _ h0
  cases (show v = V.ref a from h2)
  have gq : SqL K G a (ns.map V.int) := o.gr.gx.seq hG
  refine ⟨_, h1, a, rfl, ⟨_, o.sub.seq gq⟩, k b _ (Itl K a) G H q (Same.refl G) o ⟨fun j G2 H2 e s hj => ?_, fun G2 H2 e s => ?_, fun j G2 H2 x H3 e s hj y => ?_⟩⟩
  · exact walk_list.goes j H2 (by simpa using hj) (s.seq (e.seq gq))
  · have := walk_list.stops H2 (s.seq (e.seq gq))
    simpa using this
  · obtain ⟨e1, e2⟩ := walk_list.yields j H2 x H3 (by simpa using hj) (s.seq (e.seq gq)) y
    subst e1
    rw [List.getElem?_map] at e2
    cases hc : ns[j]? with
    | none => rw [hc] at e2; cases e2
    | some n =>
      rw [hc] at e2
      cases e2
      exact ⟨G2, .int n, .refl s, by rw [List.getElem?_map, hc]; rfl, rfl⟩
/-- a comprehension whose source has effects; the new list may change -/
theorem ex_lcXN {α : Type} {enc : α → D} {c : α → Bool} {f : α → D} {P1 : Bx → List D → Prop} (hs : SrcX B wi b ρ P1)
    (q : ∀ b' ds, P1 b' ds → ∃ xs : List α, ds = xs.map enc ∧ xs.length ≤ 1000 ∧ (∀ x ∈ xs, LcT b' g tt te vs ρ (enc x) (c x) (f x)) ∧ ∀ p, Fre b' p → P (b'.add p (.lst ((xs.filter c).map f))) (.ref p)) : EvX B (tLc wi g tt te vs) b ρ P := fun σ G H o Q k =>
  hs σ G H o _ fun b1 ds J G1 H1 p1 s1 o1 S => by
    obtain ⟨xs, rfl, hn, turn, q⟩ := q b1 ds p1
    intro Dl hD
    refine lc_run S o1.lk o1.env o1.sub hD hn turn fun H2 G2 ys g2 gD hD2 r2 => ?_
    exact k _ (.ref Dl) _ G2 _ (q Dl (o1.fre hD)) (s1.trans g2.gx) (o1.add g2 hD gD ⟨ys, hD2, r2⟩) rfl
theorem RN.rd {r : R2} {x y : D} {zs : List D} (h : RN b r x y zs) : RD b r x y (.lst zs) := fun G H u v l s r1 r2 Q q => h G H u v l s r1 r2 Q fun p xs H' G' g hp hp' gp r => q (.ref p) H' (upd G' p (.lst xs)) (g.freeze hp hp' gp) ⟨p, xs, rfl, upd_same, r.mono (same_upd gp)⟩
/-- if not e, e with effects, true -/
theorem sm_ifNotX {ts tw tz : TS} {P : Po4} (h : EvX B te b ρ P1) (k : ∀ b' d, P1 b' d → d = .bl true ∧ Stm B (tSeq tw tz) b' ρ P) : Stm B (tSeq (tIfS (tNot (tTest te)) ts tw) tz) b ρ P := fun σ G H D o n r kk c =>
  h σ G H o _ fun b' d v G' H' hq s o' rr => by
    obtain ⟨e, hk⟩ := k b' d hq
    clear hq
    subst e
    refine ⟨true, rr, ?_⟩
    exact hk σ G' H' D o' (fun b2 ρ2 σ2 G2 H2 q2 s2 => n b2 ρ2 σ2 G2 H2 q2 (s.trans s2)) (fun b2 d2 v2 σ2 ρ2 G2 H2 q2 s2 => r b2 d2 v2 σ2 ρ2 G2 H2 q2 (s.trans s2)) (fun b2 ρ2 σ2 G2 H2 q2 s2 => kk b2 ρ2 σ2 G2 H2 q2 (s.trans s2)) (fun b2 ρ2 σ2 G2 H2 q2 s2 => c b2 ρ2 σ2 G2 H2 q2 (s.trans s2))
end
theorem body_okS {K : PySem.W.Frag} {Post : List Int → D → List (Addr × M) → Prop} {N : List Str} {vs : List V} {H : Hp} {Q : VK} {E : XK} {t : TS} (h : NewS K Post vs H Q E)
    (k : ∀ (a : Addr) (ns : List Int) (B : Bs), ns.length ≤ 63 → SqL K B.G0 a (ns.map V.int) → Stm B t ⟨false, []⟩ (ro0 N [.ref a]) ⟨fun _ _ => False, fun b d => ∃ ms', Post ns d ms' ∧ ∀ x ∈ ms', x ∈ b.rt, fun _ _ => False, fun _ _ => False⟩) :
    t { nx := fun _ H' => Q .non H', rt := Q } (start N vs) H := by
  obtain ⟨a, ns, G, rfl, hn, s, sq, q⟩ := h
  have o : Ok ⟨H, G⟩ ⟨false, []⟩ (start N [.ref a]) (ro0 N [.ref a]) G H := ⟨.refl s, ⟨(fun z => by cases z), (fun x hx => nomatch hx)⟩, Env.start (.one rfl), fun x hx => nomatch hx⟩
  refine k a ns ⟨H, G⟩ hn sq _ G H _ o (fun _ _ _ _ _ z => z.elim) (fun b' d' v σ' ρ' G' H' ⟨ms', e, hm⟩ s' o' r' => ?_) (fun _ _ _ _ _ z => z.elim) (fun _ _ _ _ _ z => z.elim)
  exact q d' ms' v H' G' e o'.gr r' fun x hx => ⟨o'.lk.rt x (hm x hx), o'.new x (hm x hx)⟩
/-- the law: a script is handed in, True comes out -/
def spLaw (K : PySem.W.Frag) : Sp := fun vs H Q _ => ∃ (a : Addr) (ns : List Int), vs = [.ref a] ∧ Scr K H a (ns.map V.int) ∧ ns.length ≤ 63 ∧ ∀ H', Q (.bl true) H'
theorem body_okL {K : PySem.W.Frag} {N : List Str} {vs : List V} {H : Hp} {Q : VK} {E : XK} {t : TS} (h : spLaw K vs H Q E)
    (k : ∀ (a : Addr) (ns : List Int) (B : Bs), ns.length ≤ 63 → Scr K B.H0 a (ns.map V.int) → Stm B t ⟨true, []⟩ (ro0 N [.ref a]) ⟨fun _ _ => False, fun _ d => d = .bl true, fun _ _ => False, fun _ _ => False⟩) :
    t { nx := fun _ H' => Q .non H', rt := Q } (start N vs) H := by
  obtain ⟨a, ns, rfl, sc, hn, q⟩ := h
  have s : Same (fun _ => none) H := fun _ _ e => by cases e
  have o : Ok ⟨H, fun _ => none⟩ ⟨true, []⟩ (start N [.ref a]) (ro0 N [.ref a]) (fun _ => none) H := ⟨.refl s, ⟨(fun _ _ _ _ e => by cases e), (fun x hx => nomatch hx)⟩, Env.start (.one rfl), fun x hx => nomatch hx⟩
  refine k a ns ⟨H, fun _ => none⟩ hn sc _ _ H _ o (fun _ _ _ _ _ z => z.elim) (fun b' d' v σ' ρ' G' H' e s' o' r' => ?_) (fun _ _ _ _ _ z => z.elim) (fun _ _ _ _ _ z => z.elim)
  subst e
  rw [show v = V.bl true from r']
  exact q H'
end Sh
set_option Elab.async false
set_option linter.all false
set_option maxRecDepth 100000
/-! Pl: the text's data as D's: words, rows, graphs. -/
namespace Sh
open PySem L2
theorem sizeOk {n : Nat} (h : n ≤ 1000) : n ≤ sizeLine := Nat.le_of_lt (small1000 h)
/-- the signs of a text, each as a text -/
def chars (z : Str) : List Str := z.cps.toList.map fun c => ⟨#[c]⟩
def RowOk (z : Str) : Prop := ∀ c ∈ chars z, c ∈ signs
def strsD (ws : List Str) : List D := ws.map .str
def sD (ws : List Str) : D := .lst (ws.map .str)
def tl1 (w : Str) : Str := cutS w (some 1) none
def it1 (w : Str) : Str := cutS w none (some (-1))
def nexts (W : List Str) (w : Str) : List Str := W.filter fun o => decide (it1 o = tl1 w)
def lasts (W : List Str) (w : Str) : List Str := W.filter fun o => decide (tl1 o = it1 w)
/-- the words of a row -/
def wordsS (row : Str) (k : Nat) : List Str := (List.range (row.length + 1 - k)).map fun (i : Nat) => cutS row (some (i : Int)) (some ((i : Int) + k))
/-- words as the graph takes them -/
structure GoodW (W : List Str) (k : Nat) : Prop where
  ne : W ≠ []
  nd : W.Nodup
  row : ∀ w ∈ W, RowOk w
  len : ∀ w ∈ W, w.length = k
  size : k = 3 ∨ k = 5 ∨ k = 7
  few : W.length ≤ 30
def gFs (W : List Str) : List (Str × D) := [("every", .tup (W.map .str)), ("nexts", .dK (W.map fun w => (Sum.inr w, sD (nexts W w)))), ("lasts", .dK (W.map fun w => (Sum.inr w, sD (lasts W w))))]
def gD (C : Addr) (W : List Str) : D := .ins C (gFs W)
/-- classes: attributes that no class has -/
structure Cl (K : PySem.W.Frag) (C : Addr) (fs : List Str) : Prop where
  cls : Cls K C
  no : ∀ f ∈ fs, NoAttr K C f
/-- what len of a sequence asks -/
def rLenQ (K : PySem.W.Frag) : List V → Hp → VK → Prop := fun xs H Q => ∃ p ys, xs = [.ref p] ∧ (SqL K H p ys ∨ SqT K H p ys) ∧ Q (.int ys.length) H
theorem rc_lenQ {b : Bx} {K : PySem.W.Frag} {ds : List D} : RC b (rLenQ K) [.lst ds] (.int ds.length) := fun G H us l s r Q q => by
  obtain ⟨v, rfl, a, xs, rfl, h2, h3⟩ := r.one'
  exact ⟨a, xs, rfl, .inl (SqL.of (s _ _ h2)), by rw [← h3.length]; exact q _ H G (.refl s) rfl⟩
theorem fund_ok {P : Program} {w : World} {K : PySem.W.Frag} {mg : Str → Option Value} {base : Heap} {x qual : Str} {st : Stmt} {dvs : List V} {f : Addr} {fd : FuncData} {N ps : List Str} {k : Nat} {sp : Sp} (F : FunD K x qual (defArgs st) (defBody st) (defScope st) dvs [] f fd) (S : FnScope N ps (defScope st)) (len : ∀ vs H Q E, sp vs H Q E → vs.length = ps.length)
    (hbody : ∀ (cdv : Value) (A : Around) (outer : List PySem.Env) (s : Shared) (H : Hp) (vs : List V) (Q : VK) (E : XK), Room k (A.deeper (PyProof.Rows.envOfC qual (defScope st) s.heap.objs.size f cdv)) → sp vs H Q E →
      ∃ t, PSs (cxOf CX0 P w K mg base N qual (defScope st) f cdv A outer s H E).nox (defBody st) t ∧ t { nx := fun _ H' => Q .non H', rt := Q } (start N vs) H) : FnOk P w K mg base CX0 (k + 1) f fd ps sp := by
  refine F.ok S len fun cdv A outer s H vs Q E hr hsp => ?_
  obtain ⟨t, h, q⟩ := hbody cdv A outer s H vs Q E hr hsp
  exact ⟨t, h.nox, q⟩
theorem rc_isiTL {b : Bx} {K : PySem.W.Frag} {xs : List D} : RC b (rIsiT K) [.lst xs, .tup [.ty "list", .ty "tuple"]] (.bl true) := fun G H us l s r Q q => by
  obtain ⟨v, w, rfl, h1, h2⟩ := r.two'
  obtain ⟨a, ys, rfl, h3, h4⟩ := h2
  obtain ⟨u1, u2, rfl, rfl, rfl⟩ := h4.two'
  refine ⟨v, a, _, _, [.type "list", .type "tuple"], true, rfl, s _ _ h3, .cons (.ty _) (.cons (.ty _) .nil), rep_ty' rfl rfl s h1, kitAny_cons (b := true) (kit_ty rfl) (fun z => nomatch z) (fun _ => rfl), q _ H G (.refl s) rfl⟩
end Sh
set_option Elab.async false
set_option linter.all false
set_option maxRecDepth 100000
set_option maxHeartbeats 4000000
/-! WA: rows, and the graph's simple defs. -/
namespace Sh
open PySem L2
local macro_rules | `(tactic| walk_at "ev1") => `(tactic| first
  | (with_reducible apply ev_var); rfl
  | with_reducible exact ev_int
  | with_reducible exact ev_str
  | with_reducible exact ev_bl
  | with_reducible exact ev_non
  | with_reducible exact ev_ty
  | with_reducible apply ev_op
  | with_reducible apply ev_cb
  | with_reducible apply ea_cons
  | with_reducible exact ea_nil
  | with_reducible exact rd_I0 rfl
  | with_reducible exact rd_I0b rfl
  | with_reducible apply rd_I rfl
  | with_reducible exact rd_eqI
  | with_reducible exact rd_neI
  | with_reducible exact rd_eqS
  | with_reducible exact rd_neS
  | with_reducible exact rd_isN
  | with_reducible exact rd_notN
  | with_reducible exact rd_fst
  | with_reducible exact rd_snd
  | with_reducible exact rc_lenL
  | with_reducible exact rc_lenT
  | with_reducible apply rc_lenS
  | with_reducible exact rc_intB
  | with_reducible exact rc_min
  | with_reducible exact rc_all
  | with_reducible exact rc_any
  | with_reducible apply ev_slS
  | with_reducible exact eo_none
  | with_reducible apply eo_some
  | with_reducible apply et_test
  | with_reducible apply et_B
  | with_reducible apply et_not
  | with_reducible apply ev_notV
  | (with_reducible apply ev_un); rotate_left; rfl)
local macro_rules | `(tactic| walk_at "ev") => `(tactic| repeat' walk_at "ev1")
section
variable {P : Program} {w : World} {K : PySem.W.Frag} {mg : Str → Option Value} {base : Heap}
/-! is_number -/
abbrev s_is_number : Stmt := (topS 9)
abbrev N_is_number : List Str := ["thing"]
theorem sc_is_number : FnScope N_is_number ["thing"] (defScope s_is_number) := ⟨rfl, rfl, rfl, by decide +kernel, rfl, by decide +kernel, by decide +kernel⟩
def R_is_number : List D → D → Prop := fun ds d => ∃ n : Int, ds = [.int n] ∧ d = .bl true
theorem ok_is_number {f : Addr} {fd : FuncData} (F : Fun K "is_number" "is_number" s_is_number f fd) (T : Bu K w mg) : FnOk P w K mg base CX0 1 f fd ["thing"] (PureSp false 1 R_is_number) := by
  refine F.ok sc_is_number (fun vs H Q E h => h.1) (fun cdv A outer s H vs Q E hr h => ?_)
  have nd := sc_is_number.nd
  refine ⟨_, (pss_one (ps_ret (pe_and (pe_callB call_isi (by rfl) T.n_isinstance (by decide +kernel) (pa_cons (pv 0) (pa_cons (pe_bltn (v := .ty "int") (by rfl) T.n_int (by decide +kernel) rfl) pa_nil))) (pe_one (pe_not (pe_callB call_isi (by rfl) T.n_isinstance (by decide +kernel) (pa_cons (pv 0) (pa_cons (pe_bltn (v := .ty "bool") (by rfl) T.n_bool (by decide +kernel) rfl) pa_nil)))))))), ?_⟩
  refine body_ok h fun ds d hn hR => ?_
  obtain ⟨n, rfl, rfl⟩ := hR
  refine st_ret (Ev.is (ev_andV (c1 := true) (c2 := true) ?_ fun _ => ?_) rfl)
  · walk_at "ev"
    exact rc_isi rfl rfl rfl
  · refine Ev.is (ev_notV (c := false) ?_) rfl
    walk_at "ev"
    exact rc_isi rfl rfl rfl
/-! is_list -/
abbrev s_is_list : Stmt := (topS 10)
abbrev N_is_list : List Str := ["thing"]
theorem sc_is_list : FnScope N_is_list ["thing"] (defScope s_is_list) := ⟨rfl, rfl, rfl, by decide +kernel, rfl, by decide +kernel, by decide +kernel⟩
def R_is_list : List D → D → Prop := fun ds d => ∃ xs : List D, ds = [.lst xs] ∧ d = .bl true
theorem ok_is_list {f : Addr} {fd : FuncData} (F : Fun K "is_list" "is_list" s_is_list f fd) (T : Bu K w mg) : FnOk P w K mg base CX0 1 f fd ["thing"] (PureSp false 1 R_is_list) := by
  refine F.ok sc_is_list (fun vs H Q E h => h.1) (fun cdv A outer s H vs Q E hr h => ?_)
  have nd := sc_is_list.nd
  refine ⟨_, (pss_one (ps_ret (pe_callB call_isiT (by rfl) T.n_isinstance (by decide +kernel) (pa_cons (pv 0) (pa_cons (pe_tup (pa_cons (pe_bltn (v := .ty "list") (by rfl) T.n_list (by decide +kernel) rfl) (pa_cons (pe_bltn (v := .ty "tuple") (by rfl) T.n_tuple (by decide +kernel) rfl) pa_nil))) pa_nil))))), ?_⟩
  refine body_ok h fun ds d hn hR => ?_
  obtain ⟨xs, rfl, rfl⟩ := hR
  refine st_ret (ev_cb (ea_cons (ev_var rfl) (ea_cons (ev_tup (ea_cons ev_ty (ea_cons ev_ty ea_nil)) (by decide)) ea_nil)) rc_isiTL)
/-! is_row -/
abbrev s_is_row : Stmt := (topS 11)
abbrev N_is_row : List Str := ["thing", "sign"]
theorem sc_is_row : FnScope N_is_row ["thing"] (defScope s_is_row) := ⟨rfl, rfl, rfl, by decide +kernel, rfl, by decide +kernel, by decide +kernel⟩
def R_is_row : List D → D → Prop := fun ds d => ∃ z : Str, ds = [.str z] ∧ RowOk z ∧ z.length ≤ 900 ∧ d = .bl true
theorem ok_is_row {f : Addr} {fd : FuncData} (F : Fun K "is_row" "is_row" s_is_row f fd) (T : Bu K w mg) : FnOk P w K mg base CX0 1 f fd ["thing"] (PureSp false 1 R_is_row) := by
  refine F.ok sc_is_row (fun vs H Q E h => h.1) (fun cdv A outer s H vs Q E hr h => ?_)
  have nd := sc_is_row.nd
  refine ⟨_, (pss_one (ps_ret (pe_and (pe_callB call_isi (by rfl) T.n_isinstance (by decide +kernel) (pa_cons (pv 0) (pa_cons (pe_bltn (v := .ty "str") (by rfl) T.n_str (by decide +kernel) rfl) pa_nil))) (pe_one (pe_callB (cr_all rfl) (by rfl) T.n_all (by decide +kernel) (pa_cons (pe_lc (g := (gName 1)) (tt := tYes) (te := (tInK _ (tVar 1))) (own := [("sign", 1)]) rfl nd (pi_str (pv 0)) (blkOk_by (own := [("sign", 1)]) (N := N_is_row) (sc := (defScope s_is_row)) (by decide +kernel)) (fun _ _ _ _ _ => (pg_name (i := 1) nd rfl (Or.inl rfl))) (fun _ _ _ _ _ => pts_nil) (fun _ _ _ _ _ => (pe_cmp (pc_inK (by rfl) T.gPARTNERS (pv 1))))) pa_nil)))))), ?_⟩
  refine body_ok h fun ds d hn hR => ?_
  obtain ⟨z, rfl, hz, hl, rfl⟩ := hR
  refine st_ret (Ev.is (ev_andV (c1 := true) (c2 := true) ?_ fun _ => ?_) rfl)
  · walk_at "ev"
    exact rc_isi rfl rfl rfl
  · refine Ev.is (ev_cb (ea_cons (EvN.ev (EvN.is (evn_lcY (xs := chars z) (enc := .str) (f := fun _ => .bl true) (Src.is (src_str (zt := z) ?_) ?_) ?_ fun c hc => ?_) (es := ((chars z).map fun _ => true).map D.bl) ?_)) ea_nil) rc_all) ?_
    · walk_at "ev"
    · simp [chars]
    · rw [chars, List.length_map]
      exact Nat.le_trans hl (by decide)
    · refine lct (tg_name (by decide)) et_yes fun _ => ?_
      exact ev_inKd (by walk_at "ev") (hz c hc)
    · simp
    · simp
/-! need_row -/
abbrev s_need_row : Stmt := (topS 12)
abbrev N_need_row : List Str := ["thing", "least"]
theorem sc_need_row : FnScope N_need_row ["thing", "least"] (defScope s_need_row) := ⟨rfl, rfl, rfl, by decide +kernel, rfl, by decide +kernel, by decide +kernel⟩
def R_need_row : List D → D → Prop := fun ds d => ∃ (z : Str) (n : Nat), ds = [.str z, .int n] ∧ RowOk z ∧ n ≤ z.length ∧ z.length ≤ 900 ∧ d = .non
theorem ok_need_row {f : Addr} {fd : FuncData} (F : FunD K "need_row" "need_row" (defArgs s_need_row) (defBody s_need_row) (defScope s_need_row) [.int 0] [] f fd) (T : Bu K w mg) (F_is_row : Fn P w K mg base 1 "is_row" ["thing"] (PureSp false 1 R_is_row)) : FnOk P w K mg base CX0 2 f fd ["thing", "least"] (PureSp false 2 R_need_row) := by
  refine fund_ok F sc_need_row (fun vs H Q E h => h.1) (fun cdv A outer s H vs Q E hr h => ?_)
  have nd := sc_need_row.nd
  refine ⟨_, (pss_one (ps_if (PW.pt (pw_or (pt_not (pt_val (pe_fn F_is_row (hr.mono (by decide)) rfl (pa_cons (pv 0) pa_nil)))) (pw_or1 (pt_cmpR op_lt (pe_callB call_len_str (by rfl) T.n_len (by decide +kernel) (pa_cons (pv 0) pa_nil)) (pv 1) (nomark _))))) (pss_one ps_never) pss_nil)), ?_⟩
  refine body_okP h fun ds d hn hR B => ?_
  obtain ⟨z, n, rfl, hz, hl, hs, rfl⟩ := hR
  refine sm_last (sm_if (cc := false) ?_ (fun z => by cases z) fun _ => sm_unit (sm_next rfl))
  refine EvT.is (et_or (c1 := false) (c2 := false) (EvT.is (et_not (c := true) (et_test (ev_call (ea_cons (ev_var rfl) ea_nil) rfl ⟨z, rfl, hz, hs, rfl⟩ (fun z => by cases z)))) rfl) fun _ => ?_) rfl
  refine et_test ?_
  refine Ev.is (ev_op (ev_cb (ea_cons (ev_var rfl) ea_nil) (rc_lenS (sizeOk (by omega)))) (ev_var rfl) (rd_I0b rfl)) ?_
  congr 1
  simp
  omega
/-! is_size -/
abbrev s_is_size : Stmt := (topS 13)
abbrev N_is_size : List Str := ["thing"]
theorem sc_is_size : FnScope N_is_size ["thing"] (defScope s_is_size) := ⟨rfl, rfl, rfl, by decide +kernel, rfl, by decide +kernel, by decide +kernel⟩
def R_is_size : List D → D → Prop := fun ds d => ∃ n : Nat, ds = [.int n] ∧ (n = 3 ∨ n = 5 ∨ n = 7) ∧ d = .bl true
theorem ok_is_size {f : Addr} {fd : FuncData} (F : Fun K "is_size" "is_size" s_is_size f fd) (T : Bu K w mg) (F_is_number : Fn P w K mg base 1 "is_number" ["thing"] (PureSp false 1 R_is_number)) : FnOk P w K mg base CX0 2 f fd ["thing"] (PureSp false 1 R_is_size) := by
  refine F.ok sc_is_size (fun vs H Q E h => h.1) (fun cdv A outer s H vs Q E hr h => ?_)
  have nd := sc_is_size.nd
  refine ⟨_, (pss_one (ps_ret (pe_and (pe_fn F_is_number (hr.mono (by decide)) rfl (pa_cons (pv 0) pa_nil)) (pe_one (pe_cmp (pc_inKT (by rfl) T.gSIZES (pv 0))))))), ?_⟩
  refine body_ok h fun ds d hn hR => ?_
  obtain ⟨n, rfl, hz, rfl⟩ := hR
  refine st_ret (Ev.is (ev_andV (c1 := true) (c2 := true) ?_ fun _ => ?_) rfl)
  · exact ev_call (ea_cons (ev_var rfl) ea_nil) rfl ⟨n, rfl, rfl⟩ (fun z => by cases z)
  · refine Ev.is (ev_inKT (ev_var rfl)) ?_
    rcases hz with rfl | rfl | rfl <;> rfl
/-! words_in -/
abbrev s_words_in : Stmt := (topS 14)
abbrev N_words_in : List Str := ["row", "k", "at"]
theorem sc_words_in : FnScope N_words_in ["row", "k"] (defScope s_words_in) := ⟨rfl, rfl, rfl, by decide +kernel, rfl, by decide +kernel, by decide +kernel⟩
def R_words_in : List D → D → Prop := fun ds d => ∃ (row : Str) (k : Nat), ds = [.str row, .int k] ∧ row.length ≤ 900 ∧ k ≤ row.length ∧ d = sD (wordsS row k)
theorem ok_words_in {f : Addr} {fd : FuncData} (F : Fun K "words_in" "words_in" s_words_in f fd) (T : Bu K w mg) : FnOk P w K mg base CX0 1 f fd ["row", "k"] (PureSp false 2 R_words_in) := by
  refine F.ok sc_words_in (fun vs H Q E h => h.1) (fun cdv A outer s H vs Q E hr h => ?_)
  have nd := sc_words_in.nd
  refine ⟨_, (pss_one (ps_ret (pe_lc (g := (gName 2)) (tt := tYes) (te := (tSl rSlS (tVar 0) (tPart (tVar 2)) (tPart (tOp _ (tVar 2) (tVar 1))))) (own := [("at", 2)]) rfl nd (pi_range1 (by rfl) T.n_range (pa_cons (pe_op op_add (pe_op op_sub (pe_callB call_len_str (by rfl) T.n_len (by decide +kernel) (pa_cons (pv 0) pa_nil)) (pv 1)) pe_int) pa_nil)) (blkOk_by (own := [("at", 2)]) (N := N_words_in) (sc := (defScope s_words_in)) (by decide +kernel)) (fun _ _ _ _ _ => (pg_name (i := 2) nd rfl (Or.inl rfl))) (fun _ _ _ _ _ => pts_nil) (fun _ _ _ _ _ => (pe_slice sl_str (pv 0) (po_some (pv 2)) (po_some (pe_op op_add (pv 2) (pv 1)))))))), ?_⟩
  refine body_ok h fun ds d hn hR => ?_
  obtain ⟨row, k, rfl, h1, h2, rfl⟩ := hR
  have hs : row.length ≤ sizeLine := sizeOk (by omega)
  refine st_ret (EvN.ev (EvN.is (evn_lcY (xs := List.range (row.length + 1 - k)) (enc := fun (i : Nat) => .int i) (f := fun i => .str (cutS row (some (i : Int)) (some ((i : Int) + k)))) (Src.is (src_rng1 (n := (row.length : Int) - k + 1) ?_ (by omega)) ?_) (by simp; omega) fun i hi => ?_) ?_))
  · walk_at "ev"
    all_goals assumption
  · congr 2
    omega
  · refine lct (tg_name (by decide)) et_yes fun _ => ?_
    walk_at "ev"
    all_goals assumption
  · simp [wordsS]
/-! is_word -/
abbrev s_is_word : Stmt := (topS 17)
abbrev N_is_word : List Str := ["thing", "k"]
theorem sc_is_word : FnScope N_is_word ["thing", "k"] (defScope s_is_word) := ⟨rfl, rfl, rfl, by decide +kernel, rfl, by decide +kernel, by decide +kernel⟩
def R_is_word : List D → D → Prop := fun ds d => ∃ (z : Str) (k : D), ds = [.str z, k] ∧ RowOk z ∧ (z.length = 3 ∨ z.length = 5 ∨ z.length = 7) ∧ (k = .non ∨ k = .int z.length) ∧ d = .bl true
theorem ok_is_word {f : Addr} {fd : FuncData} (F : Fun K "is_word" "is_word" s_is_word f fd) (T : Bu K w mg) (F_is_row : Fn P w K mg base 1 "is_row" ["thing"] (PureSp false 1 R_is_row)) (F_is_size : Fn P w K mg base 2 "is_size" ["thing"] (PureSp false 1 R_is_size)) : FnOk P w K mg base CX0 3 f fd ["thing", "k"] (PureSp false 2 R_is_word) := by
  refine F.ok sc_is_word (fun vs H Q E h => h.1) (fun cdv A outer s H vs Q E hr h => ?_)
  have nd := sc_is_word.nd
  refine ⟨_, (pss_one (ps_ret (pe_and (pe_fn F_is_row (hr.mono (by decide)) rfl (pa_cons (pv 0) pa_nil)) (pe_one (pe_ifExp (pt_cmpR op_isN (pv 1) pe_non (nomark _)) (pe_fn F_is_size (hr.mono (by decide)) rfl (pa_cons (pe_callB call_len_str (by rfl) T.n_len (by decide +kernel) (pa_cons (pv 0) pa_nil)) pa_nil)) (pe_cmpR op_eq (pe_callB call_len_str (by rfl) T.n_len (by decide +kernel) (pa_cons (pv 0) pa_nil)) (pv 1) (nomark _))))))), ?_⟩
  refine body_ok h fun ds d hn hR => ?_
  obtain ⟨z, k, rfl, hz, hl, hk, rfl⟩ := hR
  have hs : z.length ≤ sizeLine := sizeOk (by omega)
  refine st_ret (Ev.is (ev_andV (c1 := true) (c2 := true) ?_ fun _ => ?_) rfl)
  · exact ev_call (ea_cons (ev_var rfl) ea_nil) rfl ⟨z, rfl, hz, by omega, rfl⟩ (fun z => by cases z)
  · rcases hk with rfl | rfl
    · refine ev_if (c := true) (x := .bl true) (y := .bl true) ?_ (fun _ => ?_) (fun z => by cases z)
      · exact et_test (ev_op (ev_var rfl) ev_non rd_isN)
      · exact ev_call (ea_cons (ev_cb (ea_cons (ev_var rfl) ea_nil) (rc_lenS hs)) ea_nil) rfl ⟨z.length, rfl, hl, rfl⟩ (fun z => by cases z)
    · refine ev_if (c := false) (x := .bl true) (y := .bl true) ?_ (fun z => by cases z) (fun _ => ?_)
      · exact et_test (ev_op (ev_var rfl) ev_non rd_isN)
      · refine Ev.is (ev_op (ev_cb (ea_cons (ev_var rfl) ea_nil) (rc_lenS hs)) (ev_var rfl) rd_eqI) ?_
        simp
end
end Sh
set_option Elab.async false
set_option linter.all false
set_option maxRecDepth 100000
set_option maxHeartbeats 4000000
/-! WB: the graph. -/
namespace Sh
open PySem L2
local macro_rules | `(tactic| walk_at "ev1") => `(tactic| first
  | (with_reducible apply ev_var); rfl
  | with_reducible exact ev_int
  | with_reducible exact ev_str
  | with_reducible exact ev_bl
  | with_reducible exact ev_non
  | with_reducible exact ev_ty
  | with_reducible apply ev_op
  | with_reducible apply ev_cb
  | with_reducible apply ea_cons
  | with_reducible exact ea_nil
  | with_reducible exact rd_I0 rfl
  | with_reducible exact rd_I0b rfl
  | with_reducible apply rd_I rfl
  | with_reducible exact rd_eqI
  | with_reducible exact rd_neI
  | with_reducible exact rd_eqS
  | with_reducible exact rd_neS
  | with_reducible exact rd_isN
  | with_reducible exact rd_notN
  | with_reducible exact rd_fst
  | with_reducible exact rd_snd
  | with_reducible exact rc_lenL
  | with_reducible exact rc_lenT
  | with_reducible apply rc_lenS
  | with_reducible exact rc_intB
  | with_reducible exact rc_min
  | with_reducible exact rc_all
  | with_reducible exact rc_any
  | with_reducible apply ev_slS
  | with_reducible exact eo_none
  | with_reducible apply eo_some
  | with_reducible apply et_test
  | with_reducible apply et_B
  | with_reducible apply et_not
  | with_reducible apply ev_notV
  | (with_reducible apply ev_un); rotate_left; rfl)
local macro_rules | `(tactic| walk_at "ev") => `(tactic| repeat' walk_at "ev1")
section
variable {P : Program} {w : World} {K : PySem.W.Frag} {mg : Str → Option Value} {base : Heap}
/-! need_words -/
abbrev s_need_words : Stmt := (topS 18)
abbrev N_need_words : List Str := ["thing", "most", "size", "known", "at", "word"]
theorem sc_need_words : FnScope N_need_words ["thing", "most"] (defScope s_need_words) := ⟨rfl, rfl, rfl, by decide +kernel, rfl, by decide +kernel, by decide +kernel⟩
def R_need_words : List D → D → Prop := fun ds d => ∃ (W : List Str) (k : Nat), ds = [sD W, .int 40] ∧ GoodW W k ∧ d = .non
def knownD (ws : List Str) : List (Key × D) := ws.map fun w => (Sum.inr w, .bl true)
theorem known_none {ws : List Str} {w : Str} (h : w ∉ ws) : valD (knownD ws) (Sum.inr w) = none := by
  unfold valD knownD
  rw [List.find?_eq_none.mpr]
  · rfl
  · intro x hx
    obtain ⟨y, hy, rfl⟩ := List.mem_map.mp hx
    simp only [decide_eq_true_eq]
    exact fun e => h (Sum.inr.inj e ▸ hy)
theorem putD_none {κ : Type} [DecidableEq κ] {kvs : List (κ × D)} {k : κ} {d : D} (h : valD kvs k = none) : putD kvs k d = kvs ++ [(k, d)] := by
  unfold putD
  rw [if_neg]
  intro hc
  obtain ⟨x, hx, e⟩ := List.any_eq_true.mp hc
  unfold valD at h
  have : (kvs.find? fun kv => decide (kv.1 = k)) = none := by
    cases hf : kvs.find? fun kv => decide (kv.1 = k) with
    | none => rfl
    | some y => rw [hf] at h; cases h
  exact absurd e (by simpa using List.find?_eq_none.mp this x hx)
theorem ok_need_words {f : Addr} {fd : FuncData} (F : Fun K "need_words" "need_words" s_need_words f fd) (T : Bu K w mg) (F_is_list : Fn P w K mg base 1 "is_list" ["thing"] (PureSp false 1 R_is_list)) (F_is_word : Fn P w K mg base 3 "is_word" ["thing", "k"] (PureSp false 2 R_is_word)) : FnOk P w K mg base CX0 4 f fd ["thing", "most"] (PureSp false 2 R_need_words) := by
  refine F.ok sc_need_words (fun vs H Q E h => h.1) (fun cdv A outer s H vs Q E hr h => ?_)
  have nd := sc_need_words.nd
  have hu := hu_of hr
  refine ⟨_, (pss_cons (ps_if (PW.pt (pw_or (pt_not (pt_val (pe_fn F_is_list (hr.mono (by decide)) rfl (pa_cons (pv 0) pa_nil)))) (pw_or1 (pt_cmpR op_eq (pe_callB call_len_seq (by rfl) T.n_len (by decide +kernel) (pa_cons (pv 0) pa_nil)) pe_int (nomark _))))) (pss_one ps_never) pss_nil)
  (pss_cons (ps_set (i := 2) nd rfl (Or.inl rfl) pe_non)
  (pss_cons (ps_set (i := 3) nd rfl (Or.inl rfl) pe_dnewK)
  (pss_one (ps_for PassesOwn.never rfl (pi_enum (by rfl) T.n_enumerate (pa_cons (pv 0) pa_nil)) (pg_tup rfl (pgs_cons (pg_name (i := 4) nd rfl (Or.inl rfl)) (pgs_cons (pg_name (i := 5) nd rfl (Or.inl rfl)) pgs_nil))) (pss_cons (ps_if (PW.pt (pw_or (pt_not (pt_val (pe_fn F_is_word (hr.mono (by decide)) rfl (pa_cons (pv 5) (pa_cons (pv 2) pa_nil))))) (pw_or (pt_cmp (pc_din hu (pv 5) (pv 3))) (pw_or1 (pt_cmpR op_eq (pv 4) (pv 1) (nomark _)))))) (pss_one ps_never) pss_nil)
  (pss_cons (ps_dput hu (pv 3) (pv 5) pe_bl rfl)
  (pss_one (ps_set (i := 2) nd rfl (Or.inl rfl) (pe_callB call_len_str (by rfl) T.n_len (by decide +kernel) (pa_cons (pv 5) pa_nil))))))))))), ?_⟩
  refine body_okP h fun ds d hn hR B => ?_
  obtain ⟨W, k, rfl, g, rfl⟩ := hR
  have hne : W.length ≠ 0 := fun z => g.ne (List.length_eq_zero_iff.mp z)
  refine sm_if (cc := false) ?_ (fun z => by cases z) fun _ => ?_
  · refine EvT.is (et_or (c1 := false) (c2 := false) (EvT.is (et_not (c := true) (et_test (ev_call (ea_cons (ev_var rfl) ea_nil) rfl ⟨_, rfl, rfl⟩ (fun z => by cases z)))) rfl) fun _ => ?_) rfl
    refine et_test (Ev.is (ev_op (ev_cb (ea_cons (ev_var rfl) ea_nil) rc_lenL) ev_int rd_eqI) ?_)
    rw [decide_eq_false (by rw [List.length_map]; omega)]
  refine sm_unit (sm_set ev_non ?_)
  refine sm_setX (P1 := fun b' d' => ∃ p, b' = Bx.add ⟨false, []⟩ p (.dK []) ∧ d' = .ref p) (ex_dnewK fun p _ => ⟨p, rfl, rfl⟩) fun b' d' ⟨p, e1, e2⟩ => ?_
  subst e1 e2
  refine sm_last (sm_for (P2 := fun b' ds => b' = Bx.add ⟨false, []⟩ p (.dK []) ∧ ds = ((strsD W).zipIdx.map fun p => D.tup [.int (p.2 : Nat), p.1])) (sx_pure (src_enum (ea_cons (ev_var rfl) ea_nil)) ⟨rfl, rfl⟩) fun b1 ds ⟨e1, e2⟩ => ?_)
  subst e1 e2
  refine ⟨fun i b ρ => ∃ x y, b.fl = false ∧ (p, M.dK (knownD (W.take i))) ∈ b.rt ∧ ρ = [some (sD W), some (.int 40), some (if i = 0 then .non else .int k), some (.ref p), x, y], ⟨none, none, rfl, mem_add, rfl⟩, ?_, fun b ρ _ => sm_next rfl⟩
  rintro i b ρ ⟨x, y, hfl, hp, rfl⟩ d hd
  have hi : i < W.length := by
    have := (List.getElem?_eq_some_iff.mp hd).1
    simpa [strsD] using this
  have hd' : d = .tup [.int (i : Nat), .str W[i]] := by
    rw [List.getElem?_map, List.getElem?_zipIdx, strsD, List.getElem?_map, List.getElem?_eq_getElem hi] at hd
    simp at hd
    exact hd.symm
  subst hd'
  have hw := List.getElem_mem hi
  have hsz : (if i = 0 then D.non else .int k) = .non ∨ (if i = 0 then D.non else .int k) = .int ((W[i]).length : Nat) := by
    by_cases c : i = 0
    · exact .inl (if_pos c)
    · exact .inr (by rw [if_neg c, g.len _ hw])
  have hnot : W[i] ∉ W.take i := fun hc => by
    have h1 := g.nd
    rw [← List.take_append_drop i W, List.nodup_append] at h1
    exact h1.2.2 _ hc _ (by rw [List.drop_eq_getElem_cons hi]; exact List.mem_cons_self) rfl
  refine ⟨_, _, tg_pair (vs := [4, 5]) (by decide) (by decide), ?_⟩
  refine sm_if (cc := false) ?_ (fun z => by cases z) fun _ => ?_
  · refine EvT.is (et_or (c1 := false) (c2 := false) (EvT.is (et_not (c := true) (et_test (ev_call (ea_cons (ev_var rfl) (ea_cons (ev_var rfl) ea_nil)) rfl ⟨W[i], _, rfl, g.row _ hw, by rw [g.len _ hw]; exact g.size, hsz, rfl⟩ (fun z => by cases z)))) rfl) fun _ => ?_) rfl
    refine EvT.is (et_or (c1 := false) (c2 := false) (et_test (ev_inKR (k := Sum.inr W[i]) (ev_var rfl) (ev_var rfl) hp (by rw [known_none hnot]; rfl))) fun _ => ?_) rfl
    refine et_test (Ev.is (ev_op (ev_var rfl) (ev_var rfl) rd_eqI) ?_)
    have := g.few
    rw [decide_eq_false (by omega)]
  refine sm_unit (sm_dputK (k := Sum.inr W[i]) (P1 := fun b' d' => b' = b ∧ d' = .bl true) (ex_pure ev_bl ⟨rfl, rfl⟩) fun b' x' ⟨e1, e2⟩ => ?_)
  subst e1 e2
  refine ⟨p, _, ev_var rfl, ev_var rfl, hp, by simp [knownD]; have := g.few; omega, ?_⟩
  refine sm_last (sm_set (ev_cb (ea_cons (ev_var rfl) ea_nil) (rc_lenS (sizeOk (by rw [g.len _ hw]; have := g.size; omega)))) (sm_next ?_))
  refine ⟨some (.int (i : Nat)), some (.str W[i]), hfl, ?_, ?_⟩
  · have e : knownD (W.take (i + 1)) = putD (knownD (W.take i)) (Sum.inr W[i]) (.bl true) := by
      rw [putD_none (known_none hnot), List.take_add_one, List.getElem?_eq_getElem hi]
      unfold knownD
      rw [List.map_append]
      rfl
    rw [e]
    exact mem_put hp
  · rw [if_neg (Nat.succ_ne_zero i), g.len _ hw]
    rfl
/-! Graph.__init__ -/
abbrev s_Graph_init : Stmt := (inClass (topS 19) 0)
abbrev N_Graph_init : List Str := ["self", "words", "word", "other"]
theorem sc_Graph_init : FnScope N_Graph_init ["self", "words"] (defScope s_Graph_init) := ⟨rfl, rfl, rfl, by decide +kernel, rfl, by decide +kernel, by decide +kernel⟩
def SortedU (W : List Str) : Prop := ∀ ys : List Str, ys.Perm W → PyProof.Rows.sortedS ys = true → ys = W
def Pre_Graph (C : Addr) : List D → List (Addr × M) → Prop := fun ds ms => ∃ x W k, ds = [.ref x, sD W] ∧ ms = [(x, .ins C [])] ∧ GoodW W k ∧ SortedU W
def Post_Graph (C : Addr) : List D → List (Addr × M) → D → List (Addr × M) → Prop := fun ds ms d ms' => ∃ x W, ds = [.ref x, sD W] ∧ d = .non ∧ ms' = [(x, .ins C (gFs W))]
def gFlds : List Str := ["every", "nexts", "lasts"]
theorem nodup_inj {α β : Type} {f : α → β} (hf : ∀ a b, f a = f b → a = b) {l : List α} (h : l.Nodup) : (l.map f).Nodup := by
  induction l with
  | nil => exact List.nodup_nil
  | cons a l ih =>
    rw [List.nodup_cons] at h
    rw [List.map_cons, List.nodup_cons]
    refine ⟨fun hm => ?_, ih h.2⟩
    obtain ⟨b, hb, e⟩ := List.mem_map.mp hm
    exact h.1 (hf _ _ e ▸ hb)
theorem mkD_words {W : List Str} {f : Str → D} (h : W.Nodup) : mkD (W.map fun w => ((Sum.inr w : Key), f w)) = W.map fun w => (Sum.inr w, f w) := by
  refine mkD_eq ?_
  rw [List.map_map]
  exact nodup_inj (fun _ _ e => Sum.inr.inj e) h
theorem goodW_len {W : List Str} {k : Nat} (g : GoodW W k) {z : Str} (h : z ∈ W) : z.length ≤ sizeLine := sizeOk (by rw [g.len _ h]; have := g.size; omega)
theorem ok_Graph_init {C : Addr} (cl : Cl K C gFlds) {f : Addr} {fd : FuncData} (F : Fun K "__init__" "Graph.__init__" s_Graph_init f fd) (T : Bu K w mg) (F_need_words : Fn P w K mg base 4 "need_words" ["thing", "most"] (PureSp false 2 R_need_words)) : FnOk P w K mg base CX0 5 f fd ["self", "words"] (MutSp false 2 (Pre_Graph C) (Post_Graph C)) := by
  refine F.ok sc_Graph_init (fun vs H Q E h => h.1) (fun cdv A outer s H vs Q E hr h => ?_)
  have nd := sc_Graph_init.nd
  have hu := hu_of hr
  refine ⟨_, (pss_cons (ps_expr (pe_fn F_need_words (hr.mono (by decide)) rfl (pa_cons (pv 1) (pa_cons (pe_const (by rfl) T.gMOST) pa_nil))))
  (pss_cons (ps_fld (pv 0) (pe_callTy call_tuple_of (by rfl) T.n_tuple (by decide +kernel) (pa_cons (pe_callB cr_sortedS (by rfl) T.n_sorted (by decide +kernel) (pa_cons (pv 1) pa_nil)) pa_nil)) rfl)
  (pss_cons (ps_fld (pv 0) (pe_dc (g := (gName 2)) (tt := tYes) (tk := (tVar 2)) (tv := (tLc (iTup _ (tFld _ (tVar 0) _)) (gName 3) (tTest (tOp _ (tSl rSlS (tVar 3) tNoPart (tPart (tUn _ (tC _)))) (tSl rSlS (tVar 2) (tPart (tC _)) tNoPart))) (tVar 3) _)) (own := [("word", 2)]) rfl nd (pi_tup (pe_fld (pv 0) rfl)) (blkOk_by (own := [("word", 2)]) (N := N_Graph_init) (sc := (defScope s_Graph_init)) (by decide +kernel)) (fun _ _ _ _ _ => (pg_name (i := 2) nd rfl (Or.inr rfl))) (fun _ _ _ _ _ => pts_nil) (fun _ _ _ _ _ => (pv 2)) (fun _ _ _ _ _ => (pe_lc (g := (gName 3)) (tt := (tTest (tOp _ (tSl rSlS (tVar 3) tNoPart (tPart (tUn _ (tC _)))) (tSl rSlS (tVar 2) (tPart (tC _)) tNoPart)))) (te := (tVar 3)) (own := [("other", 3)]) rfl nd (pi_tup (pe_fld (pv 0) rfl)) (blkOk_by (own := [("other", 3)]) (N := N_Graph_init) (sc := (relS _ (defScope s_Graph_init))) (by decide +kernel)) (fun _ _ _ _ _ => (pg_name (i := 3) nd rfl (Or.inl rfl))) (fun _ _ _ _ _ => (pts_one (pt_cmpR op_eq (pe_slice sl_str (pv 3) po_none (po_some (pe_un un_neg pe_int))) (pe_slice sl_str (pv 2) (po_some pe_int) po_none) (nomark _)))) (fun _ _ _ _ _ => (pv 3))))) rfl)
  (pss_one (ps_fld (pv 0) (pe_dc (g := (gName 2)) (tt := tYes) (tk := (tVar 2)) (tv := (tLc (iTup _ (tFld _ (tVar 0) _)) (gName 3) (tTest (tOp _ (tSl rSlS (tVar 3) (tPart (tC _)) tNoPart) (tSl rSlS (tVar 2) tNoPart (tPart (tUn _ (tC _)))))) (tVar 3) _)) (own := [("word", 2)]) rfl nd (pi_tup (pe_fld (pv 0) rfl)) (blkOk_by (own := [("word", 2)]) (N := N_Graph_init) (sc := (defScope s_Graph_init)) (by decide +kernel)) (fun _ _ _ _ _ => (pg_name (i := 2) nd rfl (Or.inr rfl))) (fun _ _ _ _ _ => pts_nil) (fun _ _ _ _ _ => (pv 2)) (fun _ _ _ _ _ => (pe_lc (g := (gName 3)) (tt := (tTest (tOp _ (tSl rSlS (tVar 3) (tPart (tC _)) tNoPart) (tSl rSlS (tVar 2) tNoPart (tPart (tUn _ (tC _))))))) (te := (tVar 3)) (own := [("other", 3)]) rfl nd (pi_tup (pe_fld (pv 0) rfl)) (blkOk_by (own := [("other", 3)]) (N := N_Graph_init) (sc := (relS _ (defScope s_Graph_init))) (by decide +kernel)) (fun _ _ _ _ _ => (pg_name (i := 3) nd rfl (Or.inl rfl))) (fun _ _ _ _ _ => (pts_one (pt_cmpR op_eq (pe_slice sl_str (pv 3) (po_some pe_int) po_none) (pe_slice sl_str (pv 2) po_none (po_some (pe_un un_neg pe_int))) (nomark _)))) (fun _ _ _ _ _ => (pv 3))))) rfl))))), ?_⟩
  refine body_okM h fun ds ms hn hP B => ?_
  obtain ⟨x, W, k, rfl, rfl, g, hso⟩ := hP
  have few := g.few
  have ne1 := cl.no "every" (by decide)
  have ne2 := cl.no "nexts" (by decide)
  have ne3 := cl.no "lasts" (by decide)
  have one : ∀ z ∈ W, decide (it1 z = tl1 z) = decide (it1 z = tl1 z) := fun _ _ => rfl
  refine sm_dropX (P1 := fun b' d' => b' = ⟨false, [(x, .ins C [])]⟩) (ex_pure (ev_call (ea_cons (ev_var rfl) (ea_cons ev_int ea_nil)) rfl ⟨W, k, rfl, g, rfl⟩ (fun z => by cases z)) rfl) fun b' d' e => ?_
  subst e
  refine sm_fld (P1 := fun b' d' => b' = ⟨false, [(x, .ins C [])]⟩ ∧ d' = .tup (W.map .str)) cl.cls ne1 (ex_pure (ev_cb (ea_cons (EvN.ev (evn_cb (ea_cons (ev_var rfl) ea_nil) (rcn_sortedS hso (by omega)))) ea_nil) rc_tupL) ⟨rfl, rfl⟩) fun b' x' ⟨e1, e2⟩ => ?_
  subst e1 e2
  refine ⟨x, [], ev_var rfl, List.mem_cons_self, by decide, ?_⟩
  have hp2 : (x, M.ins C [("every", D.tup (W.map .str))]) ∈ (Bx.put ⟨false, [(x, .ins C [])]⟩ x (.ins C (putFD "every" (.tup (W.map .str)) []))).rt := mem_put (m := .ins C []) List.mem_cons_self
  generalize Bx.put ⟨false, [(x, .ins C [])]⟩ x (.ins C (putFD "every" (.tup (W.map .str)) [])) = b2 at hp2
  refine sm_fld (P1 := fun b' d' => b' = b2 ∧ d' = .dK (W.map fun w => (Sum.inr w, sD (nexts W w)))) cl.cls ne2 (ex_pure (Ev.is (ev_dcK (xs := W) (enc := .str) (k := Sum.inr) (f := fun w => sD (nexts W w)) (src_tup (ev_fldR (ev_var rfl) hp2 cl.cls ne1 rfl)) (by omega) fun z hz => dct (tg_name (by decide)) (ev_var rfl) (EvN.ev (EvN.is (evn_lc (xs := W) (enc := .str) (c := fun o => decide (it1 o = tl1 z)) (f := .str) (src_tup (ev_fldR (ev_var rfl) hp2 cl.cls ne1 rfl)) (by omega) fun o ho => lct (tg_name (by decide)) (et_test (ev_op (ev_slS (ev_var rfl) eo_none (eo_some (ev_un ev_int rfl)) (goodW_len g ho)) (ev_slS (ev_var rfl) (eo_some ev_int) eo_none (goodW_len g hz)) rd_eqS)) fun _ => ev_var rfl) rfl))) (by rw [mkD_words g.nd])) ⟨rfl, rfl⟩) fun b' x' ⟨e1, e2⟩ => ?_
  subst e1 e2
  refine ⟨x, _, ev_var rfl, hp2, by simp, ?_⟩
  have hp3 : (x, M.ins C [("every", D.tup (W.map .str)), ("nexts", .dK (W.map fun w => (Sum.inr w, sD (nexts W w))))]) ∈ (Bx.put b' x (.ins C (putFD "nexts" (.dK (W.map fun w => (Sum.inr w, sD (nexts W w)))) [("every", .tup (W.map .str))]))).rt := mem_put hp2
  generalize Bx.put b' x (.ins C (putFD "nexts" (.dK (W.map fun w => (Sum.inr w, sD (nexts W w)))) [("every", .tup (W.map .str))])) = b3 at hp3
  refine sm_last (sm_fld (P1 := fun b' d' => b' = b3 ∧ d' = .dK (W.map fun w => (Sum.inr w, sD (lasts W w)))) cl.cls ne3 (ex_pure (Ev.is (ev_dcK (xs := W) (enc := .str) (k := Sum.inr) (f := fun w => sD (lasts W w)) (src_tup (ev_fldR (ev_var rfl) hp3 cl.cls ne1 rfl)) (by omega) fun z hz => dct (tg_name (by decide)) (ev_var rfl) (EvN.ev (EvN.is (evn_lc (xs := W) (enc := .str) (c := fun o => decide (tl1 o = it1 z)) (f := .str) (src_tup (ev_fldR (ev_var rfl) hp3 cl.cls ne1 rfl)) (by omega) fun o ho => lct (tg_name (by decide)) (et_test (ev_op (ev_slS (ev_var rfl) (eo_some ev_int) eo_none (goodW_len g ho)) (ev_slS (ev_var rfl) eo_none (eo_some (ev_un ev_int rfl)) (goodW_len g hz)) rd_eqS)) fun _ => ev_var rfl) rfl))) (by rw [mkD_words g.nd])) ⟨rfl, rfl⟩) fun b' x' ⟨e1, e2⟩ => ?_)
  subst e1 e2
  refine ⟨x, _, ev_var rfl, hp3, by simp, sm_next ⟨[(x, .ins C (gFs W))], ⟨x, W, rfl, rfl, rfl⟩, rfl, fun y hy => ?_⟩⟩
  rw [List.mem_singleton.mp hy]
  exact mem_put hp3
/-! Graph.size -/
abbrev s_Graph_size : Stmt := (inClass (topS 19) 1)
abbrev N_Graph_size : List Str := ["self"]
theorem sc_Graph_size : FnScope N_Graph_size ["self"] (defScope s_Graph_size) := ⟨rfl, rfl, rfl, by decide +kernel, rfl, by decide +kernel, by decide +kernel⟩
def R_Graph_size (C : Addr) : List D → D → Prop := fun ds d => ∃ W k, ds = [gD C W] ∧ GoodW W k ∧ d = .int (k : Nat)
theorem ok_Graph_size {C : Addr} (cl : Cl K C gFlds) {f : Addr} {fd : FuncData} (F : Fun K "size" "Graph.size" s_Graph_size f fd) (T : Bu K w mg) : FnOk P w K mg base CX0 1 f fd ["self"] (PureSp false 1 (R_Graph_size C)) := by
  refine F.ok sc_Graph_size (fun vs H Q E h => h.1) (fun cdv A outer s H vs Q E hr h => ?_)
  have nd := sc_Graph_size.nd
  refine ⟨_, (pss_one (ps_ret (pe_callB call_len_str (by rfl) T.n_len (by decide +kernel) (pa_cons (pe_ix ix_tup (pe_fld (pv 0) rfl) pe_int (fun _ _ => rfl)) pa_nil)))), ?_⟩
  refine body_ok h fun ds d hn hR => ?_
  obtain ⟨W, k, rfl, g, rfl⟩ := hR
  obtain ⟨z, W', rfl⟩ : ∃ z W', W = z :: W' := by
    cases W with
    | nil => exact absurd rfl g.ne
    | cons z W' => exact ⟨z, W', rfl⟩
  have e := g.len z List.mem_cons_self
  refine st_ret (Ev.is (ev_cb (ea_cons (ev_op (ev_fld (ev_var rfl) cl.cls (cl.no "every" (by decide)) rfl) ev_int (rd_ixT (d := .str z) (atI_nat (j := 0) rfl))) ea_nil) (rc_lenS (goodW_len g List.mem_cons_self))) ?_)
  rw [e]
/-! Graph.words -/
abbrev s_Graph_words : Stmt := (inClass (topS 19) 2)
abbrev N_Graph_words : List Str := ["self"]
theorem sc_Graph_words : FnScope N_Graph_words ["self"] (defScope s_Graph_words) := ⟨rfl, rfl, rfl, by decide +kernel, rfl, by decide +kernel, by decide +kernel⟩
def R_Graph_words (C : Addr) : List D → D → Prop := fun ds d => ∃ W, ds = [gD C W] ∧ d = sD W
theorem ok_Graph_words {C : Addr} (cl : Cl K C gFlds) {f : Addr} {fd : FuncData} (F : Fun K "words" "Graph.words" s_Graph_words f fd) (T : Bu K w mg) : FnOk P w K mg base CX0 1 f fd ["self"] (PureSp false 1 (R_Graph_words C)) := by
  refine F.ok sc_Graph_words (fun vs H Q E h => h.1) (fun cdv A outer s H vs Q E hr h => ?_)
  have nd := sc_Graph_words.nd
  refine ⟨_, (pss_one (ps_ret (pe_callTy call_list_of (by rfl) T.n_list (by decide +kernel) (pa_cons (pe_fld (pv 0) rfl) pa_nil)))), ?_⟩
  refine body_ok h fun ds d hn hR => ?_
  obtain ⟨W, rfl, rfl⟩ := hR
  exact st_ret (EvN.ev (evn_cb (ea_cons (ev_fld (ev_var rfl) cl.cls (cl.no "every" (by decide)) rfl) ea_nil) rcn_listT))
/-! Graph.need_word -/
abbrev s_Graph_need_word : Stmt := (inClass (topS 19) 3)
abbrev N_Graph_need_word : List Str := ["self", "word"]
theorem sc_Graph_need_word : FnScope N_Graph_need_word ["self", "word"] (defScope s_Graph_need_word) := ⟨rfl, rfl, rfl, by decide +kernel, rfl, by decide +kernel, by decide +kernel⟩
def R_Graph_need_word (C : Addr) : List D → D → Prop := fun ds d => ∃ W z, ds = [gD C W, .str z] ∧ z ∈ W ∧ d = .non
theorem valD_words {W : List Str} {f : Str → D} {z : Str} (h : z ∈ W) : valD (W.map fun w => ((Sum.inr w : Key), f w)) (Sum.inr z) = some (f z) := by
  induction W with
  | nil => cases h
  | cons y W ih =>
    unfold valD
    rw [List.map_cons, List.find?_cons]
    by_cases e : y = z
    · subst e; simp
    · have e' : ¬ ((Sum.inr y : Key) = Sum.inr z) := fun q => e (Sum.inr.inj q)
      simp only [decide_eq_false e']
      rcases List.mem_cons.mp h with rfl | h
      · exact absurd rfl e
      · exact ih h
theorem ok_Graph_need_word {C : Addr} (cl : Cl K C gFlds) {f : Addr} {fd : FuncData} (F : Fun K "need_word" "Graph.need_word" s_Graph_need_word f fd) (T : Bu K w mg) : FnOk P w K mg base CX0 1 f fd ["self", "word"] (PureSp false 2 (R_Graph_need_word C)) := by
  refine F.ok sc_Graph_need_word (fun vs H Q E h => h.1) (fun cdv A outer s H vs Q E hr h => ?_)
  have nd := sc_Graph_need_word.nd
  have hu := hu_of hr
  refine ⟨_, (pss_one (ps_if (PW.pt (pw_or (pt_not (pt_val (pe_callB call_isi (by rfl) T.n_isinstance (by decide +kernel) (pa_cons (pv 1) (pa_cons (pe_bltn (v := .ty "str") (by rfl) T.n_str (by decide +kernel) rfl) pa_nil))))) (pw_or1 (pt_cmp (pc_dnotin hu (pv 1) (pe_fld (pv 0) rfl)))))) (pss_one ps_never) pss_nil)), ?_⟩
  refine body_okP h fun ds d hn hR B => ?_
  obtain ⟨W, z, rfl, hz, rfl⟩ := hR
  refine sm_last (sm_if (cc := false) ?_ (fun z => by cases z) fun _ => sm_unit (sm_next rfl))
  refine EvT.is (et_or (c1 := false) (c2 := false) (EvT.is (et_not (c := true) (et_test ?_)) rfl) fun _ => ?_) rfl
  · walk_at "ev"
    exact rc_isi rfl rfl rfl
  · exact et_test (ev_ninK (k := Sum.inr z) (ev_var rfl) (ev_fld (ev_var rfl) cl.cls (cl.no "nexts" (by decide)) rfl) (by rw [valD_words hz]; rfl))
/-! Graph.behind -/
abbrev s_Graph_behind : Stmt := (inClass (topS 19) 4)
abbrev N_Graph_behind : List Str := ["self", "word"]
theorem sc_Graph_behind : FnScope N_Graph_behind ["self", "word"] (defScope s_Graph_behind) := ⟨rfl, rfl, rfl, by decide +kernel, rfl, by decide +kernel, by decide +kernel⟩
def R_Graph_behind (C : Addr) : List D → D → Prop := fun ds d => ∃ W z, ds = [gD C W, .str z] ∧ z ∈ W ∧ d = sD (nexts W z)
theorem ok_Graph_behind {C : Addr} (cl : Cl K C gFlds) {f : Addr} {fd : FuncData} (F : Fun K "behind" "Graph.behind" s_Graph_behind f fd) (T : Bu K w mg) (F_Graph_need_word : Me P w K mg base 1 C "need_word" ["self", "word"] (PureSp false 2 (R_Graph_need_word C))) : FnOk P w K mg base CX0 2 f fd ["self", "word"] (PureSp false 2 (R_Graph_behind C)) := by
  refine F.ok sc_Graph_behind (fun vs H Q E h => h.1) (fun cdv A outer s H vs Q E hr h => ?_)
  have nd := sc_Graph_behind.nd
  have hu := hu_of hr
  refine ⟨_, (pss_cons (ps_expr (pe_me F_Graph_need_word (pv 0) (hr.mono (by decide)) (pa_cons (pv 1) pa_nil)))
  (pss_one (ps_ret (pe_callTy call_list_of (by rfl) T.n_list (by decide +kernel) (pa_cons (pe_dget hu (pe_fld (pv 0) rfl) (pv 1) (fun _ _ => rfl)) pa_nil))))), ?_⟩
  refine body_ok h fun ds d hn hR => ?_
  obtain ⟨W, z, rfl, hz, rfl⟩ := hR
  refine st_drop (x := .non) (ev_meth (ev_var rfl) rfl (ea_cons (ev_var rfl) ea_nil) rfl ⟨W, z, rfl, hz, rfl⟩ (fun z => by cases z)) ?_
  exact st_ret (EvN.ev (evn_cb (ea_cons (ev_dgetK (k := Sum.inr z) (ev_fld (ev_var rfl) cl.cls (cl.no "nexts" (by decide)) rfl) (ev_var rfl) (valD_words hz)) ea_nil) rcn_listL))
end
end Sh
set_option Elab.async false
set_option linter.all false
set_option maxRecDepth 100000
set_option maxHeartbeats 4000000
/-! WC: reach, cut, need_asked. -/
namespace Sh
open PySem L2
local macro_rules | `(tactic| walk_at "ev1") => `(tactic| first
  | (with_reducible apply ev_var); rfl
  | with_reducible exact ev_int
  | with_reducible exact ev_str
  | with_reducible exact ev_bl
  | with_reducible exact ev_non
  | with_reducible exact ev_ty
  | with_reducible apply ev_op
  | with_reducible apply ev_cb
  | with_reducible apply ea_cons
  | with_reducible exact ea_nil
  | with_reducible exact rd_I0 rfl
  | with_reducible exact rd_I0b rfl
  | with_reducible apply rd_I rfl
  | with_reducible exact rd_eqI
  | with_reducible exact rd_neI
  | with_reducible exact rd_eqS
  | with_reducible exact rd_neS
  | with_reducible exact rd_isN
  | with_reducible exact rd_notN
  | with_reducible exact rd_fst
  | with_reducible exact rd_snd
  | with_reducible exact rc_lenL
  | with_reducible exact rc_lenT
  | with_reducible apply rc_lenS
  | with_reducible exact rc_intB
  | with_reducible exact rc_min
  | with_reducible exact rc_all
  | with_reducible exact rc_any
  | with_reducible apply ev_slS
  | with_reducible exact eo_none
  | with_reducible apply eo_some
  | with_reducible apply et_test
  | with_reducible apply et_B
  | with_reducible apply et_not
  | with_reducible apply ev_notV
  | (with_reducible apply ev_un); rotate_left; rfl)
local macro_rules | `(tactic| walk_at "ev") => `(tactic| repeat' walk_at "ev1")
/-- one step or more -/
inductive Rch (W : List Str) : Str → Str → Prop
  | one {a b} : b ∈ nexts W a → Rch W a b
  | more {a b c} : Rch W a b → c ∈ nexts W b → Rch W a c
def Conn (W : List Str) : Prop := ∀ a ∈ W, ∀ b ∈ W, Rch W a b
theorem nexts_sub {W : List Str} {a b : Str} (h : b ∈ nexts W a) : b ∈ W := (List.mem_filter.mp h).1
theorem nexts_len (W : List Str) (a : Str) : (nexts W a).length ≤ W.length := List.length_filter_le _ _
/-- the state of the search -/
structure Dfs (W : List Str) (z : Str) (ms L : List Str) : Prop where
  nd : ms.Nodup
  sub : ∀ m ∈ ms, m ∈ W
  sub2 : ∀ m ∈ L, m ∈ W
  beg : ∀ s ∈ nexts W z, s ∈ ms ∨ s ∈ L
  clo : ∀ m ∈ ms, ∀ s ∈ nexts W m, s ∈ ms ∨ s ∈ L
  len : L.length ≤ W.length * (ms.length + 1)
theorem nodup_le {α : Type} [DecidableEq α] : ∀ {l m : List α}, l.Nodup → (∀ x ∈ l, x ∈ m) → l.length ≤ m.length
  | [], _, _, _ => Nat.zero_le _
  | x :: l, m, h, s => by
    rw [List.nodup_cons] at h
    have hx := s x List.mem_cons_self
    have := nodup_le (m := m.erase x) h.2 fun y hy => (List.mem_erase_of_ne (fun e => h.1 (by rw [← e]; exact hy))).mpr (s y (List.mem_cons_of_mem _ hy))
    rw [List.length_erase_of_mem hx] at this
    have := List.length_pos_of_mem hx
    rw [List.length_cons]
    omega
theorem Dfs.all {W : List Str} {z : Str} {ms : List Str} (d : Dfs W z ms []) (hc : Conn W) (hz : z ∈ W) : ∀ o ∈ W, o ∈ ms := fun o ho => by
  have key : ∀ a b, Rch W a b → a = z → b ∈ ms := by
    intro a b r
    induction r with
    | one h => intro e; subst e; exact (d.beg _ h).resolve_right (fun z => by cases z)
    | more _ h ih => intro e; exact (d.clo _ (ih e) _ h).resolve_right (fun z => by cases z)
  exact key z o (hc z hz o ho) rfl
section
variable {P : Program} {w : World} {K : PySem.W.Frag} {mg : Str → Option Value} {base : Heap}
/-! Graph.reach -/
abbrev s_Graph_reach : Stmt := (inClass (topS 19) 6)
abbrev N_Graph_reach : List Str := ["self", "word", "met", "line", "one"]
theorem sc_Graph_reach : FnScope N_Graph_reach ["self", "word"] (defScope s_Graph_reach) := ⟨rfl, rfl, rfl, by decide +kernel, rfl, by decide +kernel, by decide +kernel⟩
def Pre_Graph_reach (C : Addr) : List D → List (Addr × M) → Prop := fun ds ms => ∃ W z k, ds = [gD C W, .str z] ∧ ms = [] ∧ z ∈ W ∧ GoodW W k ∧ Conn W
def Post_Graph_reach (C : Addr) : List D → List (Addr × M) → D → List (Addr × M) → Prop := fun ds ms d ms' => ∃ W z kvs, ds = [gD C W, .str z] ∧ ms' = [] ∧ d = .dK kvs ∧ ∀ o ∈ W, (valD kvs (Sum.inr o)).isSome = true
theorem ok_Graph_reach {C : Addr} (cl : Cl K C gFlds) {f : Addr} {fd : FuncData} (F : Fun K "reach" "Graph.reach" s_Graph_reach f fd) (T : Bu K w mg) : FnOk P w K mg base CX0 1 f fd ["self", "word"] (MutSp false 2 (Pre_Graph_reach C) (Post_Graph_reach C)) := by
  refine F.ok sc_Graph_reach (fun vs H Q E h => h.1) (fun cdv A outer s H vs Q E hr h => ?_)
  have nd := sc_Graph_reach.nd
  have hu := hu_of hr
  have hu0 := hr.units0
  refine ⟨_, (pss_cons (ps_set (i := 2) nd rfl (Or.inl rfl) pe_dnewK)
  (pss_cons (ps_set (i := 3) nd rfl (Or.inl rfl) (pe_callTy call_list_of (by rfl) T.n_list (by decide +kernel) (pa_cons (pe_dget hu (pe_fld (pv 0) rfl) (pv 1) (fun _ _ => rfl)) pa_nil)))
  (pss_cons (ps_while PassesOwn.never (pt_cmpR (op_neNil hu0) (pv 3) (pe_lst pa_nil) (nomark _)) (pss_cons (ps_set (i := 4) nd rfl (Or.inl rfl) (pe_bm0 PySem.F.plainAttrs_list PySem.F.slot_list_pop PySem.F.type_list_pop mt_pop (pv 3)))
  (pss_one (ps_if (pt_cmp (pc_dnotin hu (pv 4) (pv 2))) (pss_cons (ps_dput hu (pv 2) (pv 4) pe_bl rfl)
  (pss_one (ps_expr (pe_bm PySem.F.plainAttrs_list PySem.F.slot_list_extend PySem.F.type_list_extend mt_extend (pv 3) (pa_cons (pe_dget hu (pe_fld (pv 0) rfl) (pv 4) (fun _ _ => rfl)) pa_nil))))) pss_nil))))
  (pss_one (ps_ret (pv 2)))))), ?_⟩
  refine body_okM h fun ds ms hn hP B => ?_
  obtain ⟨W, z, k, rfl, rfl, hz, g, hc⟩ := hP
  have few := g.few
  have ne2 := cl.no "nexts" (by decide)
  refine sm_setX (P1 := fun b' d' => ∃ p, b' = Bx.add ⟨false, []⟩ p (.dK []) ∧ d' = .ref p) (ex_dnewK fun p _ => ⟨p, rfl, rfl⟩) fun b' d' ⟨p, e1, e2⟩ => ?_
  subst e1 e2
  refine sm_setN (ds := (nexts W z).map .str) (evn_cb (ea_cons (ev_dgetK (k := Sum.inr z) (ev_fld (ev_var rfl) cl.cls ne2 rfl) (ev_var rfl) (valD_words hz)) ea_nil) rcn_listL) fun q fq => ?_
  have hqp : p ≠ q := fq _ mem_add
  refine sm_while (fun m b ρ => ∃ ms L x, m = (W.length - ms.length) * (W.length + 1) + L.length ∧ b.fl = false ∧ (p, M.dK (knownD ms)) ∈ b.rt ∧ (q, M.lst (L.map .str)) ∈ b.rt ∧ Dfs W z ms L ∧ ρ = [some (gD C W), some (.str z), some (.ref p), some (.ref q), x]) _ ⟨[], nexts W z, none, rfl, rfl, mem_add_of mem_add, mem_add, ⟨List.nodup_nil, (fun m hm => nomatch hm), (fun m hm => nexts_sub hm), (fun s hs => .inr hs), (fun m hm => nomatch hm), by have := nexts_len W z; simpa using this⟩, rfl⟩ ?_
  rintro m b ρ ⟨ms, L, x, rfl, hfl, hp, hq, dfs, rfl⟩
  refine ⟨_, et_test (ev_op (ev_var rfl) (EvN.ev (evn_lst ea_nil (by decide))) (rd_nilR hq)), fun hcc => ?_, fun hcc => ?_⟩
  · -- a turn
    obtain ⟨L', o, rfl⟩ : ∃ L' o, L = L' ++ [o] := by
      rcases List.eq_nil_or_concat L with e | ⟨L', o, e⟩
      · subst e; simp at hcc
      · exact ⟨L', o, by simpa using e⟩
    rw [List.map_append] at hq
    have hoW := dfs.sub2 o (by simp)
    refine sm_setX (P1 := fun b' d' => b' = b.put q (.lst (L'.map .str)) ∧ d' = .str o) (ex_pop (ev_var rfl) hq ⟨rfl, rfl⟩) fun b' d' ⟨e1, e2⟩ => ?_
    subst e1 e2
    have hp1 : (p, M.dK (knownD ms)) ∈ (b.put q (.lst (L'.map .str))).rt := mem_put_ne hp hqp
    have hq1 : (q, M.lst (L'.map .str)) ∈ (b.put q (.lst (L'.map .str))).rt := mem_put hq
    have hfl1 : (b.put q (.lst (L'.map .str))).fl = false := hfl
    generalize b.put q (.lst (L'.map .str)) = b1 at hp1 hq1 hfl1 ⊢
    by_cases hin : o ∈ ms
    · refine sm_last (sm_if (cc := false) (et_test (ev_ninKR (k := Sum.inr o) (ev_var rfl) (ev_var rfl) hp1 (by rw [show valD (knownD ms) (Sum.inr o) = some (.bl true) from valD_words hin]; rfl))) (fun z => by cases z) fun _ => sm_unit (sm_next ?_))
      refine ⟨_, by simp, ms, L', some (.str o), rfl, hfl1, hp1, hq1, ⟨dfs.nd, dfs.sub, fun m hm => dfs.sub2 m (by simp [hm]), fun s hs => ?_, fun m hm s hs => ?_, ?_⟩, rfl⟩
      · rcases dfs.beg s hs with h | h
        · exact .inl h
        · rcases List.mem_append.mp h with h | h
          · exact .inr h
          · rw [List.mem_singleton.mp h]; exact .inl hin
      · rcases dfs.clo m hm s hs with h | h
        · exact .inl h
        · rcases List.mem_append.mp h with h | h
          · exact .inr h
          · rw [List.mem_singleton.mp h]; exact .inl hin
      · have := dfs.len
        simp at this
        omega
    · refine sm_last (sm_if (cc := true) (et_test (ev_ninKR (k := Sum.inr o) (ev_var rfl) (ev_var rfl) hp1 (by rw [known_none hin]; rfl))) (fun _ => ?_) (fun z => by cases z))
      have hml : ms.length + 1 ≤ W.length := by
        have := nodup_le (l := o :: ms) (m := W) (List.nodup_cons.mpr ⟨hin, dfs.nd⟩) fun y hy => by
          rcases List.mem_cons.mp hy with rfl | hy
          · exact hoW
          · exact dfs.sub y hy
        simpa using this
      have hLl := dfs.len
      rw [List.length_append] at hLl
      have hW2 : W.length * (ms.length + 1) ≤ 30 * 30 := Nat.mul_le_mul few (by omega)
      refine sm_assoc (sm_dputK (k := Sum.inr o) (P1 := fun b' d' => b' = b1 ∧ d' = .bl true) (ex_pure ev_bl ⟨rfl, rfl⟩) fun b' x' ⟨e1, e2⟩ => ?_)
      subst e1 e2
      refine ⟨p, _, ev_var rfl, ev_var rfl, hp1, by simp [knownD]; omega, ?_⟩
      have hp2 : (p, M.dK (knownD (ms ++ [o]))) ∈ (b'.put p (.dK (putD (knownD ms) (Sum.inr o) (.bl true)))).rt := by
        have e : knownD (ms ++ [o]) = putD (knownD ms) (Sum.inr o) (.bl true) := by rw [putD_none (known_none hin)]; simp [knownD]
        rw [e]; exact mem_put hp1
      have hq2 : (q, M.lst (L'.map .str)) ∈ (b'.put p (.dK (putD (knownD ms) (Sum.inr o) (.bl true)))).rt := mem_put_ne hq1 (fun z => hqp z.symm)
      have hfl2 : (b'.put p (.dK (putD (knownD ms) (Sum.inr o) (.bl true)))).fl = false := hfl1
      generalize b'.put p (.dK (putD (knownD ms) (Sum.inr o) (.bl true))) = b2 at hp2 hq2 hfl2 ⊢
      have hnl := nexts_len W o
      refine sm_dropX (P1 := fun b' d' => b' = b2.put q (.lst (L'.map .str ++ (nexts W o).map .str))) (ex_extend (ev_var rfl) (ev_dgetK (k := Sum.inr o) (ev_fld (ev_var rfl) cl.cls ne2 rfl) (ev_var rfl) (valD_words hoW)) hq2 (by simp at hLl ⊢; omega) rfl) fun b' d' e => ?_
      subst e
      refine sm_next ⟨_, ?_, ms ++ [o], L' ++ nexts W o, some (.str o), rfl, hfl2, mem_put_ne hp2 hqp, by rw [List.map_append]; exact mem_put hq2, ⟨?_, ?_, ?_, ?_, ?_, ?_⟩, rfl⟩
      · obtain ⟨a, ha⟩ : ∃ a, W.length - ms.length = a + 1 := ⟨W.length - ms.length - 1, by omega⟩
        have e2 : W.length - (ms ++ [o]).length = a := by rw [List.length_append]; simp; omega
        rw [ha, e2, Nat.succ_mul, List.length_append, List.length_append, List.length_singleton]
        omega
      · rw [List.nodup_append]
        exact ⟨dfs.nd, by simp, fun a ha c hc e => hin (by simp at hc; rw [← hc, ← e]; exact ha)⟩
      · intro m hm
        rcases List.mem_append.mp hm with h | h
        · exact dfs.sub m h
        · rw [List.mem_singleton.mp h]; exact hoW
      · intro m hm
        rcases List.mem_append.mp hm with h | h
        · exact dfs.sub2 m (by simp [h])
        · exact nexts_sub h
      · intro s hs
        rcases dfs.beg s hs with h | h
        · exact .inl (List.mem_append_left _ h)
        · rcases List.mem_append.mp h with h | h
          · exact .inr (List.mem_append_left _ h)
          · rw [List.mem_singleton.mp h]; exact .inl (by simp)
      · intro m hm s hs
        rcases List.mem_append.mp hm with hm | hm
        · rcases dfs.clo m hm s hs with h | h
          · exact .inl (List.mem_append_left _ h)
          · rcases List.mem_append.mp h with h | h
            · exact .inr (List.mem_append_left _ h)
            · rw [List.mem_singleton.mp h]; exact .inl (by simp)
        · rw [List.mem_singleton.mp hm] at hs
          exact .inr (List.mem_append_right _ hs)
      · simp only [List.length_append, List.length_singleton, Nat.mul_add, Nat.mul_one] at hLl ⊢
        omega
  · -- the end
    have e : L = [] := by
      cases L with
      | nil => rfl
      | cons => simp at hcc
    subst e
    refine sm_frz (i := 2) hp rfl (sm_ret (ev_var rfl) ⟨[], ⟨W, z, knownD ms, rfl, rfl, rfl, fun o ho => ?_⟩, rfl, (fun x hx => nomatch hx)⟩)
    rw [show valD (knownD ms) (Sum.inr o) = some (.bl true) from valD_words (dfs.all hc hz o ho)]
    rfl
theorem gD_inj {C : Addr} {W W' : List Str} (h : gD C W = gD C W') : W' = W := by
  unfold gD gFs at h
  simp only [D.ins.injEq, List.cons.injEq, Prod.mk.injEq, D.tup.injEq, true_and] at h
  exact ((List.map_inj_right (fun a b h => by cases h; rfl)).mp h.1).symm
theorem puts_nil {fl : Bool} {b'' : Bx} (pu : Puts ⟨fl, []⟩ [] b'') : b'' = ⟨fl, []⟩ := by
  obtain ⟨fl', rt⟩ := b''
  have h1 : fl' = fl := pu.fl
  have h2 : rt = [] := List.eq_nil_iff_forall_not_mem.mpr fun x hx => by rcases pu.sub x hx with h | h <;> cases h
  rw [h1, h2]
/-! Graph.cut -/
abbrev s_Graph_cut : Stmt := (inClass (topS 19) 7)
abbrev N_Graph_cut : List Str := ["self", "one", "met", "lone", "other"]
theorem sc_Graph_cut : FnScope N_Graph_cut ["self"] (defScope s_Graph_cut) := ⟨rfl, rfl, rfl, by decide +kernel, rfl, by decide +kernel, by decide +kernel⟩
def R_Graph_cut (C : Addr) : List D → D → Prop := fun ds d => ∃ W k, ds = [gD C W] ∧ GoodW W k ∧ Conn W ∧ d = .non
theorem ok_Graph_cut {C : Addr} (cl : Cl K C gFlds) {f : Addr} {fd : FuncData} (F : Fun K "cut" "Graph.cut" s_Graph_cut f fd) (T : Bu K w mg) (F_Graph_reach : Me P w K mg base 1 C "reach" ["self", "word"] (MutSp false 2 (Pre_Graph_reach C) (Post_Graph_reach C))) : FnOk P w K mg base CX0 2 f fd ["self"] (PureSp false 1 (R_Graph_cut C)) := by
  refine F.ok sc_Graph_cut (fun vs H Q E h => h.1) (fun cdv A outer s H vs Q E hr h => ?_)
  have nd := sc_Graph_cut.nd
  have hu := hu_of hr
  have hu0 := hr.units0
  refine ⟨_, (pss_cons (ps_for PassesOwn.never rfl (pi_tup (pe_fld (pv 0) rfl)) (pg_name (i := 1) nd rfl (Or.inl rfl)) (pss_cons (ps_set (i := 2) nd rfl (Or.inr rfl) (pe_me F_Graph_reach (pv 0) (hr.mono (by decide)) (pa_cons (pv 1) pa_nil)))
  (pss_cons (ps_setLc (i := 3) (g := (gName 4)) (tt := (tB (tDNotIn (tVar 4) (tVar 2)))) (te := (tVar 4)) (own := [("other", 4)]) rfl nd rfl rfl (sw_true rfl rfl rfl (by decide +kernel)) (pi_tup (pe_fld (pv 0) rfl)) (blkOk_by (own := [("other", 4)]) (N := N_Graph_cut) (sc := (defScope s_Graph_cut)) (by decide +kernel)) (fun _ _ _ _ _ => (pg_name (i := 4) nd rfl (Or.inl rfl))) (fun _ _ _ _ _ => (pts_one (pt_cmp (pc_dnotin hu (pv 4) (pv 2))))) (fun _ _ _ _ _ => (pv 4)))
  (pss_one (ps_if (pt_cmpR (op_neNil hu0) (pv 3) (pe_lst pa_nil) (nomark _)) (pss_one (ps_ret (pe_tup (pa_cons (pv 1) (pa_cons (pe_ix ix_list (pv 3) pe_int (fun _ _ => rfl)) pa_nil))))) pss_nil)))))
  (pss_one (ps_ret pe_non))), ?_⟩
  refine body_okP h fun ds d hn hR B => ?_
  obtain ⟨W, k, rfl, g, hc, rfl⟩ := hR
  have few := g.few
  have ne1 := cl.no "every" (by decide)
  refine sm_for (P2 := fun b' ds => b' = ⟨false, []⟩ ∧ ds = W.map .str) (sx_pure (src_tup (ev_fld (ev_var rfl) cl.cls ne1 rfl)) ⟨rfl, rfl⟩) fun b1 ds ⟨e1, e2⟩ => ?_
  subst e1 e2
  refine ⟨fun i b ρ => ∃ x y z, b.fl = false ∧ ρ = [some (gD C W), x, y, z, none], ⟨none, none, none, rfl, rfl⟩, ?_, ?_⟩
  · rintro i b ρ ⟨x, y, z, hfl, rfl⟩ d hd
    have hi : i < W.length := by
      have := (List.getElem?_eq_some_iff.mp hd).1
      simpa using this
    rw [List.getElem?_map, List.getElem?_eq_getElem hi] at hd
    cases hd
    have hw := List.getElem_mem hi
    refine ⟨_, _, tg_name (vs := [1]) (by decide), ?_⟩
    refine sm_setX (P1 := fun b' d' => b'.fl = false ∧ ∃ kvs, d' = .dK kvs ∧ ∀ o ∈ W, (valD kvs (Sum.inr o)).isSome = true) (ex_meth (P1 := fun b' ds => b'.fl = false ∧ ds = [.str W[i]]) (ev_var rfl) rfl (xa_pure (ea_cons (ev_var rfl) ea_nil) ⟨hfl, rfl⟩) ?m) ?k
    case m =>
      rintro b' ds ⟨e1, e2⟩
      subst e2
      refine ⟨rfl, [], (fun x hx => nomatch hx), ⟨W, W[i], k, rfl, rfl, hw, g, hc⟩, (fun z => by cases z), fun d ms' b'' hp ek pu => ?_⟩
      obtain ⟨W', z', kvs, e0, e2, e3, hk⟩ := hp
      have eW : W' = W := gD_inj (List.cons.inj e0).1
      subst eW e2
      exact ⟨pu.fl.trans e1, kvs, e3, hk⟩
    case k =>
      rintro b' d' ⟨e1, kvs, e2, hk⟩
      subst e2
      refine sm_setN (ds := []) ?_ fun q fq => ?_
      · refine EvN.is (evn_lc (xs := W) (enc := .str) (c := fun _ => false) (f := .str) (src_tup (ev_fld (ev_var rfl) cl.cls ne1 rfl)) (by omega) fun o ho => ?_) (by simp)
        exact lct (tg_name (by decide)) (et_B (ev_ninK (k := Sum.inr o) (ev_var rfl) (ev_var rfl) (by rw [hk o ho]; rfl))) (fun z => by cases z)
      · refine sm_last (sm_if (cc := false) ?_ (fun z => by cases z) fun _ => sm_unit (sm_next ?_))
        · exact EvT.is (et_test (ev_op (ev_var rfl) (EvN.ev (evn_lst ea_nil (by decide))) (rd_nilR (ds := []) mem_add))) rfl
        · exact ⟨_, _, _, e1, rfl⟩
  · rintro b ρ ⟨x, y, z, _, rfl⟩
    exact sm_ret ev_non rfl
/-! need_asked -/
abbrev s_need_asked : Stmt := (topS 21)
abbrev N_need_asked : List Str := ["graph", "row"]
theorem sc_need_asked : FnScope N_need_asked ["graph", "row"] (defScope s_need_asked) := ⟨rfl, rfl, rfl, by decide +kernel, rfl, by decide +kernel, by decide +kernel⟩
def R_need_asked (C : Addr) : List D → D → Prop := fun ds d => ∃ W k row, ds = [gD C W, .str row] ∧ GoodW W k ∧ Conn W ∧ RowOk row ∧ k ≤ row.length ∧ row.length ≤ 900 ∧ d = .non
theorem ok_need_asked {C : Addr} (cl : Cl K C gFlds) {f : Addr} {fd : FuncData} (F : Fun K "need_asked" "need_asked" s_need_asked f fd) (T : Bu K w mg) (F_need_row : Fn P w K mg base 2 "need_row" ["thing", "least"] (PureSp false 2 R_need_row)) (F_Graph_size : Me P w K mg base 1 C "size" ["self"] (PureSp false 1 (R_Graph_size C))) (F_Graph_cut : Me P w K mg base 2 C "cut" ["self"] (PureSp false 1 (R_Graph_cut C))) : FnOk P w K mg base CX0 3 f fd ["graph", "row"] (PureSp false 2 (R_need_asked C)) := by
  refine F.ok sc_need_asked (fun vs H Q E h => h.1) (fun cdv A outer s H vs Q E hr h => ?_)
  have nd := sc_need_asked.nd
  refine ⟨_, (pss_cons (ps_expr (pe_fn F_need_row (hr.mono (by decide)) rfl (pa_cons (pv 1) (pa_cons (pe_me0 F_Graph_size (pv 0) (hr.mono (by decide))) pa_nil))))
  (pss_one (ps_if (pt_cmpR op_notN (pe_me0 F_Graph_cut (pv 0) (hr.mono (by decide))) pe_non (nomark _)) (pss_one ps_never) pss_nil))), ?_⟩
  refine body_okP h fun ds d hn hR B => ?_
  obtain ⟨W, k, row, rfl, g, hc, hrow, hk, hl, rfl⟩ := hR
  refine sm_dropX (P1 := fun b' d' => b' = ⟨false, []⟩) (ex_pure (ev_call (ea_cons (ev_var rfl) (ea_cons (ev_meth (ev_var rfl) rfl ea_nil rfl ⟨W, k, rfl, g, rfl⟩ (fun z => by cases z)) ea_nil)) rfl ⟨row, k, rfl, hrow, hk, hl, rfl⟩ (fun z => by cases z)) rfl) fun b' d' e => ?_
  subst e
  refine sm_last (sm_if (cc := false) ?_ (fun z => by cases z) fun _ => sm_unit (sm_next rfl))
  exact et_test (ev_op (ev_meth (ev_var rfl) rfl ea_nil rfl ⟨W, k, rfl, g, hc, rfl⟩ (fun z => by cases z)) ev_non rd_notN)
end
end Sh
set_option Elab.async false
set_option linter.all false
/-! Ma: borders, plain. -/
namespace Sh
section
variable {α : Type} [DecidableEq α] {ws : List α} {m s t : Nat}
/-- the first s stand at the end of the first m -/
def Bord (ws : List α) (m s : Nat) : Prop := s ≤ m ∧ ∀ j, j < s → ws[j]? = ws[m - s + j]?
theorem Bord.self : Bord ws m m := ⟨Nat.le_refl _, fun j _ => by rw [Nat.sub_self, Nat.zero_add]⟩
theorem Bord.zero : Bord ws m 0 := ⟨Nat.zero_le _, fun j h => absurd h (Nat.not_lt_zero _)⟩
theorem Bord.trans (h1 : Bord ws m s) (h2 : Bord ws s t) : Bord ws m t := by
  refine ⟨Nat.le_trans h2.1 h1.1, fun j hj => ?_⟩
  have a := h1.1
  have c := h2.1
  rw [h2.2 j hj, h1.2 (s - t + j) (by omega)]
  congr 1
  omega
theorem Bord.down (h1 : Bord ws m s) (h2 : Bord ws m t) (h : t ≤ s) : Bord ws s t := by
  refine ⟨h, fun j hj => ?_⟩
  have a := h1.1
  rw [h2.2 j hj, h1.2 (s - t + j) (by omega)]
  congr 1
  omega
/-- the greatest border that is less -/
structure PB (ws : List α) (m b : Nat) : Prop where
  lt : b < m
  bord : Bord ws m b
  max : ∀ s, s < m → Bord ws m s → s ≤ b
instance (ws : List α) (m s : Nat) : Decidable (Bord ws m s) := inferInstanceAs (Decidable (s ≤ m ∧ ∀ j, j < s → ws[j]? = ws[m - s + j]?))
/-- ends at which w goes on -/
def On (ws : List α) (m : Nat) (w : α) (s : Nat) : Prop := Bord ws m s ∧ ws[s]? = some w
instance (ws : List α) (m : Nat) (w : α) (s : Nat) : Decidable (On ws m w s) := inferInstanceAs (Decidable (_ ∧ _))
/-- how far the beginning is read behind m and w -/
def soFar (ws : List α) (m : Nat) (w : α) : Nat := (((List.range (m + 1)).filter fun s => decide (On ws m w s)).getLast?.map (· + 1)).getD 0
theorem soFar_cases (ws : List α) (m : Nat) (w : α) : (∃ s, soFar ws m w = s + 1 ∧ On ws m w s ∧ ∀ t, On ws m w t → t ≤ s) ∨ (soFar ws m w = 0 ∧ ∀ t, ¬ On ws m w t) := by
  have key : ∀ n, (∃ s, (((List.range n).filter fun s => decide (On ws m w s)).getLast?.map (· + 1)).getD 0 = s + 1 ∧ On ws m w s ∧ ∀ t, t < n → On ws m w t → t ≤ s) ∨ ((((List.range n).filter fun s => decide (On ws m w s)).getLast?.map (· + 1)).getD 0 = 0 ∧ ∀ t, t < n → ¬ On ws m w t) := by
    intro n
    induction n with
    | zero => exact .inr ⟨rfl, fun t h => absurd h (Nat.not_lt_zero _)⟩
    | succ n ih =>
      rw [List.range_succ, List.filter_append]
      by_cases c : On ws m w n
      · rw [List.filter_cons, if_pos (by simpa using c)]
        refine .inl ⟨n, by simp, c, fun t ht _ => by omega⟩
      · rw [List.filter_cons, if_neg (by simpa using c), List.filter_nil, List.append_nil]
        rcases ih with ⟨s, h1, h2, h3⟩ | ⟨h1, h2⟩
        · refine .inl ⟨s, h1, h2, fun t ht o => ?_⟩
          by_cases e : t = n
          · subst e; exact absurd o c
          · exact h3 t (by omega) o
        · refine .inr ⟨h1, fun t ht o => ?_⟩
          by_cases e : t = n
          · subst e; exact c o
          · exact h2 t (by omega) o
  rcases key (m + 1) with ⟨s, h1, h2, h3⟩ | ⟨h1, h2⟩
  · exact .inl ⟨s, h1, h2, fun t o => h3 t (by have := o.1.1; omega) o⟩
  · exact .inr ⟨h1, fun t o => h2 t (by have := o.1.1; omega) o⟩
theorem soFar_is {w : α} (h : On ws m w s) (mx : ∀ t, On ws m w t → t ≤ s) : soFar ws m w = s + 1 := by
  rcases soFar_cases ws m w with ⟨t, e, o, mx2⟩ | ⟨_, n⟩
  · have a := mx t o
    have c := mx2 s h
    omega
  · exact absurd h (n s)
theorem soFar_no {w : α} (n : ∀ t, ¬ On ws m w t) : soFar ws m w = 0 := by
  rcases soFar_cases ws m w with ⟨t, e, o, _⟩ | ⟨e, _⟩
  · exact absurd o (n t)
  · exact e
theorem soFar_le (ws : List α) (m : Nat) (w : α) : soFar ws m w ≤ m + 1 := by
  rcases soFar_cases ws m w with ⟨s, e, o, _⟩ | ⟨e, _⟩
  · have := o.1.1; omega
  · omega
theorem soFar_le2 (ws : List α) (m : Nat) (w : α) : soFar ws m w ≤ ws.length := by
  rcases soFar_cases ws m w with ⟨s, e, o, _⟩ | ⟨e, _⟩
  · have := (List.getElem?_eq_some_iff.mp o.2).1; omega
  · omega
/-- what a search down the borders keeps -/
structure Down (ws : List α) (m : Nat) (w : α) (q : Nat) : Prop where
  b : Bord ws m q
  mx : ∀ t, On ws m w t → t ≤ q
theorem Down.self {w : α} : Down ws m w m := ⟨Bord.self, fun t o => o.1.1⟩
theorem Down.step {w : α} {q b : Nat} (d : Down ws m w q) (hq : ws[q]? ≠ some w) (p : PB ws q b) : Down ws m w b := by
  refine ⟨d.b.trans p.bord, fun t o => ?_⟩
  have h1 := d.mx t o
  have h2 : t ≠ q := fun e => hq (e ▸ o.2)
  exact p.max t (by omega) (d.b.down o.1 h1)
/-- where the search stops -/
theorem Down.stop {w : α} {q : Nat} (d : Down ws m w q) (h : q = 0 ∨ ws[q]? = some w) : soFar ws m w = q + (if ws[q]? = some w then 1 else 0) := by
  by_cases c : ws[q]? = some w
  · rw [if_pos c]
    exact soFar_is ⟨d.b, c⟩ d.mx
  · rw [if_neg c]
    have e := h.resolve_right c
    subst e
    refine soFar_no fun t o => ?_
    have := d.mx t o
    have e : t = 0 := by omega
    subst e
    exact c o.2
/-- the next border -/
theorem PB.next' {w : α} (hm : 1 ≤ m) (hw : ws[m]? = some w) {r : Nat} (hr : (∃ s, r = s + 1 ∧ s < m ∧ On ws m w s ∧ ∀ t, t < m → On ws m w t → t ≤ s) ∨ (r = 0 ∧ ∀ t, t < m → ¬ On ws m w t)) : PB ws (m + 1) r := by
  have up : ∀ s, s < m → On ws m w s → Bord ws (m + 1) (s + 1) := fun s hs o => by
    refine ⟨by omega, fun j hj => ?_⟩
    by_cases c : j < s
    · have := o.1.2 j c
      rw [this]
      congr 1
      omega
    · have e : j = s := by omega
      subst e
      rw [o.2, ← hw]
      congr 1
      omega
  have dn : ∀ s, s < m → Bord ws (m + 1) (s + 1) → On ws m w s := fun s hs h => by
    refine ⟨⟨by omega, fun j hj => ?_⟩, ?_⟩
    · rw [h.2 j (by omega)]
      congr 1
      omega
    · rw [h.2 s (by omega), ← hw]
      congr 1
      omega
  rcases hr with ⟨s, rfl, hs, o, mx⟩ | ⟨rfl, n⟩
  · refine ⟨by omega, up s hs o, fun t ht h => ?_⟩
    cases t with
    | zero => omega
    | succ t => have := mx t (by omega) (dn t (by omega) h); omega
  · refine ⟨by omega, Bord.zero, fun t ht h => ?_⟩
    cases t with
    | zero => omega
    | succ t => exact absurd (dn t (by omega) h) (n t (by omega))
/-- the search for the next border -/
structure DownP (ws : List α) (m : Nat) (w : α) (q : Nat) : Prop where
  lt : q < m
  b : Bord ws m q
  mx : ∀ t, t < m → On ws m w t → t ≤ q
theorem DownP.start {w : α} {b : Nat} (p : PB ws m b) : DownP ws m w b := ⟨p.lt, p.bord, fun t ht o => p.max t ht o.1⟩
theorem DownP.step {w : α} {q b : Nat} (d : DownP ws m w q) (hq : ws[q]? ≠ some w) (p : PB ws q b) : DownP ws m w b := by
  refine ⟨Nat.lt_trans p.lt d.lt, d.b.trans p.bord, fun t ht o => ?_⟩
  have h1 := d.mx t ht o
  have h2 : t ≠ q := fun e => hq (e ▸ o.2)
  exact p.max t (by omega) (d.b.down o.1 h1)
theorem DownP.stop {w : α} {q : Nat} (hm : 1 ≤ m) (hw : ws[m]? = some w) (d : DownP ws m w q) (h : q = 0 ∨ ws[q]? = some w) : PB ws (m + 1) (q + (if ws[q]? = some w then 1 else 0)) := by
  have nx : ∀ r, ((∃ s, r = s + 1 ∧ s < m ∧ On ws m w s ∧ ∀ t, t < m → On ws m w t → t ≤ s) ∨ (r = 0 ∧ ∀ t, t < m → ¬ On ws m w t)) → PB ws (m + 1) r := fun r hr => PB.next' hm hw hr
  by_cases c : ws[q]? = some w
  · rw [if_pos c]
    exact nx _ (.inl ⟨q, rfl, d.lt, ⟨d.b, c⟩, d.mx⟩)
  · rw [if_neg c]
    have e := h.resolve_right c
    subst e
    refine nx _ (.inr ⟨rfl, fun t ht o => ?_⟩)
    have := d.mx t ht o
    have e : t = 0 := by omega
    subst e
    exact c o.2
/-- the borders of all beginnings -/
structure Bds (ws : List α) (fb : List Nat) (n : Nat) : Prop where
  len : fb.length = n + 1
  zero : fb[0]? = some 0
  pb : ∀ m, 1 ≤ m → m ≤ n → ∃ b, fb[m]? = some b ∧ PB ws m b
theorem Bds.one : Bds ws [0, 0] 1 := by
  refine ⟨rfl, rfl, fun m h1 h2 => ?_⟩
  have e : m = 1 := by omega
  subst e
  exact ⟨0, rfl, by omega, Bord.zero, fun s hs h => by omega⟩
theorem Bds.add {fb : List Nat} {n r : Nat} (h : Bds ws fb n) (p : PB ws (n + 1) r) : Bds ws (fb ++ [r]) (n + 1) := by
  have hl := h.len
  refine ⟨by simp [hl], by rw [List.getElem?_append_left (by omega)]; exact h.zero, fun m h1 h2 => ?_⟩
  by_cases c : m ≤ n
  · obtain ⟨b, e, q⟩ := h.pb m h1 c
    exact ⟨b, by rw [List.getElem?_append_left (by omega)]; exact e, q⟩
  · have e : m = n + 1 := by omega
    subst e
    refine ⟨r, ?_, p⟩
    rw [List.getElem?_append_right (by omega), hl]
    simp
/-- the first size of a line behind m and w -/
theorem take_on {w : α} (hm : m ≤ ws.length) (hs : s < ws.length) (h : s ≤ m) : (ws.take (s + 1) = (ws.take m ++ [w]).drop (m + 1 - (s + 1))) ↔ On ws m w s := by
  have hlen : (ws.take m).length = m := by rw [List.length_take]; omega
  have get : ∀ j, j ≤ s → ((ws.take m ++ [w]).drop (m + 1 - (s + 1)))[j]? = if j < s then ws[m - s + j]? else some w := fun j hj => by
    rw [List.getElem?_drop]
    by_cases c : j < s
    · rw [if_pos c, List.getElem?_append_left (by rw [hlen]; omega), List.getElem?_take_of_lt (by omega)]
      congr 1
      omega
    · rw [if_neg c, List.getElem?_append_right (by rw [hlen]; omega), hlen]
      have : m + 1 - (s + 1) + j - m = 0 := by omega
      rw [this]
      rfl
  constructor
  · intro e
    refine ⟨⟨h, fun j hj => ?_⟩, ?_⟩
    · have this : (ws.take (s + 1))[j]? = ((ws.take m ++ [w]).drop (m + 1 - (s + 1)))[j]? := congrArg (fun l => l[j]?) e
      rw [List.getElem?_take_of_lt (by omega), get j (by omega), if_pos hj] at this
      exact this
    · have this : (ws.take (s + 1))[s]? = ((ws.take m ++ [w]).drop (m + 1 - (s + 1)))[s]? := congrArg (fun l => l[s]?) e
      rw [List.getElem?_take_of_lt (by omega), get s (Nat.le_refl _), if_neg (Nat.lt_irrefl _)] at this
      exact this
  · intro o
    apply List.ext_getElem?
    intro j
    by_cases c : j ≤ s
    · rw [List.getElem?_take_of_lt (by omega), get j c]
      by_cases d : j < s
      · rw [if_pos d]; exact o.1.2 j d
      · rw [if_neg d]
        have : j = s := by omega
        subst this
        exact o.2
    · rw [List.getElem?_eq_none (by rw [List.length_take]; omega), List.getElem?_eq_none (by rw [List.length_drop, List.length_append, hlen]; simp; omega)]
end
end Sh
set_option Elab.async false
set_option linter.all false
set_option maxRecDepth 100000
set_option maxHeartbeats 4000000
/-! WD: the judge's borders, pairs and steps. -/
namespace Sh
open PySem L2
local macro_rules | `(tactic| walk_at "ev1") => `(tactic| first
  | (with_reducible apply ev_var); rfl
  | with_reducible exact ev_int
  | with_reducible exact ev_str
  | with_reducible exact ev_bl
  | with_reducible exact ev_non
  | with_reducible exact ev_ty
  | with_reducible apply ev_op
  | with_reducible apply ev_cb
  | with_reducible apply ea_cons
  | with_reducible exact ea_nil
  | with_reducible exact rd_I0 rfl
  | with_reducible exact rd_I0b rfl
  | with_reducible apply rd_I rfl
  | with_reducible exact rd_eqI
  | with_reducible exact rd_neI
  | with_reducible exact rd_eqS
  | with_reducible exact rd_neS
  | with_reducible exact rd_isN
  | with_reducible exact rd_notN
  | with_reducible exact rd_fst
  | with_reducible exact rd_snd
  | with_reducible exact rc_lenL
  | with_reducible exact rc_lenT
  | with_reducible apply rc_lenS
  | with_reducible exact rc_intB
  | with_reducible exact rc_min
  | with_reducible exact rc_all
  | with_reducible exact rc_any
  | with_reducible apply ev_slS
  | with_reducible exact eo_none
  | with_reducible apply eo_some
  | with_reducible apply et_test
  | with_reducible apply et_B
  | with_reducible apply et_not
  | with_reducible apply ev_notV
  | (with_reducible apply ev_un); rotate_left; rfl)
local macro_rules | `(tactic| walk_at "ev") => `(tactic| repeat' walk_at "ev1")
def nD (fb : List Nat) : D := .lst (fb.map fun (n : Nat) => .int n)
theorem nD_at {fb : List Nat} {i n : Nat} (h : fb[i]? = some n) : L2.atI (fb.map fun (n : Nat) => D.int n) (i : Int) = some (.int n) := atI_nat (by rw [List.getElem?_map, h]; rfl)
theorem sD_at {ws : List Str} {i : Nat} {w : Str} (h : ws[i]? = some w) : L2.atI (ws.map D.str) (i : Int) = some (.str w) := atI_nat (by rw [List.getElem?_map, h]; rfl)
def stepsOf (W ws : List Str) (p : Pr) : List Pr := ((nexts W p.1).map fun o => (o, soFar ws p.2 o)).filter fun q => decide (q.2 < ws.length)
def pairsOf (W ws : List Str) : List Pr := (W.map fun w => (w, 0)) ++ (ws.dropLast.zipIdx.filter fun q => decide (q.1 ∈ W)).map fun q => (q.1, q.2 + 1)
def lD (ps : List Pr) : D := .lst (ps.map pD)
section
variable {P : Program} {w : World} {K : PySem.W.Frag} {mg : Str → Option Value} {base : Heap}
/-! borders_of -/
abbrev s_borders_of : Stmt := (topS 22)
abbrev N_borders_of : List Str := ["words", "found", "many", "back"]
theorem sc_borders_of : FnScope N_borders_of ["words"] (defScope s_borders_of) := ⟨rfl, rfl, rfl, by decide +kernel, rfl, by decide +kernel, by decide +kernel⟩
def Pre_borders_of : List D → List (Addr × M) → Prop := fun ds ms => ∃ ws, ds = [sD ws] ∧ ms = [] ∧ 1 ≤ ws.length ∧ ws.length ≤ 900
def Post_borders_of : List D → List (Addr × M) → D → List (Addr × M) → Prop := fun ds ms d ms' => ∃ ws fb, ds = [sD ws] ∧ ms' = [] ∧ d = nD fb ∧ Bds ws fb ws.length
theorem ok_borders_of {f : Addr} {fd : FuncData} (F : Fun K "borders_of" "borders_of" s_borders_of f fd) (T : Bu K w mg) : FnOk P w K mg base CX0 1 f fd ["words"] (MutSp false 1 Pre_borders_of Post_borders_of) := by
  refine F.ok sc_borders_of (fun vs H Q E h => h.1) (fun cdv A outer s H vs Q E hr h => ?_)
  have nd := sc_borders_of.nd
  refine ⟨_, (pss_cons (ps_set (i := 1) nd rfl (Or.inl rfl) (pe_lst (pa_cons pe_int (pa_cons pe_int pa_nil))))
  (pss_cons (ps_for PassesOwn.never rfl (pi_range2 (by rfl) T.n_range (pa_cons pe_int (pa_cons (pe_callB call_len_seq (by rfl) T.n_len (by decide +kernel) (pa_cons (pv 0) pa_nil)) pa_nil))) (pg_name (i := 2) nd rfl (Or.inl rfl)) (pss_cons (ps_set (i := 3) nd rfl (Or.inl rfl) (pe_ix ix_list (pv 1) (pv 2) (fun _ _ => rfl)))
  (pss_cons (ps_while PassesOwn.never (PW.pt (pw_and (pt_cmpR op_gt (pv 3) pe_int (nomark _)) (pw_and1 (pt_cmpR op_ne (pe_ix ix_list (pv 0) (pv 3) (fun _ _ => rfl)) (pe_ix ix_list (pv 0) (pv 2) (fun _ _ => rfl)) (nomark _))))) (pss_one (ps_set (i := 3) nd rfl (Or.inl rfl) (pe_ix ix_list (pv 1) (pv 3) (fun _ _ => rfl)))))
  (pss_one (ps_expr (pe_bm PySem.F.plainAttrs_list PySem.F.slot_list_append PySem.F.type_list_append mt_append (pv 1) (pa_cons (pe_op op_add (pv 3) (pe_callTy call_int1 (by rfl) T.n_int (by decide +kernel) (pa_cons (pe_cmpR op_eq (pe_ix ix_list (pv 0) (pv 3) (fun _ _ => rfl)) (pe_ix ix_list (pv 0) (pv 2) (fun _ _ => rfl)) (nomark _)) pa_nil))) pa_nil)))))))
  (pss_one (ps_ret (pv 1))))), ?_⟩
  refine body_okM h fun ds ms hn hP B => ?_
  obtain ⟨ws, rfl, rfl, h1, h9⟩ := hP
  refine sm_setN (ds := [.int (0 : Nat), .int (0 : Nat)]) (evn_lst (ea_cons ev_int (ea_cons ev_int ea_nil)) (by simp)) fun q fq => ?_
  refine sm_for (P2 := fun b' ds => b' = Bx.add ⟨false, []⟩ q (.lst [.int (0 : Nat), .int (0 : Nat)]) ∧ ds = ((List.range (ws.length - 1)).map fun (i : Nat) => D.int (1 + (i : Int)))) (sx_pure (Src.is (src_rng2 (lo := 1) (n := (ws.length : Nat)) (ea_cons ev_int (ea_cons (Ev.is (ev_cb (ea_cons (ev_var rfl) ea_nil) rc_lenL) (by simp)) ea_nil)) (by omega)) (by congr 2; omega)) ⟨rfl, rfl⟩) fun b1 ds ⟨e1, e2⟩ => ?_
  subst e1 e2
  refine ⟨fun i b ρ => ∃ fb x y, b.fl = false ∧ (q, M.lst (fb.map fun (n : Nat) => D.int n)) ∈ b.rt ∧ Bds ws fb (i + 1) ∧ ρ = [some (sD ws), some (.ref q), x, y], ⟨[0, 0], none, none, rfl, mem_add, Bds.one, rfl⟩, ?_, ?_⟩
  · rintro i b ρ ⟨fb, x, y, hfl, hq, hB, rfl⟩ d hd
    have hi : i < ws.length - 1 := by
      have := (List.getElem?_eq_some_iff.mp hd).1
      simpa using this
    have hd' : d = .int ((i + 1 : Nat) : Int) := by
      rw [List.getElem?_map, List.getElem?_range hi] at hd
      cases hd
      show D.int (1 + (i : Int)) = _
      rw [show (1 + (i : Int)) = ((i + 1 : Nat) : Int) by omega]
    subst hd'
    obtain ⟨bk, hb1, hb2⟩ := hB.pb (i + 1) (by omega) (Nat.le_refl _)
    obtain ⟨w, hw⟩ : ∃ w, ws[i + 1]? = some w := ⟨_, List.getElem?_eq_getElem (by omega)⟩
    refine ⟨_, _, tg_name (vs := [2]) (by decide), ?_⟩
    refine sm_set (d := .int (bk : Nat)) (ev_op (ev_var rfl) (ev_var rfl) (rd_ixLR hq (nD_at hb1))) ?_
    refine sm_while (fun m b' ρ => b' = b ∧ ∃ c : Nat, m = c ∧ DownP ws (i + 1) w c ∧ ρ = [some (sD ws), some (.ref q), some (.int ((i + 1 : Nat) : Int)), some (.int (c : Nat))]) bk ⟨rfl, bk, rfl, .start hb2, rfl⟩ ?_
    rintro m b' ρ ⟨rfl, c, rfl, hd, rfl⟩
    have hlt := hd.lt
    obtain ⟨v, hv⟩ : ∃ v, ws[m]? = some v := ⟨_, List.getElem?_eq_getElem (by omega)⟩
    refine ⟨_, et_and (c1 := decide (0 < m)) (c2 := !decide (v = w)) (EvT.is (et_test (ev_op (ev_var rfl) ev_int (rd_I0b rfl))) ?_) fun _ => et_test (ev_op (ev_op (ev_var rfl) (ev_var rfl) (rd_ixL (sD_at hv))) (ev_op (ev_var rfl) (ev_var rfl) (rd_ixL (sD_at hw))) rd_neS), fun hcc => ?_, fun hcc => ?_⟩
    · simp
    · rw [Bool.and_eq_true, decide_eq_true_eq, Bool.not_eq_true', decide_eq_false_iff_not] at hcc
      obtain ⟨b2, hb3, hb4⟩ := hB.pb m (by omega) (by omega)
      refine sm_last (sm_set (d := .int (b2 : Nat)) (ev_op (ev_var rfl) (ev_var rfl) (rd_ixLR hq (nD_at hb3))) (sm_next ⟨b2, hb4.lt, rfl, b2, rfl, hd.step (fun e => hcc.2 (by rw [hv] at e; exact Option.some.inj e)) hb4, rfl⟩))
    · have hstop : m = 0 ∨ ws[m]? = some w := by
        by_cases c : 0 < m
        · right
          rw [decide_eq_true c, Bool.true_and, Bool.not_eq_false', decide_eq_true_eq] at hcc
          rw [hv, hcc]
        · left; omega
      have hpb := hd.stop (by omega) hw hstop
      have hlen : (fb.map fun (n : Nat) => D.int n).length ≤ 1000 := by rw [List.length_map, hB.len]; omega
      refine sm_last (sm_dropX (P1 := fun b1 d' => b1 = b'.put q (.lst ((fb.map fun (n : Nat) => D.int n) ++ [.int ((m + (if ws[m]? = some w then 1 else 0) : Nat) : Int)]))) (ex_append (es := fun _ => True) (ev_var rfl) (ex_pure (P := fun b1 d' => b1 = b' ∧ d' = .int ((m + (if ws[m]? = some w then 1 else 0) : Nat) : Int)) (ev_op (ev_var rfl) (ev_cb (ea_cons (ev_op (ev_op (ev_var rfl) (ev_var rfl) (rd_ixL (sD_at hv))) (ev_op (ev_var rfl) (ev_var rfl) (rd_ixL (sD_at hw))) rd_eqS) ea_nil) rc_intB) (rd_I0 (by
        show V.int _ = V.int _
        rw [hv]
        congr 1
        by_cases c : v = w <;> simp [c]))) ⟨rfl, rfl⟩) (fun b1 d' ⟨e1, e2⟩ => by subst e1 e2; exact ⟨_, hq, by omega, rfl⟩) ⟨_, hq⟩) fun b1 d' e => ?_)
      subst e
      refine sm_next ⟨fb ++ [m + (if ws[m]? = some w then 1 else 0)], _, _, hfl, ?_, hB.add hpb, rfl⟩
      rw [List.map_append]
      exact mem_put hq
  · rintro b ρ ⟨fb, x, y, hfl, hq, hB, rfl⟩
    refine sm_frz (i := 1) hq rfl (sm_ret (ev_var rfl) ⟨[], ⟨ws, fb, rfl, rfl, rfl, ?_⟩, rfl, (fun x hx => nomatch hx)⟩)
    have e : (List.map (fun (i : Nat) => D.int (1 + (i : Int))) (List.range (ws.length - 1))).length + 1 = ws.length := by simp; omega
    rw [e] at hB
    exact hB
/-! read_so_far -/
abbrev s_read_so_far : Stmt := (topS 23)
abbrev N_read_so_far : List Str := ["words", "borders", "many", "word"]
theorem sc_read_so_far : FnScope N_read_so_far ["words", "borders", "many", "word"] (defScope s_read_so_far) := ⟨rfl, rfl, rfl, by decide +kernel, rfl, by decide +kernel, by decide +kernel⟩
def R_read_so_far : List D → D → Prop := fun ds d => ∃ (ws : List Str) (fb : List Nat) (m : Nat) (w : Str), ds = [sD ws, nD fb, .int m, .str w] ∧ Bds ws fb ws.length ∧ m < ws.length ∧ d = .int (soFar ws m w : Nat)
theorem ok_read_so_far {f : Addr} {fd : FuncData} (F : Fun K "read_so_far" "read_so_far" s_read_so_far f fd) (T : Bu K w mg) : FnOk P w K mg base CX0 1 f fd ["words", "borders", "many", "word"] (PureSp false 4 R_read_so_far) := by
  refine F.ok sc_read_so_far (fun vs H Q E h => h.1) (fun cdv A outer s H vs Q E hr h => ?_)
  have nd := sc_read_so_far.nd
  refine ⟨_, (pss_cons (ps_while PassesOwn.never (PW.pt (pw_and (pt_cmpR op_gt (pv 2) pe_int (nomark _)) (pw_and1 (pt_cmpR op_ne (pe_ix ix_list (pv 0) (pv 2) (fun _ _ => rfl)) (pv 3) (nomark _))))) (pss_one (ps_set (i := 2) nd rfl (Or.inl rfl) (pe_ix ix_list (pv 1) (pv 2) (fun _ _ => rfl)))))
  (pss_one (ps_ret (pe_op op_add (pv 2) (pe_callTy call_int1 (by rfl) T.n_int (by decide +kernel) (pa_cons (pe_cmpR op_eq (pe_ix ix_list (pv 0) (pv 2) (fun _ _ => rfl)) (pv 3) (nomark _)) pa_nil)))))), ?_⟩
  refine body_okP h fun ds d hn hR B => ?_
  obtain ⟨ws, fb, m0, w, rfl, hB, h1, rfl⟩ := hR
  refine sm_while (fun m b' ρ => b' = ⟨false, []⟩ ∧ Down ws m0 w m ∧ ρ = [some (sD ws), some (nD fb), some (.int (m : Nat)), some (.str w)]) m0 ⟨rfl, .self, rfl⟩ ?_
  rintro m b' ρ ⟨rfl, hd, rfl⟩
  have hlt := hd.b.1
  obtain ⟨v, hv⟩ : ∃ v, ws[m]? = some v := ⟨_, List.getElem?_eq_getElem (by omega)⟩
  refine ⟨_, et_and (c1 := decide (0 < m)) (c2 := !decide (v = w)) (EvT.is (et_test (ev_op (ev_var rfl) ev_int (rd_I0b rfl))) ?_) fun _ => et_test (ev_op (ev_op (ev_var rfl) (ev_var rfl) (rd_ixL (sD_at hv))) (ev_var rfl) rd_neS), fun hcc => ?_, fun hcc => ?_⟩
  · simp
  · rw [Bool.and_eq_true, decide_eq_true_eq, Bool.not_eq_true', decide_eq_false_iff_not] at hcc
    obtain ⟨b2, hb3, hb4⟩ := hB.pb m (by omega) (by omega)
    exact sm_last (sm_set (d := .int (b2 : Nat)) (ev_op (ev_var rfl) (ev_var rfl) (rd_ixL (nD_at hb3))) (sm_next ⟨b2, hb4.lt, rfl, hd.step (fun e => hcc.2 (by rw [hv] at e; exact Option.some.inj e)) hb4, rfl⟩))
  · have hstop : m = 0 ∨ ws[m]? = some w := by
      by_cases c : 0 < m
      · right
        rw [decide_eq_true c, Bool.true_and, Bool.not_eq_false', decide_eq_true_eq] at hcc
        rw [hv, hcc]
      · left; omega
    refine sm_ret (ev_op (ev_var rfl) (ev_cb (ea_cons (ev_op (ev_op (ev_var rfl) (ev_var rfl) (rd_ixL (sD_at hv))) (ev_var rfl) rd_eqS) ea_nil) rc_intB) (rd_I0 (k := (soFar ws m0 w : Nat)) ?_)) rfl
    rw [hd.stop hstop, hv]
    show V.int _ = V.int _
    congr 1
    by_cases c : v = w <;> simp [c]
/-! pairs_of -/
abbrev s_pairs_of : Stmt := (topS 24)
abbrev N_pairs_of : List Str := ["graph", "words", "found", "word", "at"]
theorem sc_pairs_of : FnScope N_pairs_of ["graph", "words"] (defScope s_pairs_of) := ⟨rfl, rfl, rfl, by decide +kernel, rfl, by decide +kernel, by decide +kernel⟩
def R_pairs_of (C : Addr) : List D → D → Prop := fun ds d => ∃ W ws, ds = [gD C W, sD ws] ∧ W.length ≤ 30 ∧ ws.length ≤ 900 ∧ d = lD (pairsOf W ws)
theorem cutD_init (ds : List D) : cutD ds none (some (-1)) = ds.dropLast := by
  have e : HT.sIx ds.length ds.length (some (-1)) = ds.length - 1 := by
    show (if ((-1 : Int)) < 0 then ((-1 : Int) + (ds.length : Int)).toNat else min (-1 : Int).toNat ds.length) = _
    rw [if_pos (by decide)]
    omega
  unfold cutD
  rw [e, HT.sIx_none, Nat.sub_zero, List.drop_zero, List.dropLast_eq_take]
theorem ok_pairs_of {C : Addr} {f : Addr} {fd : FuncData} (F : Fun K "pairs_of" "pairs_of" s_pairs_of f fd) (T : Bu K w mg) (F_Graph_words : Me P w K mg base 1 C "words" ["self"] (PureSp false 1 (R_Graph_words C))) : FnOk P w K mg base CX0 2 f fd ["graph", "words"] (PureSp false 2 (R_pairs_of C)) := by
  refine F.ok sc_pairs_of (fun vs H Q E h => h.1) (fun cdv A outer s H vs Q E hr h => ?_)
  have nd := sc_pairs_of.nd
  refine ⟨_, (pss_cons (ps_setLc (i := 2) (g := (gName 3)) (tt := tYes) (te := (tTup (tCons (tVar 3) (tCons (tC _) tNil)))) (own := [("word", 3)]) rfl nd rfl rfl (sw_true rfl rfl rfl (by decide +kernel)) (pi_list (pe_me0 F_Graph_words (pv 0) (hr.mono (by decide)))) (blkOk_by (own := [("word", 3)]) (N := N_pairs_of) (sc := (defScope s_pairs_of)) (by decide +kernel)) (fun _ _ _ _ _ => (pg_name (i := 3) nd rfl (Or.inl rfl))) (fun _ _ _ _ _ => pts_nil) (fun _ _ _ _ _ => (pe_tup (pa_cons (pv 3) (pa_cons pe_int pa_nil)))))
  (pss_one (ps_ret (pe_op op_cat (pv 2) (pe_lc (g := (gTup _ 2 (gCons (gName 4) (gCons (gName 3) gNil)))) (tt := (tTest (tOp (rIn _ false) (tVar 3) (tMeth _ _ _ _ _ (tVar 0) tNil)))) (te := (tTup (tCons (tVar 3) (tCons (tOp _ (tVar 4) (tC _)) tNil)))) (own := [("at", 4), ("word", 3)]) rfl nd (pi_enum (by rfl) T.n_enumerate (pa_cons (pe_slice sl_list (pv 1) po_none (po_some (pe_un un_neg pe_int))) pa_nil)) (blkOk_by (own := [("at", 4), ("word", 3)]) (N := N_pairs_of) (sc := (defScope s_pairs_of)) (by decide +kernel)) (fun _ _ _ _ _ => (pg_tup rfl (pgs_cons (pg_name (i := 4) nd rfl (Or.inl rfl)) (pgs_cons (pg_name (i := 3) nd rfl (Or.inl rfl)) pgs_nil)))) (fun _ _ _ _ _ => (pts_one (pt_cmpR op_in_seq (pv 3) (pe_me0 F_Graph_words (pv 0) (hr.mono (by decide))) rfl))) (fun _ _ _ _ _ => (pe_tup (pa_cons (pv 3) (pa_cons (pe_op op_add (pv 4) pe_int) pa_nil))))))))), ?_⟩
  refine body_ok h fun ds d hn hR => ?_
  obtain ⟨W, ws, rfl, h1, h2, rfl⟩ := hR
  refine st_set (x := lD (W.map fun w => (w, 0))) ?_ ?_
  · refine EvN.ev (EvN.is (evn_lcY (xs := W) (enc := .str) (f := fun w => pD (w, 0)) (src_list (ev_meth (ev_var rfl) rfl ea_nil rfl ⟨W, rfl, rfl⟩ (fun z => by cases z))) (by omega) fun z hz => ?_) ?_)
    · exact lct (tg_name (by decide)) et_yes fun _ => ev_tup (ea_cons (ev_var rfl) (ea_cons ev_int ea_nil)) (by simp)
    · simp [Function.comp_def]
  · refine st_ret (EvN.ev (EvN.is (evn_op (ev_var rfl) (EvN.ev (evn_lc (xs := ws.dropLast.zipIdx) (enc := fun q => .tup [.int (q.2 : Nat), .str q.1]) (c := fun q => decide (q.1 ∈ W)) (f := fun q => pD (q.1, q.2 + 1)) (Src.is (src_enum (ea_cons (EvN.ev (evn_slL (ev_var rfl) eo_none (eo_some (ev_un ev_int rfl)))) ea_nil)) ?_) ?_ fun q hq => ?_)) (rn_cat ?_)) ?_))
    · rw [cutD_init, ← List.map_dropLast, List.zipIdx_map, List.map_map]
      rfl
    · simp; omega
    · refine lct (tg_pair (by decide) (by decide)) (et_test (ev_op (ev_var rfl) (ev_meth (ev_var rfl) rfl ea_nil rfl ⟨W, rfl, rfl⟩ (fun z => by cases z)) rd_inS)) fun _ => ?_
      refine Ev.is (ev_tup (ea_cons (ev_var rfl) (ea_cons (ev_op (ev_var rfl) ev_int (rd_I0 rfl)) ea_nil)) (by simp)) ?_
      simp [pD]
    · have := List.length_filter_le (fun q => decide (q.1 ∈ W)) ws.dropLast.zipIdx
      simp at this ⊢
      exact Nat.le_of_lt (small1000 (by omega))
    · simp [pairsOf, lD, List.map_append, Function.comp_def]
/-! steps_from -/
abbrev s_steps_from : Stmt := (topS 25)
abbrev N_steps_from : List Str := ["graph", "words", "pair", "word", "many", "borders", "found", "other", "step"]
theorem sc_steps_from : FnScope N_steps_from ["graph", "words", "pair"] (defScope s_steps_from) := ⟨rfl, rfl, rfl, by decide +kernel, rfl, by decide +kernel, by decide +kernel⟩
def R_steps_from (C : Addr) : List D → D → Prop := fun ds d => ∃ W ws p, ds = [gD C W, sD ws, pD p] ∧ p.1 ∈ W ∧ p.2 < ws.length ∧ W.length ≤ 30 ∧ ws.length ≤ 900 ∧ d = lD (stepsOf W ws p)
theorem ok_steps_from {C : Addr} {f : Addr} {fd : FuncData} (F : Fun K "steps_from" "steps_from" s_steps_from f fd) (T : Bu K w mg) (F_Graph_behind : Me P w K mg base 2 C "behind" ["self", "word"] (PureSp false 2 (R_Graph_behind C))) (F_borders_of : Fn P w K mg base 1 "borders_of" ["words"] (MutSp false 1 Pre_borders_of Post_borders_of)) (F_read_so_far : Fn P w K mg base 1 "read_so_far" ["words", "borders", "many", "word"] (PureSp false 4 R_read_so_far)) : FnOk P w K mg base CX0 3 f fd ["graph", "words", "pair"] (PureSp false 3 (R_steps_from C)) := by
  refine F.ok sc_steps_from (fun vs H Q E h => h.1) (fun cdv A outer s H vs Q E hr h => ?_)
  have nd := sc_steps_from.nd
  refine ⟨_, (pss_cons (ps_asg (pv 2) (pg_tup rfl (pgs_cons (pg_name (i := 3) nd rfl (Or.inl rfl)) (pgs_cons (pg_name (i := 4) nd rfl (Or.inr rfl)) pgs_nil))))
  (pss_cons (ps_set (i := 5) nd rfl (Or.inr rfl) (pe_fn F_borders_of (hr.mono (by decide)) rfl (pa_cons (pv 1) pa_nil)))
  (pss_cons (ps_setLc (i := 6) (g := (gName 7)) (tt := tYes) (te := (tTup (tCons (tVar 7) (tCons (tCall _ _ _ (tCons (tVar 1) (tCons (tVar 5) (tCons (tVar 4) (tCons (tVar 7) tNil))))) tNil)))) (own := [("other", 7)]) rfl nd rfl rfl (sw_true rfl rfl rfl (by decide +kernel)) (pi_list (pe_me F_Graph_behind (pv 0) (hr.mono (by decide)) (pa_cons (pv 3) pa_nil))) (blkOk_by (own := [("other", 7)]) (N := N_steps_from) (sc := (defScope s_steps_from)) (by decide +kernel)) (fun _ _ _ _ _ => (pg_name (i := 7) nd rfl (Or.inl rfl))) (fun _ _ _ _ _ => pts_nil) (fun _ _ _ _ _ => (pe_tup (pa_cons (pv 7) (pa_cons (pe_fn F_read_so_far (hr.mono (by decide)) rfl (pa_cons (pv 1) (pa_cons (pv 5) (pa_cons (pv 4) (pa_cons (pv 7) pa_nil))))) pa_nil)))))
  (pss_one (ps_ret (pe_lc (g := (gName 8)) (tt := (tTest (tOp _ (tOp (rIxT _) (tVar 8) (tC _)) (tCB (rLenQ _) (tCons (tVar 1) tNil))))) (te := (tVar 8)) (own := [("step", 8)]) rfl nd (pi_list (pv 6)) (blkOk_by (own := [("step", 8)]) (N := N_steps_from) (sc := (defScope s_steps_from)) (by decide +kernel)) (fun _ _ _ _ _ => (pg_name (i := 8) nd rfl (Or.inl rfl))) (fun _ _ _ _ _ => (pts_one (pt_cmpR op_lt (pe_ix ix_tup (pv 8) pe_int (fun _ _ => rfl)) (pe_callB call_len_seq (by rfl) T.n_len (by decide +kernel) (pa_cons (pv 1) pa_nil)) (nomark _)))) (fun _ _ _ _ _ => (pv 8)))))))), ?_⟩
  refine body_okP h fun ds d hn hR B => ?_
  obtain ⟨W, ws, p, rfl, hp, hm, h1, h2, rfl⟩ := hR
  have hnl := nexts_len W p.1
  refine sm_pairX (P1 := fun b' d' => b' = ⟨false, []⟩ ∧ d' = pD p) (ex_pure (ev_var rfl) ⟨rfl, rfl⟩) fun b' d' ⟨e1, e2⟩ => ⟨.str p.1, .int p.2, e2, ?_⟩
  subst e1 e2
  refine sm_setX (P1 := fun b' d' => b'.fl = false ∧ ∃ fb, d' = nD fb ∧ Bds ws fb ws.length) (ex_call (P1 := fun b' ds => b' = ⟨false, []⟩ ∧ ds = [sD ws]) (xa_pure (ea_cons (ev_var rfl) ea_nil) ⟨rfl, rfl⟩) ?m) ?k
  case m =>
    rintro b' ds ⟨e1, e2⟩
    subst e1 e2
    refine ⟨rfl, [], (fun x hx => nomatch hx), ⟨ws, rfl, rfl, by omega, h2⟩, (fun z => by cases z), fun d ms' b'' hp ek pu => ?_⟩
    obtain ⟨ws', fb, e0, e2, e3, hk⟩ := hp
    have e : ws' = ws := by
      have := (List.cons.inj e0).1
      unfold sD at this
      exact ((List.map_inj_right (fun a b h => by cases h; rfl)).mp (D.lst.inj this)).symm
    subst e
    exact ⟨pu.fl, fb, e3, hk⟩
  case k =>
    rintro b' d' ⟨hfl, fb, e, hB⟩
    subst e
    refine sm_setX (P1 := fun b'' d' => b'' = b' ∧ d' = lD ((nexts W p.1).map fun o => (o, soFar ws p.2 o))) (ex_pure (Ev.is (EvN.ev (evn_lcY (xs := nexts W p.1) (enc := .str) (f := fun o => pD (o, soFar ws p.2 o)) (src_list (ev_meth (ev_var rfl) rfl (ea_cons (ev_var rfl) ea_nil) rfl ⟨W, p.1, rfl, hp, rfl⟩ (fun z => by cases z))) (by omega) fun o ho => ?_)) ?_) ⟨rfl, rfl⟩) fun b'' d' ⟨e1, e2⟩ => ?_
    · exact lct (tg_name (by decide)) et_yes fun _ => ev_tup (ea_cons (ev_var rfl) (ea_cons (ev_call (ea_cons (ev_var rfl) (ea_cons (ev_var rfl) (ea_cons (ev_var rfl) (ea_cons (ev_var rfl) ea_nil)))) rfl ⟨ws, fb, p.2, o, rfl, hB, hm, rfl⟩ (fun z => by cases z)) ea_nil)) (by simp)
    · simp [lD, Function.comp_def]
    · subst e1 e2
      refine sm_ret (Ev.is (EvN.ev (evn_lc (xs := (nexts W p.1).map fun o => (o, soFar ws p.2 o)) (enc := pD) (c := fun q => decide (q.2 < ws.length)) (f := pD) (src_list (ev_var rfl)) (by simp; omega) fun q hq => ?_)) ?_) rfl
      · exact lct (tg_name (by decide)) (EvT.is (et_test (ev_op (ev_op (ev_var rfl) ev_int rd_snd) (ev_cb (ea_cons (ev_var rfl) ea_nil) rc_lenQ) (rd_I0b rfl))) (by simp [sD])) fun _ => ev_var rfl
      · rfl
end
end Sh
set_option Elab.async false
set_option linter.all false
set_option maxRecDepth 100000
set_option maxHeartbeats 4000000
/-! WE: what lets a paper by. -/
namespace Sh
open PySem L2
local macro_rules | `(tactic| walk_at "ev1") => `(tactic| first
  | (with_reducible apply ev_var); rfl
  | with_reducible exact ev_int
  | with_reducible exact ev_str
  | with_reducible exact ev_bl
  | with_reducible exact ev_non
  | with_reducible exact ev_ty
  | with_reducible apply ev_op
  | with_reducible apply ev_cb
  | with_reducible apply ea_cons
  | with_reducible exact ea_nil
  | with_reducible exact rd_I0 rfl
  | with_reducible exact rd_I0b rfl
  | with_reducible apply rd_I rfl
  | with_reducible exact rd_eqI
  | with_reducible exact rd_neI
  | with_reducible exact rd_eqS
  | with_reducible exact rd_neS
  | with_reducible exact rd_isN
  | with_reducible exact rd_notN
  | with_reducible exact rd_fst
  | with_reducible exact rd_snd
  | with_reducible exact rc_lenL
  | with_reducible exact rc_lenT
  | with_reducible apply rc_lenS
  | with_reducible exact rc_intB
  | with_reducible exact rc_min
  | with_reducible exact rc_all
  | with_reducible exact rc_any
  | with_reducible apply ev_slS
  | with_reducible exact eo_none
  | with_reducible apply eo_some
  | with_reducible apply et_test
  | with_reducible apply et_B
  | with_reducible apply et_not
  | with_reducible apply ev_notV
  | (with_reducible apply ev_un); rotate_left; rfl)
local macro_rules | `(tactic| walk_at "ev") => `(tactic| repeat' walk_at "ev1")
theorem valD_map {κ α : Type} [DecidableEq κ] {key : α → κ} (inj : ∀ a b, key a = key b → a = b) {f : α → D} {z : α} : ∀ {l : List α}, z ∈ l → valD (l.map fun x => (key x, f x)) (key z) = some (f z)
  | [], h => by cases h
  | y :: l, h => by
    unfold valD
    rw [List.map_cons, List.find?_cons]
    by_cases e : key y = key z
    · have := inj _ _ e
      subst this
      simp
    · simp only [decide_eq_false e]
      rcases List.mem_cons.mp h with rfl | h
      · exact absurd rfl e
      · exact valD_map inj h
theorem valD_map_none {κ α : Type} [DecidableEq κ] {key : α → κ} (inj : ∀ a b, key a = key b → a = b) {f : α → D} {z : α} {l : List α} (h : z ∉ l) : valD (l.map fun x => (key x, f x)) (key z) = none := by
  unfold valD
  rw [List.find?_eq_none.mpr]
  · rfl
  · intro x hx
    obtain ⟨y, hy, rfl⟩ := List.mem_map.mp hx
    simp only [decide_eq_true_eq]
    exact fun e => h (inj _ _ e ▸ hy)
theorem pK_inj' : ∀ a b : Pr, pK a = pK b → a = b := fun _ _ => pK_inj
theorem inl_inj' : ∀ a b : Int, (Sum.inl a : Key) = Sum.inl b → a = b := fun _ _ => Sum.inl.inj
def oD : Option Str → D
  | none => .non
  | some w => .str w
def oV : Option Str → V
  | none => .non
  | some w => .str w
theorem rep_oD {G : Hp} {v : V} : ∀ {o : Option Str}, Rep G (oD o) v → v = oV o
  | none, h => h
  | some _, h => h
theorem reps_oD {G : Hp} : ∀ {os : List (Option Str)} {xs : List V}, Reps G (os.map oD) xs → xs = os.map oV
  | [], _, h => h
  | o :: os, _, h => by
    obtain ⟨v, r, rfl, h2, h3⟩ := h
    rw [rep_oD h2, reps_oD h3]; rfl
theorem eqV_os : ∀ a c : Option Str, eqV (oV a) (oV c) = decide (a = c)
  | none, none => rfl
  | none, some _ => rfl
  | some _, none => rfl
  | some a, some c => by
    show eqV (.str a) (.str c) = _
    rw [eqV_strs]
    by_cases e : a = c <;> simp [e]
theorem inV_os (w : Option Str) : ∀ ws : List (Option Str), inV (oV w) (ws.map oV) = decide (w ∈ ws)
  | [] => rfl
  | y :: ys => by
    show (eqV (oV y) (oV w) || inV (oV w) (ys.map oV)) = _
    rw [inV_os w ys, eqV_os]
    by_cases e : y = w
    · simp [e]
    · have e' : ¬ w = y := fun z => e z.symm
      simp [e, e']
theorem flat_os (ws : List (Option Str)) : (ws.map oV).all flatV = true := by
  rw [List.all_eq_true]
  intro x hx
  obtain ⟨o, _, rfl⟩ := List.mem_map.mp hx
  cases o <;> rfl
theorem rd_inO {b : Bx} {K : PySem.W.Frag} {w : Option Str} {ws : List (Option Str)} : RD b (rIn K false) (oD w) (.lst (ws.map oD)) (.bl (decide (w ∈ ws))) := fun G H u v l s r1 r2 Q k => by
  obtain ⟨a, ys, rfl, h2, h3⟩ := r2
  have e := reps_oD h3
  subst e
  cases rep_oD r1
  refine ⟨a, _, rfl, .inl (SqL.of (s _ _ h2)), by cases w <;> rfl, flat_os ws, ?_⟩
  show Q (.bl (inV (oV w) (ws.map oV))) H
  rw [inV_os]
  exact k _ H G (.refl s) rfl
/-! papers -/
def levD (ps : List Pr) (lv : Pr → Int) : D := .dT (ps.map fun p => (pK p, .int (lv p)))
def lkD (ns : List Int) (lk : Int → Option Str) : D := .dK (ns.map fun n => (Sum.inl n, oD (lk n)))
def rightB (lv : Pr → Int) (lk : Int → Option Str) (p : Pr) (ss : List Pr) : Bool :=
  if ss.any (fun s => decide (lv s < lv p)) then false else match lk (lv p) with
    | none => ss.all fun s => decide (lv s ≠ lv p)
    | some w => decide (p.1 ≠ w)
structure Paper (W ws : List Str) (ps : List Pr) (lv : Pr → Int) (ns : List Int) (lk : Int → Option Str) : Prop where
  perm : ps.Perm (pairsOf W ws)
  nd : (pairsOf W ws).Nodup
  few : ps.length < 64
  nnd : ns.Nodup
  mem : ∀ n, n ∈ ns ↔ n ∈ ps.map lv
  nfew : ns.length < 64
  lk : ∀ n ∈ ns, lk n ∈ none :: W.map some
theorem soFar_pos {ws : List Str} {m : Nat} {w : Str} {s : Nat} (h : soFar ws m w = s + 1) : ws[s]? = some w := by
  rcases soFar_cases ws m w with ⟨t, e, o, _⟩ | ⟨e, _⟩
  · have : t = s := by omega
    subst this
    exact o.2
  · omega
theorem mem_pairsOf {W ws : List Str} {p : Pr} : p ∈ pairsOf W ws ↔ p.1 ∈ W ∧ (p.2 = 0 ∨ ∃ s, p.2 = s + 1 ∧ s + 1 < ws.length ∧ ws[s]? = some p.1) := by
  obtain ⟨w, n⟩ := p
  unfold pairsOf
  rw [List.mem_append]
  constructor
  · rintro (h | h)
    · obtain ⟨z, hz, e⟩ := List.mem_map.mp h
      cases e
      exact ⟨hz, .inl rfl⟩
    · obtain ⟨⟨z, i⟩, hz, e⟩ := List.mem_map.mp h
      cases e
      obtain ⟨h1, h2⟩ := List.mem_filter.mp hz
      have h3 := List.mem_zipIdx_iff_getElem?.mp h1
      simp only [decide_eq_true_eq] at h2
      refine ⟨h2, .inr ⟨i, rfl, ?_, ?_⟩⟩
      · have := (List.getElem?_eq_some_iff.mp h3).1
        simp at this
        omega
      · rw [List.dropLast_eq_take, List.getElem?_take] at h3
        split at h3
        · exact h3
        · cases h3
  · rintro ⟨h1, h2 | ⟨s, h2, h3, h4⟩⟩
    · have h2 : n = 0 := h2
      subst h2
      exact .inl (List.mem_map.mpr ⟨w, h1, rfl⟩)
    · have h2 : n = s + 1 := h2
      subst h2
      refine .inr (List.mem_map.mpr ⟨(w, s), List.mem_filter.mpr ⟨?_, by simpa using h1⟩, rfl⟩)
      rw [List.mem_zipIdx_iff_getElem?, List.dropLast_eq_take, List.getElem?_take, if_pos (by show s < _; omega)]
      exact h4
theorem steps_pairs {W ws : List Str} {p q : Pr} (h : q ∈ stepsOf W ws p) : q ∈ pairsOf W ws := by
  obtain ⟨h1, h2⟩ := List.mem_filter.mp h
  obtain ⟨o, ho, e⟩ := List.mem_map.mp h1
  subst e
  simp only [decide_eq_true_eq] at h2
  refine mem_pairsOf.mpr ⟨nexts_sub ho, ?_⟩
  show soFar ws p.2 o = 0 ∨ _
  by_cases c : soFar ws p.2 o = 0
  · exact .inl c
  · obtain ⟨s, hs⟩ : ∃ s, soFar ws p.2 o = s + 1 := ⟨soFar ws p.2 o - 1, by omega⟩
    exact .inr ⟨s, hs, by rw [← hs]; exact h2, soFar_pos hs⟩
theorem pairs_lt {W ws : List Str} {p : Pr} (h : p ∈ pairsOf W ws) (hl : 1 ≤ ws.length) : p.2 < ws.length := by
  rcases (mem_pairsOf.mp h).2 with e | ⟨s, e, h2, _⟩ <;> omega
theorem steps_len {W ws : List Str} {p : Pr} : (stepsOf W ws p).length ≤ W.length := by
  unfold stepsOf
  refine Nat.le_trans (List.length_filter_le _ _) ?_
  rw [List.length_map]
  exact nexts_len W p.1
section
variable {P : Program} {w : World} {K : PySem.W.Frag} {mg : Str → Option Value} {base : Heap}
/-! is_pair -/
abbrev s_is_pair : Stmt := (topS 26)
abbrev N_is_pair : List Str := ["thing"]
theorem sc_is_pair : FnScope N_is_pair ["thing"] (defScope s_is_pair) := ⟨rfl, rfl, rfl, by decide +kernel, rfl, by decide +kernel, by decide +kernel⟩
def R_is_pair : List D → D → Prop := fun ds d => ∃ p : Pr, ds = [pD p] ∧ d = .bl true
theorem ok_is_pair {f : Addr} {fd : FuncData} (F : Fun K "is_pair" "is_pair" s_is_pair f fd) (T : Bu K w mg) (F_is_number : Fn P w K mg base 1 "is_number" ["thing"] (PureSp false 1 R_is_number)) : FnOk P w K mg base CX0 2 f fd ["thing"] (PureSp false 1 R_is_pair) := by
  refine F.ok sc_is_pair (fun vs H Q E h => h.1) (fun cdv A outer s H vs Q E hr h => ?_)
  have nd := sc_is_pair.nd
  refine ⟨_, (pss_one (ps_ret (pe_and (pe_callB call_isi (by rfl) T.n_isinstance (by decide +kernel) (pa_cons (pv 0) (pa_cons (pe_bltn (v := .ty "tuple") (by rfl) T.n_tuple (by decide +kernel) rfl) pa_nil))) (pe_and (pe_cmpR op_eq (pe_callB call_len_seq (by rfl) T.n_len (by decide +kernel) (pa_cons (pv 0) pa_nil)) pe_int (nomark _)) (pe_and (pe_callB call_isi (by rfl) T.n_isinstance (by decide +kernel) (pa_cons (pe_ix ix_tup (pv 0) pe_int (fun _ _ => rfl)) (pa_cons (pe_bltn (v := .ty "str") (by rfl) T.n_str (by decide +kernel) rfl) pa_nil))) (pe_one (pe_fn F_is_number (hr.mono (by decide)) rfl (pa_cons (pe_ix ix_tup (pv 0) pe_int (fun _ _ => rfl)) pa_nil)))))))), ?_⟩
  refine body_ok h fun ds d hn hR => ?_
  obtain ⟨p, rfl, rfl⟩ := hR
  refine st_ret (ev_andV (c1 := true) (c2 := true) (ev_cb (ea_cons (ev_var rfl) (ea_cons ev_ty ea_nil)) (rc_isi rfl rfl rfl)) fun _ => ?_)
  refine ev_andV (c1 := true) (c2 := true) (Ev.is (ev_op (ev_cb (ea_cons (ev_var rfl) ea_nil) rc_lenT) ev_int rd_eqI) rfl) fun _ => ?_
  refine ev_andV (c1 := true) (c2 := true) (ev_cb (ea_cons (ev_op (ev_var rfl) ev_int rd_fst) (ea_cons ev_ty ea_nil)) (rc_isi rfl rfl rfl)) fun _ => ?_
  exact ev_call (ea_cons (ev_op (ev_var rfl) ev_int rd_snd) ea_nil) rfl ⟨_, rfl, rfl⟩ (fun z => by cases z)
/-! are_levels -/
abbrev s_are_levels : Stmt := (topS 27)
abbrev N_are_levels : List Str := ["graph", "words", "thing", "pair", "level"]
theorem sc_are_levels : FnScope N_are_levels ["graph", "words", "thing"] (defScope s_are_levels) := ⟨rfl, rfl, rfl, by decide +kernel, rfl, by decide +kernel, by decide +kernel⟩
def R_are_levels (C : Addr) : List D → D → Prop := fun ds d => ∃ W ws ps lv, ds = [gD C W, sD ws, levD ps lv] ∧ ps.Perm (pairsOf W ws) ∧ (pairsOf W ws).Nodup ∧ ps.length < 64 ∧ W.length ≤ 30 ∧ ws.length ≤ 900 ∧ d = .bl true
theorem ok_are_levels {C : Addr} {f : Addr} {fd : FuncData} (F : Fun K "are_levels" "are_levels" s_are_levels f fd) (T : Bu K w mg) (F_is_number : Fn P w K mg base 1 "is_number" ["thing"] (PureSp false 1 R_is_number)) (F_is_pair : Fn P w K mg base 2 "is_pair" ["thing"] (PureSp false 1 R_is_pair)) (F_pairs_of : Fn P w K mg base 2 "pairs_of" ["graph", "words"] (PureSp false 2 (R_pairs_of C))) : FnOk P w K mg base CX0 3 f fd ["graph", "words", "thing"] (PureSp true 3 (R_are_levels C)) := by
  refine F.ok sc_are_levels (fun vs H Q E h => h.1) (fun cdv A outer s H vs Q E hr h => ?_)
  have nd := sc_are_levels.nd
  have hu65 := hu65_of hr
  have hu : _ + 1 < cLine := Nat.lt_of_le_of_lt (Nat.add_le_add_left (by decide : 1 ≤ 65) _) hu65
  have hu2 : _ + 2 < cLine := Nat.lt_of_le_of_lt (Nat.add_le_add_left (by decide : 2 ≤ 65) _) hu65
  have hu3 : _ + 3 < cLine := Nat.lt_of_le_of_lt (Nat.add_le_add_left (by decide : 3 ≤ 65) _) hu65
  refine ⟨_, (pss_cons (ps_if (PW.pt (pw_or (pt_not (pt_val (pe_callB call_isi (by rfl) T.n_isinstance (by decide +kernel) (pa_cons (pv 2) (pa_cons (pe_bltn (v := .ty "dict") (by rfl) T.n_dict (by decide +kernel) rfl) pa_nil))))) (pw_or1 (pt_not (pt_val (pe_callB (cr_all rfl) (by rfl) T.n_all (by decide +kernel) (pa_cons (pe_lock (pe_lc (g := (gName 3)) (tt := tYes) (te := (tCall _ _ _ (tCons (tVar 3) tNil))) (own := [("pair", 3)]) rfl nd (pi_keys (pv 2)) (blkOk_by (own := [("pair", 3)]) (N := N_are_levels) (sc := (defScope s_are_levels)) (by decide +kernel)) (fun _ _ _ _ _ => (pg_name (i := 3) nd rfl (Or.inl rfl))) (fun _ _ _ _ _ => pts_nil) (fun _ _ _ _ _ => (pe_fn F_is_pair (hr.mono (by decide)) rfl (pa_cons (pv 3) pa_nil))))) pa_nil))))))) (pss_one (ps_ret pe_bl)) pss_nil)
  (pss_one (ps_ret (pe_and (pe_cmpR (op_eqPO hu) (pe_callTy (cr_setD hu2) (by rfl) T.n_set (by decide +kernel) (pa_cons (pv 2) pa_nil)) (pe_callTy (cr_setL rfl hu3) (by rfl) T.n_set (by decide +kernel) (pa_cons (pe_fn F_pairs_of (hr.mono (by decide)) rfl (pa_cons (pv 0) (pa_cons (pv 1) pa_nil))) pa_nil)) (nomark _)) (pe_one (pe_callB (cr_all rfl) (by rfl) T.n_all (by decide +kernel) (pa_cons (pe_lock (pe_lc (g := (gName 4)) (tt := tYes) (te := (tCall _ _ _ (tCons (tVar 4) tNil))) (own := [("level", 4)]) rfl nd (pi_valuesT (pv 2)) (blkOk_by (own := [("level", 4)]) (N := N_are_levels) (sc := (defScope s_are_levels)) (by decide +kernel)) (fun _ _ _ _ _ => (pg_name (i := 4) nd rfl (Or.inl rfl))) (fun _ _ _ _ _ => pts_nil) (fun _ _ _ _ _ => (pe_fn F_is_number (hr.mono (by decide)) rfl (pa_cons (pv 4) pa_nil))))) pa_nil))))))), ?_⟩
  refine body_ok h fun ds d hn hR => ?_
  obtain ⟨W, ws, ps, lv, rfl, hpe, hnd, hfew, hW, hws, rfl⟩ := hR
  have all1 : ∀ {α : Type} (xs : List α), D.bl ((xs.map fun _ => true).all id) = .bl true := fun xs => by simp
  refine st_no (EvT.is (et_or (c1 := false) (c2 := false) (EvT.is (et_not (c := true) (et_test (ev_cb (ea_cons (ev_var rfl) (ea_cons ev_ty ea_nil)) (rc_isiD rfl rfl rfl)))) rfl) fun _ => ?_) rfl) ?_
  · refine EvT.is (et_not (c := true) (et_test (Ev.is (ev_cb (ea_cons (EvN.ev (EvN.is (evn_lcLY (xs := ps) (enc := pD) (f := fun _ => .bl true) (SrcL.is (sl_keysT rfl (kn_var rfl)) ?_) (by omega) fun p hp => ?_) ?_)) ea_nil) (rc_all (bs := ps.map fun _ => true))) (all1 ps)))) rfl
    · rw [List.map_map]; rfl
    · exact lct (tg_name (by decide)) et_yes fun _ => ev_call (ea_cons (ev_var rfl) ea_nil) rfl ⟨p, rfl, rfl⟩ (fun z => by cases z)
    · rw [List.map_map]; rfl
  · refine st_ret (ev_andV (c1 := true) (c2 := true) (ev_eqSetP (ds := ps) (ps := pairsOf W ws) (ea_cons (ev_var rfl) ea_nil) (ea_cons (ev_call (ea_cons (ev_var rfl) (ea_cons (ev_var rfl) ea_nil)) rfl ⟨W, ws, rfl, hW, hws, rfl⟩ (fun z => by cases z)) ea_nil) (by rw [List.map_map]; rfl) hpe hnd (by rw [← hpe.length_eq]; exact hfew)) fun _ => ?_)
    refine Ev.is (ev_cb (ea_cons (EvN.ev (EvN.is (evn_lcLY (xs := ps) (enc := fun p => .int (lv p)) (f := fun _ => .bl true) (SrcL.is (sl_valsT rfl (kn_var rfl)) ?_) (by omega) fun p hp => ?_) ?_)) ea_nil) (rc_all (bs := ps.map fun _ => true))) (all1 ps)
    · rw [List.map_map]; rfl
    · exact lct (tg_name (by decide)) et_yes fun _ => ev_call (ea_cons (ev_var rfl) ea_nil) rfl ⟨_, rfl, rfl⟩ (fun z => by cases z)
    · rw [List.map_map]; rfl
/-! are_lacks -/
abbrev s_are_lacks : Stmt := (topS 28)
abbrev N_are_lacks : List Str := ["graph", "levels", "thing", "known", "level", "lack"]
theorem sc_are_lacks : FnScope N_are_lacks ["graph", "levels", "thing"] (defScope s_are_lacks) := ⟨rfl, rfl, rfl, by decide +kernel, rfl, by decide +kernel, by decide +kernel⟩
def R_are_lacks (C : Addr) : List D → D → Prop := fun ds d => ∃ W ws ps lv ns lk, ds = [gD C W, levD ps lv, lkD ns lk] ∧ Paper W ws ps lv ns lk ∧ W.length ≤ 30 ∧ d = .bl true
theorem ok_are_lacks {C : Addr} {f : Addr} {fd : FuncData} (F : Fun K "are_lacks" "are_lacks" s_are_lacks f fd) (T : Bu K w mg) (F_is_number : Fn P w K mg base 1 "is_number" ["thing"] (PureSp false 1 R_is_number)) (F_Graph_words : Me P w K mg base 1 C "words" ["self"] (PureSp false 1 (R_Graph_words C))) : FnOk P w K mg base CX0 2 f fd ["graph", "levels", "thing"] (PureSp true 3 (R_are_lacks C)) := by
  refine F.ok sc_are_lacks (fun vs H Q E h => h.1) (fun cdv A outer s H vs Q E hr h => ?_)
  have nd := sc_are_lacks.nd
  have hu65 := hu65_of hr
  have hu : _ + 1 < cLine := Nat.lt_of_le_of_lt (Nat.add_le_add_left (by decide : 1 ≤ 65) _) hu65
  refine ⟨_, (pss_cons (ps_if (PW.pt (pw_or (pt_not (pt_val (pe_callB call_isi (by rfl) T.n_isinstance (by decide +kernel) (pa_cons (pv 2) (pa_cons (pe_bltn (v := .ty "dict") (by rfl) T.n_dict (by decide +kernel) rfl) pa_nil))))) (pw_or1 (pt_not (pt_val (pe_callB (cr_all rfl) (by rfl) T.n_all (by decide +kernel) (pa_cons (pe_lock (pe_lc (g := (gName 4)) (tt := tYes) (te := (tCall _ _ _ (tCons (tVar 4) tNil))) (own := [("level", 4)]) rfl nd (pi_keys (pv 2)) (blkOk_by (own := [("level", 4)]) (N := N_are_lacks) (sc := (defScope s_are_lacks)) (by decide +kernel)) (fun _ _ _ _ _ => (pg_name (i := 4) nd rfl (Or.inl rfl))) (fun _ _ _ _ _ => pts_nil) (fun _ _ _ _ _ => (pe_fn F_is_number (hr.mono (by decide)) rfl (pa_cons (pv 4) pa_nil))))) pa_nil))))))) (pss_one (ps_ret pe_bl)) pss_nil)
  (pss_cons (ps_set (i := 3) nd rfl (Or.inr rfl) (pe_op op_cat (pe_lst (pa_cons pe_non pa_nil)) (pe_me0 F_Graph_words (pv 0) (hr.mono (by decide)))))
  (pss_one (ps_ret (pe_and (pe_cmpR (op_eqIJ hu) (pe_callTy cr_setDK (by rfl) T.n_set (by decide +kernel) (pa_cons (pv 2) pa_nil)) (pe_callTy (cr_setLI rfl) (by rfl) T.n_set (by decide +kernel) (pa_cons (pe_callTy (call_listVals rfl) (by rfl) T.n_list (by decide +kernel) (pa_cons (pe_bm0 PySem.F.plainAttrs_dict PySem.F.slot_dict_values PySem.F.type_dict_values mt_valuesT (pv 1)) pa_nil)) pa_nil)) (nomark _)) (pe_one (pe_callB (cr_all rfl) (by rfl) T.n_all (by decide +kernel) (pa_cons (pe_lock (pe_lc (g := (gName 5)) (tt := tYes) (te := (tOp (rIn _ false) (tVar 5) (tVar 3))) (own := [("lack", 5)]) rfl nd (pi_values (pv 2)) (blkOk_by (own := [("lack", 5)]) (N := N_are_lacks) (sc := (defScope s_are_lacks)) (by decide +kernel)) (fun _ _ _ _ _ => (pg_name (i := 5) nd rfl (Or.inl rfl))) (fun _ _ _ _ _ => pts_nil) (fun _ _ _ _ _ => (pe_cmpR op_in_seq (pv 5) (pv 3) rfl)))) pa_nil)))))))), ?_⟩
  refine body_ok h fun ds d hn hR => ?_
  obtain ⟨W, ws, ps, lv, ns, lk, rfl, pa, hW, rfl⟩ := hR
  have hfew := pa.few
  have hnfew := pa.nfew
  have all1 : ∀ {α : Type} (xs : List α), D.bl ((xs.map fun _ => true).all id) = .bl true := fun xs => by simp
  refine st_no (EvT.is (et_or (c1 := false) (c2 := false) (EvT.is (et_not (c := true) (et_test (ev_cb (ea_cons (ev_var rfl) (ea_cons ev_ty ea_nil)) (rc_isiD rfl rfl rfl)))) rfl) fun _ => ?_) rfl) ?_
  · refine EvT.is (et_not (c := true) (et_test (Ev.is (ev_cb (ea_cons (EvN.ev (EvN.is (evn_lcLY (xs := ns) (enc := fun n => .int n) (f := fun _ => .bl true) (SrcL.is (sl_keysK rfl (kn_var rfl)) ?_) (by omega) fun p hp => ?_) ?_)) ea_nil) (rc_all (bs := ns.map fun _ => true))) (all1 ns)))) rfl
    · rw [List.map_map]; rfl
    · exact lct (tg_name (by decide)) et_yes fun _ => ev_call (ea_cons (ev_var rfl) ea_nil) rfl ⟨_, rfl, rfl⟩ (fun z => by cases z)
    · rw [List.map_map]; rfl
  refine st_set (x := .lst ((none :: W.map some).map oD)) (EvN.ev (EvN.is (evn_op (EvN.ev (evn_lst (ea_cons ev_non ea_nil) (by decide))) (ev_meth (ev_var rfl) rfl ea_nil rfl ⟨W, rfl, rfl⟩ (fun z => by cases z)) (rn_cat (by simp; exact sizeOk (by omega)))) ?_)) ?_
  · rw [List.map_cons, List.map_map]; rfl
  refine st_ret (ev_andV (c1 := true) (c2 := true) (ev_eqSetI (ns := ps.map lv) (ds := ns) (ea_cons (ev_var rfl) ea_nil) (ea_cons (EvN.ev (EvN.is (evn_listVals rfl (ev_var rfl)) ?_)) ea_nil) (by rw [List.map_map]; rfl) pa.nnd pa.mem hnfew (by rw [List.length_map]; exact hfew)) fun _ => ?_)
  · rw [List.map_map, List.map_map]; rfl
  refine Ev.is (ev_cb (ea_cons (EvN.ev (EvN.is (evn_lcLY (xs := ns) (enc := fun n => oD (lk n)) (f := fun _ => .bl true) (SrcL.is (sl_valsK rfl (kn_var rfl)) ?_) (by omega) fun p hp => ?_) ?_)) ea_nil) (rc_all (bs := ns.map fun _ => true))) (all1 ns)
  · rw [List.map_map]; rfl
  · exact lct (tg_name (by decide)) et_yes fun _ => Ev.is (ev_op (ev_var rfl) (ev_var rfl) rd_inO) (by rw [decide_eq_true (pa.lk p hp)])
  · rw [List.map_map]; rfl
/-! is_level_right -/
abbrev s_is_level_right : Stmt := (topS 29)
abbrev N_is_level_right : List Str := ["lacks", "levels", "pair", "steps", "level", "step"]
theorem sc_is_level_right : FnScope N_is_level_right ["lacks", "levels", "pair", "steps"] (defScope s_is_level_right) := ⟨rfl, rfl, rfl, by decide +kernel, rfl, by decide +kernel, by decide +kernel⟩
def R_is_level_right : List D → D → Prop := fun ds d => ∃ ps lv ns lk p ss, ds = [lkD ns lk, levD ps lv, pD p, lD ss] ∧ p ∈ ps ∧ (∀ s ∈ ss, s ∈ ps) ∧ lv p ∈ ns ∧ ss.length ≤ 900 ∧ d = .bl (rightB lv lk p ss)
theorem ok_is_level_right {f : Addr} {fd : FuncData} (F : Fun K "is_level_right" "is_level_right" s_is_level_right f fd) (T : Bu K w mg) : FnOk P w K mg base CX0 1 f fd ["lacks", "levels", "pair", "steps"] (PureSp false 4 R_is_level_right) := by
  refine F.ok sc_is_level_right (fun vs H Q E h => h.1) (fun cdv A outer s H vs Q E hr h => ?_)
  have nd := sc_is_level_right.nd
  have hu := hu_of hr
  refine ⟨_, (pss_cons (ps_set (i := 4) nd rfl (Or.inr rfl) (pe_dget hu (pv 1) (pv 2) (fun _ _ => rfl)))
  (pss_cons (ps_if (pt_val (pe_callB (cr_any rfl) (by rfl) T.n_any (by decide +kernel) (pa_cons (pe_lc (g := (gName 5)) (tt := tYes) (te := (tOp _ (tDGet (tVar 1) (tVar 5)) (tVar 4))) (own := [("step", 5)]) rfl nd (pi_list (pv 3)) (blkOk_by (own := [("step", 5)]) (N := N_is_level_right) (sc := (defScope s_is_level_right)) (by decide +kernel)) (fun _ _ _ _ _ => (pg_name (i := 5) nd rfl (Or.inl rfl))) (fun _ _ _ _ _ => pts_nil) (fun _ _ _ _ _ => (pe_cmpR op_lt (pe_dget hu (pv 1) (pv 5) (fun _ _ => rfl)) (pv 4) (nomark _)))) pa_nil))) (pss_one (ps_ret pe_bl)) pss_nil)
  (pss_cons (ps_if (pt_cmpR op_isN (pe_dget hu (pv 0) (pv 4) (fun _ _ => rfl)) pe_non (nomark _)) (pss_one (ps_ret (pe_callB (cr_all rfl) (by rfl) T.n_all (by decide +kernel) (pa_cons (pe_lc (g := (gName 5)) (tt := tYes) (te := (tOp _ (tDGet (tVar 1) (tVar 5)) (tVar 4))) (own := [("step", 5)]) rfl nd (pi_list (pv 3)) (blkOk_by (own := [("step", 5)]) (N := N_is_level_right) (sc := (defScope s_is_level_right)) (by decide +kernel)) (fun _ _ _ _ _ => (pg_name (i := 5) nd rfl (Or.inl rfl))) (fun _ _ _ _ _ => pts_nil) (fun _ _ _ _ _ => (pe_cmpR op_ne (pe_dget hu (pv 1) (pv 5) (fun _ _ => rfl)) (pv 4) (nomark _)))) pa_nil)))) pss_nil)
  (pss_one (ps_ret (pe_cmpR op_ne (pe_ix ix_tup (pv 2) pe_int (fun _ _ => rfl)) (pe_dget hu (pv 0) (pv 4) (fun _ _ => rfl)) (nomark _))))))), ?_⟩
  refine body_ok h fun ds d hn hR => ?_
  obtain ⟨ps, lv, ns, lk, p, ss, rfl, hp, hss, hn2, hl, rfl⟩ := hR
  refine st_set (x := .int (lv p)) (ev_dgetT (ev_var rfl) (ev_var rfl) (valD_map pK_inj' hp)) ?_
  refine st_ifR (ts := tNext) (c := ss.any fun s => decide (lv s < lv p)) (EvT.is (et_test (ev_cb (ea_cons (EvN.ev (EvN.is (evn_lcY (xs := ss) (enc := pD) (f := fun s => .bl (decide (lv s < lv p))) (src_list (ev_var rfl)) (by omega) fun s hs => ?_) ?_)) ea_nil) (rc_any (bs := ss.map fun s => decide (lv s < lv p))))) ?_) ?_ ?_
  · exact lct (tg_name (by decide)) et_yes fun _ => ev_op (ev_dgetT (ev_var rfl) (ev_var rfl) (valD_map pK_inj' (hss s hs))) (ev_var rfl) (rd_I0b rfl)
  · rw [List.map_map]; rfl
  · rw [List.any_map]; rfl
  · intro hc
    refine st_ret (Ev.is ev_bl ?_)
    unfold rightB
    rw [if_pos hc]
  · intro hc
    unfold rightB
    rw [if_neg (by rw [hc]; decide)]
    refine st_ifR (ts := tNext) (c := isNonD (oD (lk (lv p)))) (et_test (ev_op (ev_dgetK (k := Sum.inl (lv p)) (ev_var rfl) (ev_var rfl) (valD_map inl_inj' hn2)) ev_non rd_isN)) ?_ ?_
    · intro h1
      cases hk : lk (lv p) with
      | some w => rw [hk] at h1; cases h1
      | none =>
        refine st_ret (Ev.is (ev_cb (ea_cons (EvN.ev (EvN.is (evn_lcY (xs := ss) (enc := pD) (f := fun s => .bl (!decide (lv s = lv p))) (src_list (ev_var rfl)) (by omega) fun s hs => ?_) ?_)) ea_nil) (rc_all (bs := ss.map fun s => (!decide (lv s = lv p))))) ?_)
        · exact lct (tg_name (by decide)) et_yes fun _ => ev_op (ev_dgetT (ev_var rfl) (ev_var rfl) (valD_map pK_inj' (hss s hs))) (ev_var rfl) rd_neI
        · rw [List.map_map]; rfl
        · rw [List.all_map]
          congr 1
          simp [Function.comp_def]
    · intro h1
      cases hk : lk (lv p) with
      | none => rw [hk] at h1; cases h1
      | some w =>
        refine st_ret (Ev.is (ev_op (y := .str w) (ev_op (ev_var rfl) ev_int rd_fst) (ev_dgetK (k := Sum.inl (lv p)) (ev_var rfl) (ev_var rfl) (by rw [valD_map inl_inj' hn2, hk]; rfl)) rd_neS) ?_)
        simp
/-! lets_by -/
abbrev s_lets_by : Stmt := (topS 30)
abbrev N_lets_by : List Str := ["graph", "row", "paper", "words", "levels", "lacks", "pair"]
theorem sc_lets_by : FnScope N_lets_by ["graph", "row", "paper"] (defScope s_lets_by) := ⟨rfl, rfl, rfl, by decide +kernel, rfl, by decide +kernel, by decide +kernel⟩
def R_lets_by (C : Addr) : List D → D → Prop := fun ds d => ∃ W k row ps lv ns lk, ds = [gD C W, .str row, .tup [levD ps lv, lkD ns lk]] ∧ GoodW W k ∧ Conn W ∧ RowOk row ∧ k ≤ row.length ∧ row.length ≤ 900 ∧ Paper W (wordsS row k) ps lv ns lk ∧ d = .bl (ps.all fun p => rightB lv lk p (stepsOf W (wordsS row k) p))
theorem wordsS_len {row : Str} {k : Nat} (h1 : k ≤ row.length) : (wordsS row k).length = row.length + 1 - k := by unfold wordsS; simp
theorem ok_lets_by {C : Addr} (cl : Cl K C gFlds) {f : Addr} {fd : FuncData} (F : Fun K "lets_by" "lets_by" s_lets_by f fd) (T : Bu K w mg) (F_need_asked : Fn P w K mg base 3 "need_asked" ["graph", "row"] (PureSp false 2 (R_need_asked C))) (F_words_in : Fn P w K mg base 1 "words_in" ["row", "k"] (PureSp false 2 R_words_in)) (F_Graph_size : Me P w K mg base 1 C "size" ["self"] (PureSp false 1 (R_Graph_size C)))
    (F_are_levels : Fn P w K mg base 3 "are_levels" ["graph", "words", "thing"] (PureSp true 3 (R_are_levels C))) (F_are_lacks : Fn P w K mg base 2 "are_lacks" ["graph", "levels", "thing"] (PureSp true 3 (R_are_lacks C))) (F_is_level_right : Fn P w K mg base 1 "is_level_right" ["lacks", "levels", "pair", "steps"] (PureSp false 4 R_is_level_right)) (F_steps_from : Fn P w K mg base 3 "steps_from" ["graph", "words", "pair"] (PureSp false 3 (R_steps_from C))) : FnOk P w K mg base CX0 4 f fd ["graph", "row", "paper"] (PureSp true 3 (R_lets_by C)) := by
  refine F.ok sc_lets_by (fun vs H Q E h => h.1) (fun cdv A outer s H vs Q E hr h => ?_)
  have nd := sc_lets_by.nd
  refine ⟨_, (pss_cons (ps_expr (pe_fn F_need_asked (hr.mono (by decide)) rfl (pa_cons (pv 0) (pa_cons (pv 1) pa_nil))))
  (pss_cons (ps_set (i := 3) nd rfl (Or.inr rfl) (pe_fn F_words_in (hr.mono (by decide)) rfl (pa_cons (pv 1) (pa_cons (pe_me0 F_Graph_size (pv 0) (hr.mono (by decide))) pa_nil))))
  (pss_cons (ps_if (PW.pt (pw_or (pt_not (pt_val (pe_callB call_isi (by rfl) T.n_isinstance (by decide +kernel) (pa_cons (pv 2) (pa_cons (pe_bltn (v := .ty "tuple") (by rfl) T.n_tuple (by decide +kernel) rfl) pa_nil))))) (pw_or (pt_cmpR op_ne (pe_callB call_len_seq (by rfl) T.n_len (by decide +kernel) (pa_cons (pv 2) pa_nil)) pe_int (nomark _)) (pw_or1 (pt_not (pt_val (pe_fn F_are_levels (hr.mono (by decide)) rfl (pa_cons (pv 0) (pa_cons (pv 3) (pa_cons (pe_ix ix_tup (pv 2) pe_int (fun _ _ => rfl)) pa_nil)))))))))) (pss_one (ps_ret pe_bl)) pss_nil)
  (pss_cons (ps_asg (pv 2) (pg_tup rfl (pgs_cons (pg_name (i := 4) nd rfl (Or.inr rfl)) (pgs_cons (pg_name (i := 5) nd rfl (Or.inr rfl)) pgs_nil))))
  (pss_cons (ps_if (pt_not (pt_val (pe_fn F_are_lacks (hr.mono (by decide)) rfl (pa_cons (pv 0) (pa_cons (pv 4) (pa_cons (pv 5) pa_nil)))))) (pss_one (ps_ret pe_bl)) pss_nil)
  (pss_one (ps_ret (pe_callB (cr_all rfl) (by rfl) T.n_all (by decide +kernel) (pa_cons (pe_lock (pe_lc (g := (gName 6)) (tt := tYes) (te := (tCall _ _ _ (tCons (tVar 5) (tCons (tVar 4) (tCons (tVar 6) (tCons (tCall _ _ _ (tCons (tVar 0) (tCons (tVar 3) (tCons (tVar 6) tNil)))) tNil)))))) (own := [("pair", 6)]) rfl nd (pi_keys (pv 4)) (blkOk_by (own := [("pair", 6)]) (N := N_lets_by) (sc := (defScope s_lets_by)) (by decide +kernel)) (fun _ _ _ _ _ => (pg_name (i := 6) nd rfl (Or.inl rfl))) (fun _ _ _ _ _ => pts_nil) (fun _ _ _ _ _ => (pe_fn F_is_level_right (hr.mono (by decide)) rfl (pa_cons (pv 5) (pa_cons (pv 4) (pa_cons (pv 6) (pa_cons (pe_fn F_steps_from (hr.mono (by decide)) rfl (pa_cons (pv 0) (pa_cons (pv 3) (pa_cons (pv 6) pa_nil)))) pa_nil)))))))) pa_nil))))))))), ?_⟩
  refine body_ok h fun ds d hn hR => ?_
  obtain ⟨W, k, row, ps, lv, ns, lk, rfl, g, hc, hrow, hk, hl, pa, rfl⟩ := hR
  have hW := g.few
  have hwl := wordsS_len hk
  have hk3 : 3 ≤ k := by have := g.size; omega
  have hfew := pa.few
  generalize hws : wordsS row k = ws at *
  refine st_drop (ev_call (ea_cons (ev_var rfl) (ea_cons (ev_var rfl) ea_nil)) rfl ⟨W, k, row, rfl, g, hc, hrow, hk, hl, rfl⟩ (fun z => by cases z)) ?_
  refine st_set (x := sD ws) (ev_call (ea_cons (ev_var rfl) (ea_cons (ev_meth (ev_var rfl) rfl ea_nil rfl ⟨W, k, rfl, g, rfl⟩ (fun z => by cases z)) ea_nil)) rfl ?_ (fun z => by cases z)) ?_
  · subst hws
    exact ⟨row, k, rfl, hl, hk, rfl⟩
  refine st_no (EvT.is (et_or (c1 := false) (c2 := false) (EvT.is (et_not (c := true) (et_test (ev_cb (ea_cons (ev_var rfl) (ea_cons ev_ty ea_nil)) (rc_isi rfl rfl rfl)))) rfl) fun _ => ?_) rfl) ?_
  · refine EvT.is (et_or (c1 := false) (c2 := false) (EvT.is (et_test (ev_op (ev_cb (ea_cons (ev_var rfl) ea_nil) rc_lenT) ev_int rd_neI)) rfl) fun _ => ?_) rfl
    exact EvT.is (et_not (c := true) (et_test (ev_call (ea_cons (ev_var rfl) (ea_cons (ev_var rfl) (ea_cons (ev_op (ev_var rfl) ev_int (rd_ixT (atI_nat (j := 0) rfl))) ea_nil))) rfl ⟨W, ws, ps, lv, rfl, pa.perm, pa.nd, pa.few, hW, by omega, rfl⟩ (fun _ => rfl)))) rfl
  refine st_pair (ev_var rfl) ?_
  refine st_no (EvT.is (et_not (c := true) (et_test (ev_call (ea_cons (ev_var rfl) (ea_cons (ev_var rfl) (ea_cons (ev_var rfl) ea_nil))) rfl ⟨W, ws, ps, lv, ns, lk, rfl, pa, hW, rfl⟩ (fun _ => rfl)))) rfl) ?_
  refine st_ret (Ev.is (ev_cb (ea_cons (EvN.ev (EvN.is (evn_lcLY (xs := ps) (enc := pD) (f := fun p => .bl (rightB lv lk p (stepsOf W ws p))) (SrcL.is (sl_keysT rfl (kn_var rfl)) ?_) (by omega) fun p hp => ?_) ?_)) ea_nil) (rc_all (bs := ps.map fun p => rightB lv lk p (stepsOf W ws p)))) ?_)
  · rw [List.map_map]; rfl
  · have hpp := pa.perm.mem_iff.mp hp
    have hsl := steps_len (W := W) (ws := ws) (p := p)
    refine lct (tg_name (by decide)) et_yes fun _ => ev_call (ea_cons (ev_var rfl) (ea_cons (ev_var rfl) (ea_cons (ev_var rfl) (ea_cons (ev_call (ea_cons (ev_var rfl) (ea_cons (ev_var rfl) (ea_cons (ev_var rfl) ea_nil))) rfl ⟨W, ws, p, rfl, (mem_pairsOf.mp hpp).1, pairs_lt hpp (by omega), hW, by omega, rfl⟩ (fun z => by cases z)) ea_nil)))) rfl ⟨ps, lv, ns, lk, p, _, rfl, hp, fun s hs => pa.perm.mem_iff.mpr (steps_pairs hs), (pa.mem _).mpr (List.mem_map.mpr ⟨p, hp, rfl⟩), by omega, rfl⟩ (fun z => by cases z)
  · rw [List.map_map]; rfl
  · rw [List.all_map]; rfl
end
end Sh
set_option Elab.async false
set_option linter.all false
/-! Mb: parts of a graph by two walks, plain. -/
namespace Sh
section
variable {α : Type} [DecidableEq α] {S : α → List α} {V : List α}
/-- from a to b, in any number of steps -/
inductive Rs (S : α → List α) : α → α → Prop
  | refl (a : α) : Rs S a a
  | step {a b c : α} : b ∈ S a → Rs S b c → Rs S a c
theorem Rs.trans {a b c : α} (h : Rs S a b) (k : Rs S b c) : Rs S a c := by
  induction h with
  | refl => exact k
  | step h _ ih => exact .step h (ih k)
theorem Rs.one {a b : α} (h : b ∈ S a) : Rs S a b := .step h (.refl b)
theorem Rs.snoc {a b c : α} (h : Rs S a b) (k : c ∈ S b) : Rs S a c := h.trans (.one k)
theorem Rs.in_ {a b : α} (h : Rs S a b) (cl : ∀ p ∈ V, ∀ s ∈ S p, s ∈ V) (ha : a ∈ V) : b ∈ V := by
  induction h with
  | refl => exact ha
  | step h _ ih => exact ih (cl _ ha _ h)
/-- .. in one step or more -/
def Rp (S : α → List α) (a c : α) : Prop := ∃ b, b ∈ S a ∧ Rs S b c
theorem Rp.rs {a b : α} (h : Rp S a b) : Rs S a b := by obtain ⟨c, h1, h2⟩ := h; exact .step h1 h2
theorem Rs.rp {a b c : α} (h : Rs S a b) (k : Rp S b c) : Rp S a c := by
  cases h with
  | refl => exact k
  | step h1 h2 => exact ⟨_, h1, h2.trans k.rs⟩
theorem Rp.rs_ {a b c : α} (h : Rp S a b) (k : Rs S b c) : Rp S a c := by obtain ⟨d, h1, h2⟩ := h; exact ⟨d, h1, h2.trans k⟩
/-- what is gone out of -/
def Blk (S : α → List α) (fin gs : List α) : Prop := ∀ (i : Nat) (y s : α), fin[i]? = some y → s ∈ S y →
  (∃ j, j ≤ i ∧ fin[j]? = some s) ∨ (∃ j, i < j ∧ fin[j]? = some s ∧ ∀ (l : Nat) (w : α), i ≤ l → l < j → fin[l]? = some w → Rs S s w) ∨ (s ∈ gs ∧ ∀ (l : Nat) (w : α), i ≤ l → fin[l]? = some w → Rs S s w)
structure DfsI (V : List α) (S : α → List α) (ms fin : List α) (stk : List (α × List α)) : Prop where
  nd : (fin ++ stk.map (·.1)).Nodup
  mem : ∀ p, p ∈ ms ↔ p ∈ fin ∨ p ∈ stk.map (·.1)
  msnd : ms.Nodup
  sub : ∀ p ∈ ms, p ∈ V
  path : ∀ (i j : Nat) (x y : α × List α), i ≤ j → stk[i]? = some x → stk[j]? = some y → Rs S x.1 y.1
  left : ∀ x ∈ stk, (∀ s ∈ S x.1, s ∈ ms ∨ s ∈ x.2) ∧ ∀ s ∈ x.2, s ∈ S x.1
  blk : Blk S fin (stk.map (·.1))
theorem get_snoc {β : Type} {l : List β} {z y : β} {i : Nat} (h : (l ++ [z])[i]? = some y) : l[i]? = some y ∨ (i = l.length ∧ y = z) := by
  by_cases c : i < l.length
  · rw [List.getElem?_append_left c] at h; exact .inl h
  · rw [List.getElem?_append_right (by omega)] at h
    have : i - l.length = 0 := by
      have := (List.getElem?_eq_some_iff.mp h).1
      simp at this
      omega
    rw [this] at h
    cases h
    exact .inr ⟨by omega, rfl⟩
theorem get_lt {β : Type} {l : List β} {y : β} {i : Nat} (h : l[i]? = some y) : i < l.length := (List.getElem?_eq_some_iff.mp h).1
theorem DfsI.nil : DfsI V S [] [] [] := ⟨List.nodup_nil, fun p => by simp, List.nodup_nil, (fun p h => nomatch h), (fun i j x y _ h => nomatch h), (fun x h => nomatch h), (fun i y s h => nomatch h)⟩
theorem DfsI.add {ms fin : List α} {stk : List (α × List α)} {s : α} (d : DfsI V S ms fin stk) (h : s ∉ ms) (hV : s ∈ V) (hr : ∀ x ∈ stk, Rs S x.1 s) : DfsI V S (ms ++ [s]) fin (stk ++ [(s, S s)]) := by
  have hn : s ∉ fin ∧ s ∉ stk.map (·.1) := by
    rw [← not_or]; exact fun z => h ((d.mem s).mpr z)
  refine ⟨?_, fun p => ?_, ?_, fun p hp => ?_, fun i j x y hij hi hj => ?_, fun x hx => ?_, fun i y z h1 h2 => ?_⟩
  · rw [List.map_append, ← List.append_assoc, List.nodup_append]
    refine ⟨d.nd, by simp, fun a ha c hc e => ?_⟩
    simp at hc
    subst hc; subst e
    rcases List.mem_append.mp ha with q | q
    · exact hn.1 q
    · exact hn.2 q
  · rw [List.map_append, List.mem_append, List.mem_append, d.mem p]
    constructor
    · rintro ((q | q) | q)
      · exact .inl q
      · exact .inr (.inl q)
      · exact .inr (.inr (by simpa using q))
    · rintro (q | q | q)
      · exact .inl (.inl q)
      · exact .inl (.inr q)
      · exact .inr (by simpa using q)
  · rw [List.nodup_append]
    exact ⟨d.msnd, by simp, fun a ha c hc e => by simp at hc; subst hc; subst e; exact h ha⟩
  · rcases List.mem_append.mp hp with q | q
    · exact d.sub p q
    · rw [List.mem_singleton.mp q]; exact hV
  · rcases get_snoc hj with q | ⟨q, rfl⟩
    · have := get_lt q
      rcases get_snoc hi with q' | ⟨q', _⟩
      · exact d.path i j x y hij q' q
      · omega
    · rcases get_snoc hi with q' | ⟨q', rfl⟩
      · exact hr x (List.mem_of_getElem? q')
      · exact .refl _
  · rcases List.mem_append.mp hx with q | q
    · obtain ⟨h1, h2⟩ := d.left x q
      refine ⟨fun z hz => ?_, h2⟩
      rcases h1 z hz with r | r
      · exact .inl (List.mem_append_left _ r)
      · exact .inr r
    · rw [List.mem_singleton.mp q]
      exact ⟨fun z hz => .inr hz, fun z hz => hz⟩
  · rcases d.blk i y z h1 h2 with q | q | ⟨q1, q2⟩
    · exact .inl q
    · exact .inr (.inl q)
    · exact .inr (.inr ⟨by rw [List.map_append]; exact List.mem_append_left _ q1, q2⟩)
theorem DfsI.to_top {ms fin : List α} {stk : List (α × List α)} {t : α × List α} (d : DfsI V S ms fin (stk ++ [t])) : ∀ x ∈ stk ++ [t], Rs S x.1 t.1 := fun x hx => by
  obtain ⟨i, hi, e⟩ := List.mem_iff_getElem.mp hx
  refine d.path i stk.length x t (by simp at hi; omega) (by rw [List.getElem?_eq_getElem hi, e]) ?_
  rw [List.getElem?_append_right (Nat.le_refl _)]
  simp
theorem DfsI.push {ms fin l : List α} {stk : List (α × List α)} {p s : α} (d : DfsI V S ms fin (stk ++ [(p, l ++ [s])])) (h : s ∉ ms) (cl : ∀ p ∈ V, ∀ s ∈ S p, s ∈ V) : DfsI V S (ms ++ [s]) fin (stk ++ [(p, l ++ [s])] ++ [(s, S s)]) := by
  have hs : s ∈ S p := (d.left _ (List.mem_append_right _ List.mem_cons_self)).2 s (by simp)
  have hp : p ∈ ms := (d.mem p).mpr (.inr (by simp))
  exact d.add h (cl p (d.sub p hp) s hs) fun x hx => (d.to_top x hx).snoc hs
theorem DfsI.pop {ms fin l : List α} {stk : List (α × List α)} {p s : α} (d : DfsI V S ms fin (stk ++ [(p, l ++ [s])])) (h : s ∈ ms) : DfsI V S ms fin (stk ++ [(p, l)]) := by
  have e : (stk ++ [(p, l ++ [s])]).map (·.1) = (stk ++ [(p, l)]).map (·.1) := by simp
  refine ⟨e ▸ d.nd, fun q => e ▸ d.mem q, d.msnd, d.sub, fun i j x y hij hi hj => ?_, fun x hx => ?_, e ▸ d.blk⟩
  · have g : ∀ {i : Nat} {x : α × List α}, (stk ++ [(p, l)])[i]? = some x → ∃ x', (stk ++ [(p, l ++ [s])])[i]? = some x' ∧ x'.1 = x.1 := fun {i x} hi => by
      rcases get_snoc hi with q | ⟨q, rfl⟩
      · exact ⟨x, by rw [List.getElem?_append_left (get_lt q)]; exact q, rfl⟩
      · subst q
        exact ⟨(p, l ++ [s]), by rw [List.getElem?_append_right (Nat.le_refl _)]; simp, rfl⟩
    obtain ⟨x', hx', ex⟩ := g hi
    obtain ⟨y', hy', ey⟩ := g hj
    rw [← ex, ← ey]
    exact d.path i j x' y' hij hx' hy'
  · rcases List.mem_append.mp hx with q | q
    · exact d.left x (List.mem_append_left _ q)
    · rw [List.mem_singleton.mp q]
      obtain ⟨h1, h2⟩ := d.left (p, l ++ [s]) (List.mem_append_right _ List.mem_cons_self)
      refine ⟨fun z hz => ?_, fun z hz => h2 z (List.mem_append_left _ hz)⟩
      rcases h1 z hz with r | r
      · exact .inl r
      · rcases List.mem_append.mp r with r | r
        · exact .inr r
        · rw [List.mem_singleton.mp r]; exact .inl h
theorem DfsI.finish {ms fin : List α} {stk : List (α × List α)} {p : α} (d : DfsI V S ms fin (stk ++ [(p, [])])) : DfsI V S ms (fin ++ [p]) stk := by
  have e : (stk ++ [(p, ([] : List α))]).map (·.1) = stk.map (·.1) ++ [p] := by simp
  have top := d.to_top
  have inS : ∀ z ∈ stk.map (·.1) ++ [p], Rs S z p := fun z hz => by
    rw [← e] at hz
    obtain ⟨x, hx, rfl⟩ := List.mem_map.mp hz
    exact top x hx
  refine ⟨?_, fun q => ?_, d.msnd, d.sub, fun i j x y hij hi hj => ?_, fun x hx => d.left x (List.mem_append_left _ hx), fun i y s h1 h2 => ?_⟩
  · have := d.nd
    rw [e] at this
    rw [List.append_assoc]
    refine this.perm ?_ 
    exact List.Perm.append_left fin List.perm_append_comm
  · rw [d.mem q, e]
    simp only [List.mem_append, List.mem_singleton]
    constructor
    · rintro (q | q | q)
      · exact .inl (.inl q)
      · exact .inr q
      · exact .inl (.inr q)
    · rintro ((q | q) | q)
      · exact .inl q
      · exact .inr (.inr q)
      · exact .inr (.inl q)
  · exact d.path i j x y hij (by rw [List.getElem?_append_left (get_lt hi)]; exact hi) (by rw [List.getElem?_append_left (get_lt hj)]; exact hj)
  · rcases get_snoc h1 with q | ⟨q, rfl⟩
    · have hl := get_lt q
      rcases d.blk i y s q h2 with ⟨j, q1, q2⟩ | ⟨j, q1, q2, q3⟩ | ⟨q1, q2⟩
      · exact .inl ⟨j, q1, by rw [List.getElem?_append_left (get_lt q2)]; exact q2⟩
      · refine .inr (.inl ⟨j, q1, by rw [List.getElem?_append_left (get_lt q2)]; exact q2, fun l w hl1 hl2 hw => ?_⟩)
        have := get_lt q2
        rw [List.getElem?_append_left (by omega)] at hw
        exact q3 l w hl1 hl2 hw
      · rw [e] at q1
        rcases List.mem_append.mp q1 with r | r
        · refine .inr (.inr ⟨r, fun l w hl1 hw => ?_⟩)
          rcases get_snoc hw with z | ⟨_, rfl⟩
          · exact q2 l w hl1 z
          · exact inS s q1
        · have := List.mem_singleton.mp r
          subst this
          refine .inr (.inl ⟨fin.length, hl, by rw [List.getElem?_append_right (Nat.le_refl _)]; simp, fun l w hl1 hl2 hw => ?_⟩)
          rw [List.getElem?_append_left hl2] at hw
          exact q2 l w hl1 hw
    · subst q
      have hm := ((d.left (y, []) (List.mem_append_right _ List.mem_cons_self)).1 s h2).resolve_right (fun z => by cases z)
      rcases (d.mem s).mp hm with r | r
      · obtain ⟨j, hj, ej⟩ := List.mem_iff_getElem.mp r
        exact .inl ⟨j, by omega, by rw [List.getElem?_append_left hj, List.getElem?_eq_getElem hj, ej]⟩
      · rw [e] at r
        rcases List.mem_append.mp r with r' | r'
        · refine .inr (.inr ⟨r', fun l w hl1 hw => ?_⟩)
          rcases get_snoc hw with z | ⟨_, rfl⟩
          · have := get_lt z; omega
          · exact inS s r
        · have := List.mem_singleton.mp r'
          subst this
          exact .inl ⟨fin.length, Nat.le_refl _, by rw [List.getElem?_append_right (Nat.le_refl _)]; simp⟩
/-- the order of going out -/
structure FinOk (V : List α) (S : α → List α) (fin : List α) : Prop where
  nd : fin.Nodup
  mem : ∀ p, p ∈ fin ↔ p ∈ V
  blk : Blk S fin []
theorem DfsI.fin {ms fin : List α} (d : DfsI V S ms fin []) (h : ∀ p ∈ V, p ∈ ms) : FinOk V S fin := by
  refine ⟨by simpa using d.nd, fun p => ⟨fun hp => d.sub p ((d.mem p).mpr (.inl hp)), fun hp => ?_⟩, d.blk⟩
  rcases (d.mem p).mp (h p hp) with q | q
  · exact q
  · cases q
variable {fin : List α}
/-- a step over the place i -/
theorem FinOk.cross (F : FinOk V S fin) {i : Nat} {y : α} (hi : fin[i]? = some y) : ∀ {a x : α}, Rs S a x → a ∈ fin → Rs S y a → (∃ j, j ≤ i ∧ fin[j]? = some a) → (∃ j, i < j ∧ fin[j]? = some x) → (∀ p ∈ V, ∀ s ∈ S p, s ∈ V) →
    ∃ q j, i < j ∧ fin[j]? = some q ∧ Rs S y q ∧ Rs S q y ∧ Rs S q x := by
  intro a x h
  induction h with
  | refl a =>
    intro ha _ ⟨j, hj, e⟩ ⟨j', hj', e'⟩ _
    exfalso
    have := (List.getElem?_inj (get_lt e) F.nd).mp (e.trans e'.symm)
    omega
  | @step a b c hb hbc ih =>
    intro ha hya ⟨j, hj, e⟩ hx cl
    have hbV : b ∈ V := cl a ((F.mem a).mp ha) b hb
    have hbf := (F.mem b).mpr hbV
    obtain ⟨jb, hjb, eb⟩ := List.mem_iff_getElem.mp hbf
    have eb' : fin[jb]? = some b := by rw [List.getElem?_eq_getElem hjb, eb]
    by_cases c1 : jb ≤ i
    · exact ih hbf (hya.snoc hb) ⟨jb, c1, eb'⟩ hx cl
    · refine ⟨b, jb, by omega, eb', hya.snoc hb, ?_, hbc⟩
      rcases F.blk j a b e hb with ⟨j2, q1, q2⟩ | ⟨j2, q1, q2, q3⟩ | ⟨q1, _⟩
      · have := (List.getElem?_inj hjb F.nd).mp (eb'.trans q2.symm)
        omega
      · have := (List.getElem?_inj hjb F.nd).mp (eb'.trans q2.symm)
        exact q3 i y hj (by omega) hi
      · cases q1
theorem FinOk.back (F : FinOk V S fin) (cl : ∀ p ∈ V, ∀ s ∈ S p, s ∈ V) {j : Nat} {x : α} (hj : fin[j]? = some x) : ∀ (n i : Nat) (y : α), j - i = n → fin[i]? = some y → i < j → Rs S y x → Rs S x y ∨ ∃ l z, j < l ∧ fin[l]? = some z ∧ Rs S y z := by
  intro n
  induction n using Nat.strongRecOn with
  | ind n ih =>
    intro i y hn hi hij hr
    obtain ⟨q, l, h1, h2, h3, h4, h5⟩ := F.cross hi hr (List.mem_of_getElem? hi) (.refl y) ⟨i, Nat.le_refl _, hi⟩ ⟨j, hij, hj⟩ cl
    by_cases c : j < l
    · exact .inr ⟨l, q, c, h2, h3⟩
    · by_cases c2 : l = j
      · subst c2
        rw [hj] at h2
        cases h2
        exact .inl h4
      · rcases ih (j - l) (by omega) l q rfl h2 (by omega) h5 with r | ⟨l', z, r1, r2, r3⟩
        · exact .inl (r.trans h4)
        · exact .inr ⟨l', z, r1, r2, h3.trans r3⟩
/-- the second walk -/
structure Lv2 (V : List α) (S : α → List α) (fin : List α) (l0 : Nat) (fs : List (α × Int)) (many : Int) : Prop where
  nd : (fs.map (·.1)).Nodup
  sub : ∀ y ∈ fs.map (·.1), y ∈ V
  done : ∀ y ∈ V, y ∈ fs.map (·.1) ↔ ∃ l z, l0 ≤ l ∧ fin[l]? = some z ∧ Rs S y z
  val : ∀ a ∈ fs, ∀ b ∈ fs, a.2 = b.2 ↔ Rs S a.1 b.1 ∧ Rs S b.1 a.1
  lt : ∀ a ∈ fs, a.2 < many
theorem Lv2.start : Lv2 V S fin fin.length [] 0 := ⟨List.nodup_nil, (fun y h => nomatch h), fun y hy => ⟨(fun h => nomatch h), fun ⟨l, z, h1, h2, _⟩ => by have := get_lt h2; omega⟩, (fun a h => nomatch h), (fun a h => nomatch h)⟩
theorem Lv2.skip {l0 : Nat} {fs : List (α × Int)} {many : Int} {x : α} (d : Lv2 V S fin (l0 + 1) fs many) (hx : fin[l0]? = some x) (h : x ∈ fs.map (·.1)) : Lv2 V S fin l0 fs many := by
  refine ⟨d.nd, d.sub, fun y hy => ?_, d.val, d.lt⟩
  rw [d.done y hy]
  constructor
  · rintro ⟨l, z, h1, h2, h3⟩
    exact ⟨l, z, by omega, h2, h3⟩
  · rintro ⟨l, z, h1, h2, h3⟩
    by_cases c : l = l0
    · subst c
      rw [hx] at h2
      cases h2
      obtain ⟨l', z', q1, q2, q3⟩ := (d.done x (d.sub x h)).mp h
      exact ⟨l', z', q1, q2, h3.trans q3⟩
    · exact ⟨l, z, by omega, h2, h3⟩
theorem Lv2.new {l0 : Nat} {fs : List (α × Int)} {many : Int} {x : α} {new : List α} (F : FinOk V S fin) (cl : ∀ p ∈ V, ∀ s ∈ S p, s ∈ V) (d : Lv2 V S fin (l0 + 1) fs many) (hx : fin[l0]? = some x) (h : x ∈ new) (hnd : (fs.map (·.1) ++ new).Nodup)
    (hr : ∀ y ∈ new, y ∈ V ∧ Rs S y x) (hc : ∀ y ∈ new, ∀ q ∈ V, y ∈ S q → q ∈ fs.map (·.1) ∨ q ∈ new) : Lv2 V S fin l0 (fs ++ new.map fun y => (y, many)) (many + 1) := by
  have ek : (fs ++ new.map fun y => (y, many)).map (·.1) = fs.map (·.1) ++ new := by rw [List.map_append, List.map_map]; simp [Function.comp_def]
  have notold : ∀ y ∈ new, y ∉ fs.map (·.1) := fun y hy z => (List.nodup_append.mp hnd).2.2 y z y hy rfl
  have anc : ∀ y ∈ V, ∀ w, w ∈ fs.map (·.1) → Rs S y w → y ∈ fs.map (·.1) := fun y hy w hw hyw => by
    obtain ⟨l, z, q1, q2, q3⟩ := (d.done w (d.sub w hw)).mp hw
    exact (d.done y hy).mpr ⟨l, z, q1, q2, hyw.trans q3⟩
  have all0 : ∀ {y x' : α}, Rs S y x' → x' = x → y ∈ V → y ∈ fs.map (·.1) ∨ y ∈ new := by
    intro y x' hy
    induction hy with
    | refl => exact fun e _ => .inr (e ▸ h)
    | step h1 h2 ih =>
      intro e hV
      rcases ih e (cl _ hV _ h1) with q | q
      · exact .inl (anc _ hV _ q (.one h1))
      · exact hc _ q _ hV h1
  have all : ∀ {y : α}, Rs S y x → y ∈ V → y ∈ fs.map (·.1) ∨ y ∈ new := fun h => all0 h rfl
  have scc : ∀ y ∈ new, Rs S x y := fun y hy => by
    obtain ⟨hV, hyx⟩ := hr y hy
    obtain ⟨i, hi, ei⟩ := List.mem_iff_getElem.mp ((F.mem y).mpr hV)
    have ei' : fin[i]? = some y := by rw [List.getElem?_eq_getElem hi, ei]
    have no : ∀ l z, l0 < l → fin[l]? = some z → ¬ Rs S y z := fun l z q1 q2 q3 => notold y hy ((d.done y hV).mpr ⟨l, z, q1, q2, q3⟩)
    by_cases c : l0 < i
    · exact absurd (.refl y) (no i y c ei')
    · by_cases c2 : i = l0
      · subst c2
        rw [hx] at ei'
        cases ei'
        exact .refl _
      · rcases F.back cl hx _ i y rfl ei' (by omega) hyx with q | ⟨l, z, q1, q2, q3⟩
        · exact q
        · exact absurd q3 (no l z q1 q2)
  refine ⟨ek ▸ hnd, fun y hy => ?_, fun y hy => ?_, fun a ha b hb => ?_, fun a ha => ?_⟩
  · rw [ek] at hy
    rcases List.mem_append.mp hy with q | q
    · exact d.sub y q
    · exact (hr y q).1
  · rw [ek, List.mem_append, d.done y hy]
    constructor
    · rintro (⟨l, z, q1, q2, q3⟩ | q)
      · exact ⟨l, z, by omega, q2, q3⟩
      · exact ⟨l0, x, Nat.le_refl _, hx, (hr y q).2⟩
    · rintro ⟨l, z, q1, q2, q3⟩
      by_cases c : l = l0
      · subst c
        rw [hx] at q2
        cases q2
        rcases all q3 hy with r | r
        · exact .inl ((d.done y hy).mp r)
        · exact .inr r
      · exact .inl ⟨l, z, by omega, q2, q3⟩
  · have hold : ∀ a ∈ fs, a.1 ∈ fs.map (·.1) := fun a ha => List.mem_map.mpr ⟨a, ha, rfl⟩
    rcases List.mem_append.mp ha with ha | ha <;> rcases List.mem_append.mp hb with hb | hb
    · exact d.val a ha b hb
    · obtain ⟨y, hy, rfl⟩ := List.mem_map.mp hb
      have := d.lt a ha
      refine ⟨fun e => by simp only at e; omega, fun ⟨_, q⟩ => absurd (anc y (hr y hy).1 _ (hold a ha) q) (notold y hy)⟩
    · obtain ⟨y, hy, rfl⟩ := List.mem_map.mp ha
      have := d.lt b hb
      refine ⟨fun e => by simp only at e; omega, fun ⟨q, _⟩ => absurd (anc y (hr y hy).1 _ (hold b hb) q) (notold y hy)⟩
    · obtain ⟨y, hy, rfl⟩ := List.mem_map.mp ha
      obtain ⟨z, hz, rfl⟩ := List.mem_map.mp hb
      exact ⟨fun _ => ⟨(hr y hy).2.trans (scc z hz), (hr z hz).2.trans (scc y hy)⟩, fun _ => rfl⟩
  · rcases List.mem_append.mp ha with ha | ha
    · have := d.lt a ha; omega
    · obtain ⟨y, hy, rfl⟩ := List.mem_map.mp ha
      show many < many + 1
      omega
theorem Lv2.all {fs : List (α × Int)} {many : Int} (F : FinOk V S fin) (d : Lv2 V S fin 0 fs many) : ∀ y ∈ V, y ∈ fs.map (·.1) := fun y hy => by
  obtain ⟨i, hi, ei⟩ := List.mem_iff_getElem.mp ((F.mem y).mpr hy)
  exact (d.done y hy).mpr ⟨i, y, Nat.zero_le _, by rw [List.getElem?_eq_getElem hi, ei], .refl y⟩
end
end Sh
set_option Elab.async false
set_option linter.all false
set_option maxRecDepth 100000
set_option maxHeartbeats 4000000
/-! WF: a reading; the walk that goes out; the elders. -/
namespace Sh
open PySem L2
local macro_rules | `(tactic| walk_at "ev1") => `(tactic| first
  | (with_reducible apply ev_var); rfl
  | with_reducible exact ev_int
  | with_reducible exact ev_str
  | with_reducible exact ev_bl
  | with_reducible exact ev_non
  | with_reducible exact ev_ty
  | with_reducible apply ev_op
  | with_reducible apply ev_cb
  | with_reducible apply ea_cons
  | with_reducible exact ea_nil
  | with_reducible exact rd_I0 rfl
  | with_reducible exact rd_I0b rfl
  | with_reducible apply rd_I rfl
  | with_reducible exact rd_eqI
  | with_reducible exact rd_neI
  | with_reducible exact rd_eqS
  | with_reducible exact rd_neS
  | with_reducible exact rd_isN
  | with_reducible exact rd_notN
  | with_reducible exact rd_fst
  | with_reducible exact rd_snd
  | with_reducible exact rc_lenL
  | with_reducible exact rc_lenT
  | with_reducible apply rc_lenS
  | with_reducible exact rc_intB
  | with_reducible exact rc_min
  | with_reducible exact rc_all
  | with_reducible exact rc_any
  | with_reducible apply ev_slS
  | with_reducible exact eo_none
  | with_reducible apply eo_some
  | with_reducible apply et_test
  | with_reducible apply et_B
  | with_reducible apply et_not
  | with_reducible apply ev_notV
  | (with_reducible apply ev_un); rotate_left; rfl)
local macro_rules | `(tactic| walk_at "ev") => `(tactic| repeat' walk_at "ev1")
def SD (V : List Pr) (S : Pr → List Pr) : D := .dT (V.map fun p => (pK p, lD (S p)))
def rFs (W : List Str) (V : List Pr) (S : Pr → List Pr) : List (Str × D) := [("every", sD W), ("pairs", lD V), ("steps", SD V S)]
def rD (C : Addr) (W : List Str) (V : List Pr) (S : Pr → List Pr) : D := .ins C (rFs W V S)
def rFlds : List Str := ["every", "pairs", "steps"]
structure Net (V : List Pr) (S : Pr → List Pr) : Prop where
  nd : V.Nodup
  few : V.length ≤ 33
  cl : ∀ p ∈ V, ∀ s ∈ S p, s ∈ V
  out : ∀ p ∈ V, (S p).length ≤ 30
def metD (ms : List Pr) : List (List Key × D) := ms.map fun p => (pK p, .bl true)
theorem metD_in {ms : List Pr} {p : Pr} (h : p ∈ ms) : (valD (metD ms) (pK p)).isSome = true := by rw [show valD (metD ms) (pK p) = some (.bl true) from valD_map pK_inj' h]; rfl
theorem metD_out {ms : List Pr} {p : Pr} (h : p ∉ ms) : valD (metD ms) (pK p) = none := valD_map_none pK_inj' h
theorem metD_put {ms : List Pr} {p : Pr} (h : p ∉ ms) : putD (metD ms) (pK p) (.bl true) = metD (ms ++ [p]) := by rw [putD_none (metD_out h)]; simp [metD]
theorem metD_is {ms : List Pr} {p : Pr} : (valD (metD ms) (pK p)).isSome = decide (p ∈ ms) := by
  by_cases h : p ∈ ms
  · rw [metD_in h, decide_eq_true h]
  · rw [metD_out h, decide_eq_false h]; rfl
theorem mkD_map {κ α : Type} [DecidableEq κ] {key : α → κ} (inj : ∀ a b, key a = key b → a = b) {f : α → D} {l : List α} (h : l.Nodup) : mkD (l.map fun x => (key x, f x)) = l.map fun x => (key x, f x) := by
  refine mkD_eq ?_
  rw [List.map_map]
  exact nodup_inj (fun _ _ e => inj _ _ e) h
theorem wordsLen {row : Str} {k : Nat} (h : k ≤ row.length) : (wordsS row k).length = row.length + 1 - k := wordsS_len h
section
variable {P : Program} {w : World} {K : PySem.W.Frag} {mg : Str → Option Value} {base : Heap}
/-! Reading.__init__ -/
abbrev s_Reading_init : Stmt := (inClass (topS 32) 0)
abbrev N_Reading_init : List Str := ["self", "graph", "row", "words", "pair"]
theorem sc_Reading_init : FnScope N_Reading_init ["self", "graph", "row"] (defScope s_Reading_init) := ⟨rfl, rfl, rfl, by decide +kernel, rfl, by decide +kernel, by decide +kernel⟩
def Pre_Reading (C C' : Addr) : (Addr × List Str × Nat × Str) → List D → List (Addr × M) → Prop := fun (x, W, k, row) ds ms => ds = [.ref x, gD C' W, .str row] ∧ ms = [(x, .ins C [])] ∧ GoodW W k ∧ k ≤ row.length ∧ row.length ≤ 900 ∧ (pairsOf W (wordsS row k)).Nodup ∧ (pairsOf W (wordsS row k)).length ≤ 60
def Post_Reading (C : Addr) : (Addr × List Str × Nat × Str) → D → List (Addr × M) → Prop := fun (x, W, k, row) d ms' => d = .non ∧ ms' = [(x, .ins C (rFs W (pairsOf W (wordsS row k)) (stepsOf W (wordsS row k))))]
theorem ok_Reading_init {C C' : Addr} (cl : Cl K C rFlds) {f : Addr} {fd : FuncData} (F : Fun K "__init__" "Reading.__init__" s_Reading_init f fd) (T : Bu K w mg) (F_words_in : Fn P w K mg base 1 "words_in" ["row", "k"] (PureSp false 2 R_words_in)) (F_Graph_size : Me P w K mg base 1 C' "size" ["self"] (PureSp false 1 (R_Graph_size C'))) (F_Graph_words : Me P w K mg base 1 C' "words" ["self"] (PureSp false 1 (R_Graph_words C')))
    (F_pairs_of : Fn P w K mg base 2 "pairs_of" ["graph", "words"] (PureSp false 2 (R_pairs_of C'))) (F_steps_from : Fn P w K mg base 3 "steps_from" ["graph", "words", "pair"] (PureSp false 3 (R_steps_from C'))) : FnOk P w K mg base CX0 4 f fd ["self", "graph", "row"] (MutG false 3 (Pre_Reading C C') (Post_Reading C)) := by
  refine F.ok sc_Reading_init (fun vs H Q E h => h.1) (fun cdv A outer s H vs Q E hr h => ?_)
  have nd := sc_Reading_init.nd
  have hu := hu_of hr
  have hu0 := hr.units0
  refine ⟨_, (pss_cons (ps_set (i := 3) nd rfl (Or.inr rfl) (pe_fn F_words_in (hr.mono (by decide)) rfl (pa_cons (pv 2) (pa_cons (pe_me0 F_Graph_size (pv 1) (hr.mono (by decide))) pa_nil))))
  (pss_cons (ps_fld (pv 0) (pe_me0 F_Graph_words (pv 1) (hr.mono (by decide))) rfl)
  (pss_cons (ps_fld (pv 0) (pe_fn F_pairs_of (hr.mono (by decide)) rfl (pa_cons (pv 1) (pa_cons (pv 3) pa_nil))) rfl)
  (pss_one (ps_fld (pv 0) (pe_dcT (g := (gName 4)) (tt := tYes) (tk := (tVar 4)) (tv := (tCall _ _ _ (tCons (tVar 1) (tCons (tVar 3) (tCons (tVar 4) tNil))))) (own := [("pair", 4)]) hu0 rfl nd (pi_list (pe_fld (pv 0) rfl)) (blkOk_by (own := [("pair", 4)]) (N := N_Reading_init) (sc := (defScope s_Reading_init)) (by decide +kernel)) (fun _ _ _ _ _ => (pg_name (i := 4) nd rfl (Or.inl rfl))) (fun _ _ _ _ _ => pts_nil) (fun _ _ _ _ _ => (pv 4)) (fun _ _ _ _ _ => (pe_fn F_steps_from (hr.mono (by decide)) rfl (pa_cons (pv 1) (pa_cons (pv 3) (pa_cons (pv 4) pa_nil)))))) rfl))))), ?_⟩
  refine body_okG h fun gh ds ms hn hP B => ?_
  obtain ⟨x, W, k, row⟩ := gh
  obtain ⟨rfl, rfl, g, hk, hl, hnd, hfew⟩ := hP
  have few := g.few
  have hk3 : 3 ≤ k := by have := g.size; omega
  have hwl := wordsLen hk
  have ne1 := cl.no "every" (by decide)
  have ne2 := cl.no "pairs" (by decide)
  have ne3 := cl.no "steps" (by decide)
  refine sm_set (d := sD (wordsS row k)) (ev_call (ea_cons (ev_var rfl) (ea_cons (ev_meth (ev_var rfl) rfl ea_nil rfl ⟨W, k, rfl, g, rfl⟩ (fun z => by cases z)) ea_nil)) rfl ⟨row, k, rfl, hl, hk, rfl⟩ (fun z => by cases z)) ?_
  generalize hws : wordsS row k = ws at *
  refine sm_fld (P1 := fun b' d' => b' = ⟨false, [(x, .ins C [])]⟩ ∧ d' = sD W) cl.cls ne1 (ex_pure (ev_meth (ev_var rfl) rfl ea_nil rfl ⟨W, rfl, rfl⟩ (fun z => by cases z)) ⟨rfl, rfl⟩) fun b' x' ⟨e1, e2⟩ => ?_
  subst e1 e2
  refine ⟨x, [], ev_var rfl, List.mem_cons_self, by decide, ?_⟩
  have hp2 : (x, M.ins C [("every", sD W)]) ∈ (Bx.put ⟨false, [(x, .ins C [])]⟩ x (.ins C (putFD "every" (sD W) []))).rt := mem_put (m := .ins C []) List.mem_cons_self
  generalize Bx.put ⟨false, [(x, .ins C [])]⟩ x (.ins C (putFD "every" (sD W) [])) = b2 at hp2
  refine sm_fld (P1 := fun b' d' => b' = b2 ∧ d' = lD (pairsOf W ws)) cl.cls ne2 (ex_pure (ev_call (ea_cons (ev_var rfl) (ea_cons (ev_var rfl) ea_nil)) rfl ⟨W, ws, rfl, few, by omega, rfl⟩ (fun z => by cases z)) ⟨rfl, rfl⟩) fun b' x' ⟨e1, e2⟩ => ?_
  subst e1 e2
  refine ⟨x, _, ev_var rfl, hp2, by simp, ?_⟩
  have hp3 : (x, M.ins C [("every", sD W), ("pairs", lD (pairsOf W ws))]) ∈ (Bx.put b' x (.ins C (putFD "pairs" (lD (pairsOf W ws)) [("every", sD W)]))).rt := mem_put hp2
  generalize Bx.put b' x (.ins C (putFD "pairs" (lD (pairsOf W ws)) [("every", sD W)])) = b3 at hp3
  refine sm_last (sm_fld (P1 := fun b' d' => b' = b3 ∧ d' = SD (pairsOf W ws) (stepsOf W ws)) cl.cls ne3 (ex_pure (Ev.is (ev_dcT (xs := pairsOf W ws) (enc := pD) (k := id) (f := fun p => lD (stepsOf W ws p)) (src_list (ev_fldR (ev_var rfl) hp3 cl.cls ne2 rfl)) (by omega) fun z hz => dct (tg_name (by decide)) (ev_var rfl) (ev_call (ea_cons (ev_var rfl) (ea_cons (ev_var rfl) (ea_cons (ev_var rfl) ea_nil))) rfl ⟨W, ws, z, rfl, (mem_pairsOf.mp hz).1, pairs_lt hz (by omega), few, by omega, rfl⟩ (fun z => by cases z))) (by rw [show (fun x : Pr => (pK (id x), lD (stepsOf W ws x))) = fun x => (pK x, lD (stepsOf W ws x)) from rfl, mkD_map pK_inj' hnd]; rfl)) ⟨rfl, rfl⟩) fun b' x' ⟨e1, e2⟩ => ?_)
  subst e1 e2
  refine ⟨x, _, ev_var rfl, hp3, by simp, sm_next ⟨[(x, .ins C (rFs W (pairsOf W ws) (stepsOf W ws)))], ⟨rfl, by subst hws; rfl⟩, rfl, fun y hy => ?_⟩⟩
  rw [List.mem_singleton.mp hy]
  exact mem_put hp3
/-! Reading.go_from -/
abbrev s_Reading_go_from : Stmt := (inClass (topS 32) 2)
abbrev N_Reading_go_from : List Str := ["self", "first", "met", "found", "line", "pair", "left"]
theorem sc_Reading_go_from : FnScope N_Reading_go_from ["self", "first", "met", "found"] (defScope s_Reading_go_from) := ⟨rfl, rfl, rfl, by decide +kernel, rfl, by decide +kernel, by decide +kernel⟩
structure GGo where
  W : List Str
  V : List Pr
  S : Pr → List Pr
  fin : List Pr
  ms : List Pr
  first : Pr
  pm : Addr
  pf : Addr
def Pre_go_from (C : Addr) : GGo → List D → List (Addr × M) → Prop := fun g ds mr => ds = [rD C g.W g.V g.S, pD g.first, .ref g.pm, .ref g.pf] ∧ mr = [(g.pm, .dT (metD (g.ms ++ [g.first]))), (g.pf, .lst (g.fin.map pD))] ∧ g.pm ≠ g.pf ∧ Net g.V g.S ∧ g.first ∈ g.V ∧ g.first ∉ g.ms ∧ DfsI g.V g.S g.ms g.fin []
def Post_go_from : GGo → D → List (Addr × M) → Prop := fun g d mr => d = .non ∧ ∃ ms' fin', mr = [(g.pm, .dT (metD ms')), (g.pf, .lst (fin'.map pD))] ∧ (∀ p ∈ g.ms ++ [g.first], p ∈ ms') ∧ DfsI g.V g.S ms' fin' []
/-- frames -/
abbrev Fr := Pr × List Pr × Addr
def frD (f : Fr) : D := .tup [pD f.1, .ref f.2.2]
def frS (f : Fr) : Pr × List Pr := (f.1, f.2.1)
theorem atI_last {xs : List D} {d : D} : L2.atI (xs ++ [d]) (-1) = some d := by
  have e : ixN (xs ++ [d]).length (-1) = some xs.length := by
    unfold ixN
    rw [if_neg (by decide), if_pos (by rw [List.length_append, List.length_singleton]; omega)]
    congr 1
    rw [List.length_append, List.length_singleton]
    omega
  unfold L2.atI
  rw [e]
  show (xs ++ [d])[xs.length]? = some d
  rw [List.getElem?_append_right (Nat.le_refl _)]
  simp
theorem dfs_len {V : List Pr} {S : Pr → List Pr} {ms fin : List Pr} {stk : List (Pr × List Pr)} (d : DfsI V S ms fin stk) : ms.length ≤ V.length ∧ fin.length + stk.length ≤ V.length := by
  refine ⟨nodup_le d.msnd d.sub, ?_⟩
  have := nodup_le (l := fin ++ stk.map (·.1)) (m := V) d.nd fun x hx => d.sub x ((d.mem x).mpr (List.mem_append.mp hx))
  simpa using this
theorem ok_Reading_go_from {C : Addr} (cl : Cl K C rFlds) {f : Addr} {fd : FuncData} (F : Fun K "go_from" "Reading.go_from" s_Reading_go_from f fd) (T : Bu K w mg) : FnOk P w K mg base CX0 1 f fd ["self", "first", "met", "found"] (MutG false 4 (Pre_go_from C) Post_go_from) := by
  refine F.ok sc_Reading_go_from (fun vs H Q E h => h.1) (fun cdv A outer s H vs Q E hr h => ?_)
  have nd := sc_Reading_go_from.nd
  have hu := hu_of hr
  have hu0 := hr.units0
  refine ⟨_, (pss_cons (ps_set (i := 4) nd rfl (Or.inl rfl) (pe_lst (pa_cons (pe_tup (pa_cons (pv 1) (pa_cons (pe_callTy call_list_of (by rfl) T.n_list (by decide +kernel) (pa_cons (pe_dget hu (pe_fld (pv 0) rfl) (pv 1) (fun _ _ => rfl)) pa_nil)) pa_nil))) pa_nil)))
  (pss_one (ps_while PassesOwn.never (pt_cmpR (op_neNil hu0) (pv 4) (pe_lst pa_nil) (nomark _)) (pss_cons (ps_asg (pe_ix ix_list (pv 4) (pe_un un_neg pe_int) (fun _ _ => rfl)) (pg_tup rfl (pgs_cons (pg_name (i := 5) nd rfl (Or.inl rfl)) (pgs_cons (pg_name (i := 6) nd rfl (Or.inl rfl)) pgs_nil))))
  (pss_cons (ps_while PassesOwn.never (PW.pt (pw_and (pt_cmpR (op_neNil hu0) (pv 6) (pe_lst pa_nil) (nomark _)) (pw_and1 (pt_cmp (pc_din hu (pe_ix ix_list (pv 6) (pe_un un_neg pe_int) (fun _ _ => rfl)) (pv 2)))))) (pss_one (ps_expr (pe_bm0 PySem.F.plainAttrs_list PySem.F.slot_list_pop PySem.F.type_list_pop mt_pop (pv 6)))))
  (pss_one (ps_if (pt_cmpR (op_eqNil hu0) (pv 6) (pe_lst pa_nil) (nomark _)) (pss_cons (ps_expr (pe_bm PySem.F.plainAttrs_list PySem.F.slot_list_append PySem.F.type_list_append mt_append (pv 3) (pa_cons (pv 5) pa_nil)))
  (pss_one (ps_expr (pe_bm0 PySem.F.plainAttrs_list PySem.F.slot_list_pop PySem.F.type_list_pop mt_pop (pv 4))))) (pss_cons (ps_dput hu (pv 2) (pe_ix ix_list (pv 6) (pe_un un_neg pe_int) (fun _ _ => rfl)) pe_bl rfl)
  (pss_one (ps_expr (pe_bm PySem.F.plainAttrs_list PySem.F.slot_list_append PySem.F.type_list_append mt_append (pv 4) (pa_cons (pe_tup (pa_cons (pe_ix ix_list (pv 6) (pe_un un_neg pe_int) (fun _ _ => rfl)) (pa_cons (pe_callTy call_list_of (by rfl) T.n_list (by decide +kernel) (pa_cons (pe_dget hu (pe_fld (pv 0) rfl) (pe_ix ix_list (pv 6) (pe_un un_neg pe_int) (fun _ _ => rfl)) (fun _ _ => rfl)) pa_nil)) pa_nil))) pa_nil)))))))))))), ?_⟩
  refine body_okG h fun gh ds mr hn hP B => ?_
  obtain ⟨W, V, S, fin0, ms0, first, pm, pf⟩ := gh
  obtain ⟨rfl, rfl, hne, net, hV, hfn, dfs0⟩ := hP
  simp only at hne net hV hfn dfs0
  have ne3 := cl.no "steps" (by decide)
  have few := net.few
  have steps : ∀ {b : Bx} {ρ : Ro} {tk : TE} {p : Pr}, ρ[0]? = some (some (rD C W V S)) → Ev b tk ρ (pD p) → p ∈ V → EvA b (tCons (tDGet (tFld K (tVar 0) "steps") tk) tNil) ρ [lD (S p)] := fun h0 hk hp => ea_cons (ev_dgetT (ev_fld (ev_var h0) cl.cls ne3 rfl) hk (valD_map pK_inj' hp)) ea_nil
  refine sm_setX (P1 := fun b' d' => ∃ q a, d' = .ref q ∧ [pm, pf, a, q].Nodup ∧ (q, M.lst ([(first, S first, a)].map frD)) ∈ b'.rt ∧ (a, M.lst ((S first).map pD)) ∈ b'.rt ∧ b'.fl = false ∧ (pm, M.dT (metD (ms0 ++ [first]))) ∈ b'.rt ∧ (pf, M.lst (fin0.map pD)) ∈ b'.rt) (ex_lst (P1 := fun b' ds => ∃ a, ds = [frD (first, S first, a)] ∧ a ≠ pm ∧ a ≠ pf ∧ (a, M.lst ((S first).map pD)) ∈ b'.rt ∧ b'.fl = false ∧ (pm, M.dT (metD (ms0 ++ [first]))) ∈ b'.rt ∧ (pf, M.lst (fin0.map pD)) ∈ b'.rt) (xa_cons (P' := fun b' d => ∃ a, d = frD (first, S first, a) ∧ a ≠ pm ∧ a ≠ pf ∧ (a, M.lst ((S first).map pD)) ∈ b'.rt ∧ b'.fl = false ∧ (pm, M.dT (metD (ms0 ++ [first]))) ∈ b'.rt ∧ (pf, M.lst (fin0.map pD)) ∈ b'.rt) (ex_tup (P1 := fun b' ds => ∃ a, ds = [pD first, .ref a] ∧ a ≠ pm ∧ a ≠ pf ∧ (a, M.lst ((S first).map pD)) ∈ b'.rt ∧ b'.fl = false ∧ (pm, M.dT (metD (ms0 ++ [first]))) ∈ b'.rt ∧ (pf, M.lst (fin0.map pD)) ∈ b'.rt) (xa_cons (P' := fun b' d => b' = _ ∧ d = pD first) (ex_pure (ev_var rfl) ⟨rfl, rfl⟩) ?_) ?_) ?_) ?_) ?k
  · rintro b' d ⟨rfl, rfl⟩
    refine xa_cons (P' := fun b' d => ∃ a, d = .ref a ∧ a ≠ pm ∧ a ≠ pf ∧ (a, M.lst ((S first).map pD)) ∈ b'.rt ∧ b'.fl = false ∧ (pm, M.dT (metD (ms0 ++ [first]))) ∈ b'.rt ∧ (pf, M.lst (fin0.map pD)) ∈ b'.rt) (ex_new (evn_cb (steps rfl (ev_var rfl) hV) rcn_listL) fun a fa => ⟨a, rfl, fun e => fa _ List.mem_cons_self e.symm, fun e => fa _ (List.mem_cons_of_mem _ List.mem_cons_self) e.symm, mem_add, rfl, mem_add_of List.mem_cons_self, mem_add_of (List.mem_cons_of_mem _ List.mem_cons_self)⟩) fun b' d ⟨a, e, h⟩ => xa_nil ⟨a, by rw [e], h⟩
  · rintro b' ds ⟨a, rfl, h⟩
    exact ⟨by simp, a, rfl, h⟩
  · rintro b' d ⟨a, e, h⟩
    exact xa_nil ⟨a, by rw [e], h⟩
  · rintro b' ds ⟨a, rfl, h1, h2, h3, h4, h5, h6⟩
    refine ⟨by simp, fun q fq => ⟨q, a, rfl, ?_, mem_add, mem_add_of h3, h4, mem_add_of h5, mem_add_of h6⟩⟩
    have n1 := fq _ h3
    have n2 := fq _ h5
    have n3 := fq _ h6
    simp only [List.nodup_cons, List.mem_cons, List.not_mem_nil, or_false, not_or]
    exact ⟨⟨hne, fun e => h1 e.symm, n2⟩, ⟨fun e => h2 e.symm, n3⟩, n1, (by simp), List.nodup_nil⟩
  case k =>
    rintro b' d' ⟨q, a, rfl, nda, hq, ha, hfl, hm, hf⟩
    refine sm_last (sm_while (fun m b ρ => ∃ ms fin fs x y, m = 2 * (V.length - ms.length) + fs.length ∧ b.fl = false ∧ (pm, M.dT (metD ms)) ∈ b.rt ∧ (pf, M.lst (fin.map pD)) ∈ b.rt ∧ (q, M.lst (fs.map frD)) ∈ b.rt ∧ (∀ f ∈ fs, (f.2.2, M.lst (f.2.1.map pD)) ∈ b.rt) ∧ (pm :: pf :: q :: fs.map fun f => f.2.2).Nodup ∧ DfsI V S ms fin (fs.map frS) ∧ (∀ p ∈ ms0 ++ [first], p ∈ ms) ∧ ρ = [some (rD C W V S), some (pD first), some (.ref pm), some (.ref pf), some (.ref q), x, y]) _ ⟨ms0 ++ [first], fin0, [(first, S first, a)], none, none, rfl, hfl, hm, hf, hq, (fun f hf => by rw [List.mem_singleton.mp hf]; exact ha), ?_, dfs0.add hfn hV (fun x hx => nomatch hx), (fun p hp => hp), rfl⟩ ?_)
    · simp only [List.nodup_cons, List.mem_cons, List.not_mem_nil, or_false, not_or, List.map_cons, List.map_nil] at nda ⊢
      obtain ⟨⟨n1, n2, n3⟩, ⟨n4, n5⟩, n6, _⟩ := nda
      exact ⟨⟨n1, n3, n2⟩, ⟨n5, n4⟩, fun e => n6 e.symm, (by simp), List.nodup_nil⟩
    rintro m b ρ ⟨ms, fin, fs, x, y, rfl, hfl, hm, hf, hq, hfs, ndf, dfs, hin, rfl⟩
    refine ⟨_, et_test (ev_op (ev_var rfl) (EvN.ev (evn_lst ea_nil (by decide))) (rd_nilR hq)), fun hcc => ?_, fun hcc => ?_⟩
    · obtain ⟨fs', ⟨p, l0, a⟩, rfl⟩ : ∃ L' o, fs = L' ++ [o] := by
        rcases List.eq_nil_or_concat fs with e | ⟨L', o, e⟩
        · subst e; simp at hcc
        · exact ⟨L', o, by simpa using e⟩
      have ha := hfs (p, l0, a) (by simp)
      simp only at ha
      rw [List.map_append] at hq
      have nd2 := ndf
      rw [List.map_append, List.map_cons, List.map_nil, ← List.cons_append, ← List.cons_append, ← List.cons_append, List.nodup_append] at nd2
      have nda : ∀ z ∈ pm :: pf :: q :: fs'.map (fun f => f.2.2), z ≠ a := fun z hz => nd2.2.2 z hz a List.mem_cons_self
      have na1 : pm ≠ a := nda pm (by simp)
      have na2 : pf ≠ a := nda pf (by simp)
      have na3 : q ≠ a := nda q (by simp)
      have nds : (pm :: pf :: q :: fs'.map fun f => f.2.2).Nodup := nd2.1
      have nmq : pm ≠ q := fun e => by simp [e] at nds
      have nfq : pf ≠ q := fun e => by simp [e] at nds
      have nmf : pm ≠ pf := fun e => by simp [e] at nds
      have nfr : ∀ f ∈ fs', f.2.2 ≠ a := fun f hf => nda _ (List.mem_cons_of_mem _ (List.mem_cons_of_mem _ (List.mem_cons_of_mem _ (List.mem_map.mpr ⟨f, hf, rfl⟩))))
      have nfrm : ∀ f ∈ fs', f.2.2 ≠ pm := fun f hf e => by
        rw [List.nodup_cons] at nds
        exact nds.1 (List.mem_cons_of_mem _ (List.mem_cons_of_mem _ (List.mem_map.mpr ⟨f, hf, e⟩)))
      have nfrf : ∀ f ∈ fs', f.2.2 ≠ pf := fun f hf e => by
        rw [List.nodup_cons, List.nodup_cons] at nds
        exact nds.2.1 (List.mem_cons_of_mem _ (List.mem_map.mpr ⟨f, hf, e⟩))
      have nfrq : ∀ f ∈ fs', f.2.2 ≠ q := fun f hf e => by
        rw [List.nodup_cons, List.nodup_cons, List.nodup_cons] at nds
        exact nds.2.2.1 (List.mem_map.mpr ⟨f, hf, e⟩)
      refine sm_pairX (P1 := fun b' d' => b' = b ∧ d' = frD (p, l0, a)) (ex_pure (ev_op (ev_var rfl) (ev_un ev_int rfl) (rd_ixLR hq atI_last)) ⟨rfl, rfl⟩) fun b' d' ⟨e1, e2⟩ => ⟨pD p, .ref a, e2, ?_⟩
      subst e1 e2
      rw [List.map_append] at dfs
      refine sm_while (fun m b ρ => ∃ l, m = l.length ∧ b.fl = false ∧ (pm, M.dT (metD ms)) ∈ b.rt ∧ (pf, M.lst (fin.map pD)) ∈ b.rt ∧ (q, M.lst (fs'.map frD ++ [frD (p, l, a)])) ∈ b.rt ∧ (∀ f ∈ fs', (f.2.2, M.lst (f.2.1.map pD)) ∈ b.rt) ∧ (a, M.lst (l.map pD)) ∈ b.rt ∧ DfsI V S ms fin (fs'.map frS ++ [(p, l)]) ∧ ρ = [some (rD C W V S), some (pD first), some (.ref pm), some (.ref pf), some (.ref q), some (pD p), some (.ref a)]) _ ⟨l0, rfl, hfl, hm, hf, hq, (fun f hf => hfs f (List.mem_append_left _ hf)), ha, dfs, rfl⟩ ?_
      rintro m b ρ ⟨l, rfl, hfl, hm, hf, hq, hfs, ha, dfs, rfl⟩
      have dl := dfs_len dfs
      by_cases hl : l = []
      · subst hl
        refine ⟨false, EvT.is (et_and (c1 := false) (c2 := false) (et_test (ev_op (ev_var rfl) (EvN.ev (evn_lst ea_nil (by decide))) (rd_nilR ha))) (fun z => by cases z)) rfl, (fun z => by cases z), fun _ => ?_⟩
        refine sm_last (sm_if (cc := true) (et_test (ev_op (ev_var rfl) (EvN.ev (evn_lst ea_nil (by decide))) (rd_nilR ha))) (fun _ => ?_) (fun z => by cases z))
        refine sm_assoc (sm_dropX (P1 := fun b1 d' => b1 = b.put pf (.lst (fin.map pD ++ [pD p]))) (ex_append (es := fun _ => True) (ev_var rfl) (ex_pure (P := fun b1 d' => b1 = b ∧ d' = pD p) (ev_var rfl) ⟨rfl, rfl⟩) (fun b1 d' ⟨e1, e2⟩ => by subst e1 e2; exact ⟨_, hf, by rw [List.length_map]; omega, rfl⟩) ⟨_, hf⟩) fun b1 d' e => ?_)
        subst e
        have hq1 := mem_put_ne (p := pf) (m' := .lst (fin.map pD ++ [pD p])) hq (fun e => nfq e.symm)
        refine sm_assoc (sm_dropX (P1 := fun b1 d' => b1 = (b.put pf (.lst (fin.map pD ++ [pD p]))).put q (.lst (fs'.map frD))) (ex_pop (ev_var rfl) hq1 rfl) fun b1 d' e => ?_)
        subst e
        refine sm_unit (sm_next ⟨_, ?_, ms, fin ++ [p], fs', _, _, rfl, hfl, mem_put_ne (mem_put_ne hm nmf) nmq, ?_, mem_put hq1, fun f hf' => mem_put_ne (mem_put_ne (hfs f hf') (nfrf f hf')) (nfrq f hf'), nds, dfs.finish, hin, rfl⟩)
        · simp
        · rw [List.map_append]
          exact mem_put_ne (mem_put hf) nfq
      · obtain ⟨l', s, rfl⟩ : ∃ L' o, l = L' ++ [o] := by
          rcases List.eq_nil_or_concat l with e | ⟨L', o, e⟩
          · exact absurd e hl
          · exact ⟨L', o, by simpa using e⟩
        rw [List.map_append] at ha
        have lst : ∀ {b : Bx} {ρ : Ro} {ti : TE}, ρ[6]? = some (some (.ref a)) → (a, M.lst (l'.map pD ++ [pD s])) ∈ b.rt → Ev b ti ρ (.int (-1)) → Ev b (tOp (rIxL K) (tVar 6) ti) ρ (pD s) := fun h0 h1 h2 => ev_op (ev_var h0) h2 (rd_ixLR h1 atI_last)
        have hsS : s ∈ S p := (dfs.left _ (List.mem_append_right _ List.mem_cons_self)).2 s (by simp)
        have hpV : p ∈ V := dfs.sub p ((dfs.mem p).mpr (.inr (by simp)))
        have hsV := net.cl p hpV s hsS
        refine ⟨decide (s ∈ ms), EvT.is (et_and (c1 := true) (c2 := decide (s ∈ ms)) (EvT.is (et_test (ev_op (ev_var rfl) (EvN.ev (evn_lst ea_nil (by decide))) (rd_nilR ha))) (by simp)) fun _ => et_test (ev_inTR (k := s) (lst rfl ha (ev_un ev_int rfl)) (ev_var rfl) hm metD_is)) (by simp), fun hin2 => ?_, fun hin2 => ?_⟩
        · simp only [decide_eq_true_eq] at hin2
          refine sm_last (sm_dropX (P1 := fun b1 d' => b1 = b.put a (.lst (l'.map pD))) (ex_pop (ev_var rfl) ha rfl) fun b1 d' e => ?_)
          subst e
          exact sm_next ⟨l'.length, by simp, l', rfl, hfl, mem_put_ne hm na1, mem_put_ne hf na2, mem_put_ne hq na3, fun f hf' => mem_put_ne (hfs f hf') (nfr f hf'), mem_put ha, dfs.pop hin2, rfl⟩
        · simp only [decide_eq_false_iff_not] at hin2
          refine sm_last (sm_if (cc := false) (EvT.is (et_test (ev_op (ev_var rfl) (EvN.ev (evn_lst ea_nil (by decide))) (rd_nilR ha))) (by simp)) (fun z => by cases z) fun _ => ?_)
          have dfs2 := dfs.push hin2 net.cl
          have dl2 := dfs_len dfs2
          simp at dl2
          refine sm_assoc (sm_dputT (k := s) (P1 := fun b' d' => b' = b ∧ d' = .bl true) (ex_pure ev_bl ⟨rfl, rfl⟩) fun b' x' ⟨e1, e2⟩ => ?_)
          subst e1 e2
          refine ⟨pm, _, ev_var rfl, lst rfl ha (ev_un ev_int rfl), hm, by simp [metD]; omega, ?_⟩
          rw [metD_put hin2]
          have hm1 := mem_put (m' := .dT (metD (ms ++ [s]))) hm
          have ha1 := mem_put_ne (p := pm) (m' := .dT (metD (ms ++ [s]))) ha (fun e => na1 e.symm)
          have hf1 := mem_put_ne (p := pm) (m' := .dT (metD (ms ++ [s]))) hf (fun e => nmf e.symm)
          have hq1 := mem_put_ne (p := pm) (m' := .dT (metD (ms ++ [s]))) hq (fun e => nmq e.symm)
          have hfs1 : ∀ f ∈ fs', (f.2.2, M.lst (f.2.1.map pD)) ∈ (b'.put pm (.dT (metD (ms ++ [s])))).rt := fun f hf' => mem_put_ne (hfs f hf') (nfrm f hf')
          have hfl1 : (b'.put pm (.dT (metD (ms ++ [s])))).fl = false := hfl
          generalize b'.put pm (.dT (metD (ms ++ [s]))) = b2 at hm1 ha1 hf1 hq1 hfs1 hfl1 ⊢
          refine sm_assoc (sm_dropX (P1 := fun b1 d' => ∃ c, Fre b2 c ∧ b1 = (b2.add c (.lst ((S s).map pD))).put q (.lst ((fs'.map frD ++ [frD (p, l' ++ [s], a)]) ++ [frD (s, S s, c)]))) (ex_append (es := fun _ => True) (P1 := fun b1 d => ∃ c, Fre b2 c ∧ b1 = b2.add c (.lst ((S s).map pD)) ∧ d = frD (s, S s, c)) (ev_var rfl) (ex_tup (P1 := fun b1 ds => ∃ c, Fre b2 c ∧ b1 = b2.add c (.lst ((S s).map pD)) ∧ ds = [pD s, .ref c]) (xa_cons (P' := fun b' d => b' = b2 ∧ d = pD s) (ex_pure ?m5 ⟨rfl, rfl⟩) ?m1) ?m2) ?m3 ⟨_, hq1⟩) ?m4)
          case m5 => exact lst rfl ha1 (ev_un ev_int rfl)
          case m1 =>
            rintro b1 d ⟨rfl, rfl⟩
            exact xa_cons (P' := fun b' d => ∃ c, Fre b1 c ∧ b' = b1.add c (.lst ((S s).map pD)) ∧ d = .ref c) (ex_new (evn_cb (steps rfl (lst rfl ha1 (ev_un ev_int rfl)) hsV) rcn_listL) fun c fc => ⟨c, fc, rfl, rfl⟩) fun b' d ⟨c, fc, e1, e2⟩ => xa_nil ⟨c, fc, e1, by rw [e2]⟩
          case m2 =>
            rintro b1 ds ⟨c, fc, rfl, rfl⟩
            exact ⟨by simp, c, fc, rfl, rfl⟩
          case m3 =>
            rintro b1 d ⟨c, fc, rfl, rfl⟩
            exact ⟨_, mem_add_of hq1, by simp; omega, c, fc, rfl⟩
          case m4 =>
            rintro b1 d ⟨c, fc, rfl⟩
            have nc1 := fc _ hm1
            have nc2 := fc _ hf1
            have nc3 := fc _ hq1
            have nc4 := fc _ ha1
            refine sm_unit (sm_next ⟨_, ?_, ms ++ [s], fin, fs' ++ [(p, l' ++ [s], a)] ++ [(s, S s, c)], _, _, rfl, hfl1, mem_put_ne (mem_add_of hm1) nmq, mem_put_ne (mem_add_of hf1) nfq, ?_, fun f hf' => ?_, ?_, ?_, fun p hp => List.mem_append_left _ (hin p hp), rfl⟩)
            · simp; omega
            · rw [List.map_append, List.map_append]
              exact mem_put (mem_add_of hq1)
            · rcases List.mem_append.mp hf' with hf' | hf'
              · rcases List.mem_append.mp hf' with hf' | hf'
                · exact mem_put_ne (mem_add_of (hfs1 f hf')) (nfrq f hf')
                · rw [List.mem_singleton.mp hf']
                  rw [show (p, l' ++ [s], a).2.1.map pD = l'.map pD ++ [pD s] by simp]
                  exact mem_put_ne (mem_add_of ha1) (fun e => na3 e.symm)
              · rw [List.mem_singleton.mp hf']
                exact mem_put_ne mem_add (fun e => nc3 e.symm)
            · have ndc : ∀ z ∈ pm :: pf :: q :: (fs' ++ [(p, l' ++ [s], a)]).map (fun f => f.2.2), z ≠ c := fun z hz => by
                simp only [List.mem_cons, List.map_append, List.mem_append, List.map_cons, List.map_nil, List.not_mem_nil, or_false, List.mem_map] at hz
                rcases hz with rfl | rfl | rfl | ⟨f, hf', rfl⟩ | rfl
                · exact nc1
                · exact nc2
                · exact nc3
                · exact fc _ (hfs1 f hf')
                · exact nc4
              rw [List.map_append (l₁ := fs' ++ [(p, l' ++ [s], a)]), ← List.cons_append, ← List.cons_append, ← List.cons_append, List.nodup_append]
              refine ⟨?_, by simp, fun z hz y hy => by simp at hy; subst hy; exact ndc z hz⟩
              rw [List.map_append] at ndf ⊢
              exact ndf
            · rw [List.map_append, List.map_append]
              exact dfs2
    · have e : fs = [] := by
        cases fs with
        | nil => rfl
        | cons => simp at hcc
      subst e
      refine sm_next ⟨[(pm, .dT (metD ms)), (pf, .lst (fin.map pD))], ⟨rfl, ms, fin, rfl, hin, dfs⟩, rfl, fun x hx => ?_⟩
      rcases List.mem_cons.mp hx with rfl | hx
      · exact hm
      · rw [List.mem_singleton.mp hx]; exact hf
end
end Sh
set_option Elab.async false
set_option linter.all false
set_option maxRecDepth 100000
set_option maxHeartbeats 4000000
/-! WG: gone_out, elders, levels. -/
namespace Sh
open PySem L2
local macro_rules | `(tactic| walk_at "ev1") => `(tactic| first
  | (with_reducible apply ev_var); rfl
  | with_reducible exact ev_int
  | with_reducible exact ev_str
  | with_reducible exact ev_bl
  | with_reducible exact ev_non
  | with_reducible exact ev_ty
  | with_reducible apply ev_op
  | with_reducible apply ev_cb
  | with_reducible apply ea_cons
  | with_reducible exact ea_nil
  | with_reducible exact rd_I0 rfl
  | with_reducible exact rd_I0b rfl
  | with_reducible apply rd_I rfl
  | with_reducible exact rd_eqI
  | with_reducible exact rd_neI
  | with_reducible exact rd_eqS
  | with_reducible exact rd_neS
  | with_reducible exact rd_isN
  | with_reducible exact rd_notN
  | with_reducible exact rd_fst
  | with_reducible exact rd_snd
  | with_reducible exact rc_lenL
  | with_reducible exact rc_lenT
  | with_reducible apply rc_lenS
  | with_reducible exact rc_intB
  | with_reducible exact rc_min
  | with_reducible exact rc_all
  | with_reducible exact rc_any
  | with_reducible apply ev_slS
  | with_reducible exact eo_none
  | with_reducible apply eo_some
  | with_reducible apply et_test
  | with_reducible apply et_B
  | with_reducible apply et_not
  | with_reducible apply ev_notV
  | (with_reducible apply ev_un); rotate_left; rfl)
local macro_rules | `(tactic| walk_at "ev") => `(tactic| repeat' walk_at "ev1")
theorem valD_find {κ α : Type} [DecidableEq κ] {key : α → κ} {f : α → D} {y0 : α} : ∀ {l : List α}, y0 ∈ l → (l.map key).Nodup → valD (l.map fun y => (key y, f y)) (key y0) = some (f y0)
  | [], h, _ => nomatch h
  | y :: l, h, nd => by
    rw [List.map_cons, List.nodup_cons] at nd
    unfold valD
    rw [List.map_cons, List.find?_cons]
    rcases List.mem_cons.mp h with rfl | h
    · simp
    · have : ¬ key y = key y0 := fun e => nd.1 (List.mem_map.mpr ⟨y0, h, e.symm⟩)
      simp only [decide_eq_false this]
      exact valD_find h nd.2
section
variable {P : Program} {w : World} {K : PySem.W.Frag} {mg : Str → Option Value} {base : Heap}
structure GRd where
  W : List Str
  V : List Pr
  S : Pr → List Pr
/-! Reading.gone_out -/
abbrev s_Reading_gone_out : Stmt := (inClass (topS 32) 1)
abbrev N_Reading_gone_out : List Str := ["self", "met", "found", "first"]
theorem sc_Reading_gone_out : FnScope N_Reading_gone_out ["self"] (defScope s_Reading_gone_out) := ⟨rfl, rfl, rfl, by decide +kernel, rfl, by decide +kernel, by decide +kernel⟩
def Pre_gone_out (C : Addr) : GRd → List D → List (Addr × M) → Prop := fun g ds mr => ds = [rD C g.W g.V g.S] ∧ mr = [] ∧ Net g.V g.S
def Post_gone_out : GRd → D → List (Addr × M) → Prop := fun g d mr => mr = [] ∧ ∃ fin, d = lD fin ∧ FinOk g.V g.S fin
theorem ok_Reading_gone_out {C : Addr} (cl : Cl K C rFlds) {f : Addr} {fd : FuncData} (F : Fun K "gone_out" "Reading.gone_out" s_Reading_gone_out f fd) (T : Bu K w mg) (F_Reading_go_from : Me P w K mg base 1 C "go_from" ["self", "first", "met", "found"] (MutG false 4 (Pre_go_from C) Post_go_from)) : FnOk P w K mg base CX0 2 f fd ["self"] (MutG false 1 (Pre_gone_out C) Post_gone_out) := by
  refine F.ok sc_Reading_gone_out (fun vs H Q E h => h.1) (fun cdv A outer s H vs Q E hr h => ?_)
  have nd := sc_Reading_gone_out.nd
  have hu := hu_of hr
  have hu0 := hr.units0
  refine ⟨_, (pss_cons (ps_par (i := 1) (j := 2) rfl nd rfl rfl (by decide) rfl rfl (pa_cons pe_dnewT (pa_cons (pe_lst pa_nil) pa_nil)) (by rfl))
  (pss_cons (ps_for PassesOwn.never rfl (pi_list (pe_fld (pv 0) rfl)) (pg_name (i := 3) nd rfl (Or.inl rfl)) (pss_one (ps_if (pt_cmp (pc_dnotin hu (pv 3) (pv 1))) (pss_cons (ps_dput hu (pv 1) (pv 3) pe_bl rfl)
  (pss_one (ps_expr (pe_me F_Reading_go_from (pv 0) (hr.mono (by decide)) (pa_cons (pv 3) (pa_cons (pv 1) (pa_cons (pv 2) pa_nil))))))) pss_nil)))
  (pss_one (ps_ret (pv 2))))), ?_⟩
  refine body_okG h fun gh ds mr hn hP B => ?_
  obtain ⟨W, V, S⟩ := gh
  obtain ⟨rfl, rfl, net⟩ := (show ds = [rD C W V S] ∧ mr = [] ∧ Net V S from hP)
  have ne2 := cl.no "pairs" (by decide)
  have few := net.few
  refine sm_parX (P2 := fun b' ds => ∃ pm pf, ds = [.ref pm, .ref pf] ∧ pm ≠ pf ∧ b'.fl = false ∧ (pm, M.dT []) ∈ b'.rt ∧ (pf, M.lst []) ∈ b'.rt) (xa_cons (P' := fun b' d => ∃ pm, d = .ref pm ∧ b' = Bx.add ⟨false, []⟩ pm (.dT [])) (ex_dnewT fun p _ => ⟨p, rfl, rfl⟩) ?m1) ?m2
  case m1 =>
    rintro b' d ⟨pm, rfl, rfl⟩
    exact xa_cons (P' := fun b' d => ∃ pf, d = .ref pf ∧ pm ≠ pf ∧ b' = Bx.add (Bx.add ⟨false, []⟩ pm (.dT [])) pf (.lst [])) (ex_new (evn_lst ea_nil (by decide)) fun q fq => ⟨q, rfl, fq _ mem_add, rfl⟩) fun b' d ⟨pf, e1, e2, e3⟩ => xa_nil ⟨pm, pf, by rw [e1], e2, by rw [e3]; rfl, by rw [e3]; exact mem_add_of mem_add, by rw [e3]; exact mem_add⟩
  case m2 =>
    rintro b' ds ⟨pm, pf, rfl, hne, hfl, hm, hf⟩
    refine ⟨_, _, rfl, ?_⟩
    refine sm_for (P2 := fun b1 ds => b1 = b' ∧ ds = V.map pD) (sx_pure (src_list (ev_fld (ev_var rfl) cl.cls ne2 rfl)) ⟨rfl, rfl⟩) fun b1 ds ⟨e1, e2⟩ => ?_
    subst e1 e2
    refine ⟨fun i b ρ => ∃ ms fin x, b.fl = false ∧ (pm, M.dT (metD ms)) ∈ b.rt ∧ (pf, M.lst (fin.map pD)) ∈ b.rt ∧ DfsI V S ms fin [] ∧ (∀ p ∈ V.take i, p ∈ ms) ∧ ρ = [some (rD C W V S), some (.ref pm), some (.ref pf), x], ⟨[], [], none, hfl, hm, hf, .nil, (fun p hp => by simp at hp), rfl⟩, ?_, ?_⟩
    · rintro i b ρ ⟨ms, fin, x, hfl, hm, hf, dfs, hin, rfl⟩ d hd
      have hi : i < V.length := by
        have := (List.getElem?_eq_some_iff.mp hd).1
        simpa using this
      rw [List.getElem?_map, List.getElem?_eq_getElem hi] at hd
      cases hd
      have hV := List.getElem_mem hi
      have ht : V.take (i + 1) = V.take i ++ [V[i]] := by rw [List.take_add_one, List.getElem?_eq_getElem hi]; rfl
      refine ⟨_, _, tg_name (vs := [3]) (by decide), ?_⟩
      by_cases hc : V[i] ∈ ms
      · refine sm_last (sm_if (cc := false) (et_test (ev_ninTR (k := V[i]) (ev_var rfl) (ev_var rfl) hm (by rw [metD_in hc]; rfl))) (fun z => by cases z) fun _ => sm_unit (sm_next ⟨ms, fin, _, hfl, hm, hf, dfs, fun p hp => ?_, rfl⟩))
        rw [ht] at hp
        rcases List.mem_append.mp hp with q | q
        · exact hin p q
        · rw [List.mem_singleton.mp q]; exact hc
      · refine sm_last (sm_if (cc := true) (et_test (ev_ninTR (k := V[i]) (ev_var rfl) (ev_var rfl) hm (by rw [metD_out hc]; rfl))) (fun _ => ?_) (fun z => by cases z))
        have dl := dfs_len dfs
        refine sm_assoc (sm_dputT (k := V[i]) (P1 := fun b' d' => b' = b ∧ d' = .bl true) (ex_pure ev_bl ⟨rfl, rfl⟩) fun b' x' ⟨e1, e2⟩ => ?_)
        subst e1 e2
        refine ⟨pm, _, ev_var rfl, ev_var rfl, hm, by simp [metD]; omega, ?_⟩
        rw [metD_put hc]
        have hm1 := mem_put (m' := .dT (metD (ms ++ [V[i]]))) hm
        have hf1 := mem_put_ne (p := pm) (m' := .dT (metD (ms ++ [V[i]]))) hf (fun e => hne e.symm)
        have hfl1 : (b'.put pm (.dT (metD (ms ++ [V[i]])))).fl = false := hfl
        generalize b'.put pm (.dT (metD (ms ++ [V[i]]))) = b2 at hm1 hf1 hfl1 ⊢
        refine sm_assoc (sm_dropX (P1 := fun b1 d' => ∃ ms' fin', b1.fl = false ∧ (pm, M.dT (metD ms')) ∈ b1.rt ∧ (pf, M.lst (fin'.map pD)) ∈ b1.rt ∧ (∀ p ∈ ms ++ [V[i]], p ∈ ms') ∧ DfsI V S ms' fin' []) (ex_methG (P1 := fun b1 ds => b1 = b2 ∧ ds = [pD V[i], .ref pm, .ref pf]) (ev_var rfl) rfl (xa_pure (ea_cons (ev_var rfl) (ea_cons (ev_var rfl) (ea_cons (ev_var rfl) ea_nil))) ⟨rfl, rfl⟩) ?m) ?k)
        case m =>
          rintro b1 ds ⟨rfl, rfl⟩
          refine ⟨rfl, ⟨W, V, S, fin, ms, V[i], pm, pf⟩, [(pm, .dT (metD (ms ++ [V[i]]))), (pf, .lst (fin.map pD))], fun x hx => ?_, ⟨rfl, rfl, hne, net, hV, hc, dfs⟩, (fun z => by cases z), fun d ms' b'' hp ek pu => ?_⟩
          · rcases List.mem_cons.mp hx with rfl | hx
            · exact hm1
            · rw [List.mem_singleton.mp hx]; exact hf1
          · obtain ⟨rfl, ms2, fin2, rfl, h1, h2⟩ := hp
            exact ⟨ms2, fin2, pu.fl.trans hfl1, pu.new _ List.mem_cons_self, pu.new _ (List.mem_cons_of_mem _ List.mem_cons_self), h1, h2⟩
        case k =>
          rintro b1 d' ⟨ms2, fin2, hfl2, hm2, hf2, h1, h2⟩
          refine sm_unit (sm_next ⟨ms2, fin2, _, hfl2, hm2, hf2, h2, fun p hp => ?_, rfl⟩)
          rw [ht] at hp
          refine h1 p ?_
          rcases List.mem_append.mp hp with q | q
          · exact List.mem_append_left _ (hin p q)
          · exact List.mem_append_right _ q
    · rintro b ρ ⟨ms, fin, x, hfl, hm, hf, dfs, hin, rfl⟩
      rw [List.length_map, List.take_length] at hin
      exact sm_frz (i := 2) hf rfl (sm_ret (ev_var rfl) ⟨[], ⟨rfl, fin, rfl, dfs.fin hin⟩, rfl, (fun x hx => nomatch hx)⟩)
/-! Reading.elders -/
abbrev s_Reading_elders : Stmt := (inClass (topS 32) 3)
abbrev N_Reading_elders : List Str := ["self", "found", "pair", "steps", "step"]
theorem sc_Reading_elders : FnScope N_Reading_elders ["self"] (defScope s_Reading_elders) := ⟨rfl, rfl, rfl, by decide +kernel, rfl, by decide +kernel, by decide +kernel⟩
def Post_elders : GRd → D → List (Addr × M) → Prop := fun g d mr => mr = [] ∧ ∃ E : Pr → List Pr, d = SD g.V E ∧ ∀ p ∈ g.V, (E p).length ≤ 1000 ∧ ∀ q, q ∈ E p ↔ q ∈ g.V ∧ p ∈ g.S q
theorem ok_Reading_elders {C : Addr} (cl : Cl K C rFlds) {f : Addr} {fd : FuncData} (F : Fun K "elders" "Reading.elders" s_Reading_elders f fd) (T : Bu K w mg) : FnOk P w K mg base CX0 1 f fd ["self"] (MutG true 1 (Pre_gone_out C) Post_elders) := by
  refine F.ok sc_Reading_elders (fun vs H Q E h => h.1) (fun cdv A outer s H vs Q E hr h => ?_)
  have nd := sc_Reading_elders.nd
  have hu := hu_of hr
  have hu0 := hr.units0
  refine ⟨_, (pss_cons (ps_setDcT (i := 1) (g := (gName 2)) (tt := tYes) (tk := (tVar 2)) (tv := (tLst tNil)) (own := [("pair", 2)]) hu0 rfl nd rfl rfl (sw_trueD rfl rfl rfl (by decide +kernel)) (pi_list (pe_fld (pv 0) rfl)) (blkOk_by (own := [("pair", 2)]) (N := N_Reading_elders) (sc := (defScope s_Reading_elders)) (by decide +kernel)) (fun _ _ _ _ _ => (pg_name (i := 2) nd rfl (Or.inl rfl))) (fun _ _ _ _ _ => pts_nil) (fun _ _ _ _ _ => (pv 2)) (fun _ _ _ _ _ => (pe_lst pa_nil)))
  (pss_cons (ps_lock (ps_for PassesOwn.never rfl (pi_itemsT (pe_fld (pv 0) rfl)) (pg_tup rfl (pgs_cons (pg_name (i := 2) nd rfl (Or.inl rfl)) (pgs_cons (pg_name (i := 3) nd rfl (Or.inl rfl)) pgs_nil))) (pss_one (ps_for PassesOwn.never rfl (pi_list (pv 3)) (pg_name (i := 4) nd rfl (Or.inl rfl)) (pss_one (ps_expr (pe_bm PySem.F.plainAttrs_list PySem.F.slot_list_append PySem.F.type_list_append mt_append (pe_dget hu (pv 1) (pv 4) (fun _ _ => rfl)) (pa_cons (pv 2) pa_nil))))))))
  (pss_one (ps_ret (pv 1))))), ?_⟩
  refine body_okG h fun gh ds mr hn hP B => ?_
  obtain ⟨W, V, S⟩ := gh
  obtain ⟨rfl, rfl, net⟩ := (show ds = [rD C W V S] ∧ mr = [] ∧ Net V S from hP)
  have ne2 := cl.no "pairs" (by decide)
  have ne3 := cl.no "steps" (by decide)
  have few := net.few
  refine sm_setX (P1 := fun b' d' => ∃ p ys, d' = .ref p ∧ b' = dnB ⟨true, []⟩ p id ys ∧ ys.map (·.1) = V ∧ (p :: ys.map (·.2)).Nodup) (ex_dcTnew (k := id) (src_list (ev_fld (ev_var rfl) cl.cls ne2 rfl)) (by omega) (by rw [List.map_id]; exact net.nd) (fun x hx => ⟨_, tg_name (by decide), ev_var rfl⟩) fun p ys h1 h2 h3 => ⟨p, ys, rfl, rfl, h1, h2⟩) fun b' d' ⟨p, ys, e1, e2, h1, h2⟩ => ?_
  subst e1 e2
  -- what the lists hold
  have ndV := net.nd
  refine sm_forL (ds := V.map fun p => .tup [pD p, lD (S p)]) rfl (SrcL.is (sl_itemsT rfl (kn_fld (kn_var rfl) cl.cls ne3 rfl)) (by rw [List.map_map]; rfl)) (fun i b ρ => ∃ x y z, (p, M.dT (ys.map fun y => (pK y.1, .ref y.2))) ∈ b.rt ∧ (∃ E : Pr → List Pr, (∀ y ∈ ys, (y.2, M.lst ((E y.1).map pD)) ∈ b.rt) ∧ ∀ q ∈ V, (E q).length ≤ 30 * i ∧ ∀ r, r ∈ E q ↔ r ∈ V.take i ∧ q ∈ S r) ∧ ρ = [some (rD C W V S), some (.ref p), x, y, z]) ⟨none, none, none, List.mem_cons_self, ⟨fun _ => [], fun y hy => List.mem_cons_of_mem _ (List.mem_append_left _ (List.mem_map.mpr ⟨y, hy, rfl⟩)), fun q hq => ⟨by simp, fun r => by simp⟩⟩, rfl⟩ ?t ?f
  case t =>
    rintro B' i b ρ ⟨x, y, z, hp, ⟨E, hE, hE2⟩, rfl⟩ d hd
    have hi : i < V.length := by
      have := (List.getElem?_eq_some_iff.mp hd).1
      simpa using this
    rw [List.getElem?_map, List.getElem?_eq_getElem hi] at hd
    cases hd
    have hV := List.getElem_mem hi
    have ht : V.take (i + 1) = V.take i ++ [V[i]] := by rw [List.take_add_one, List.getElem?_eq_getElem hi]; rfl
    have hout := net.out _ hV
    refine ⟨_, _, tg_pair (vs := [2, 3]) (by decide) (by decide), ?_⟩
    refine sm_last (sm_for (P2 := fun b1 ds => b1 = b ∧ ds = (S V[i]).map pD) (sx_pure (src_list (ev_var rfl)) ⟨rfl, rfl⟩) fun b1 ds ⟨e1, e2⟩ => ?_)
    subst e1 e2
    refine ⟨fun j b ρ => ∃ z, (p, M.dT (ys.map fun y => (pK y.1, .ref y.2))) ∈ b.rt ∧ (∃ E : Pr → List Pr, (∀ y ∈ ys, (y.2, M.lst ((E y.1).map pD)) ∈ b.rt) ∧ ∀ q ∈ V, (E q).length ≤ 30 * i + j ∧ ∀ r, r ∈ E q ↔ (r ∈ V.take i ∧ q ∈ S r) ∨ (r = V[i] ∧ q ∈ (S V[i]).take j)) ∧ ρ = [some (rD C W V S), some (.ref p), some (pD V[i]), some (lD (S V[i])), z], ⟨z, hp, ⟨E, hE, fun q hq => ⟨by have := (hE2 q hq).1; omega, fun r => by rw [(hE2 q hq).2 r]; simp⟩⟩, rfl⟩, ?_, ?_⟩
    · rintro j b ρ ⟨z, hp, ⟨E, hE, hE2⟩, rfl⟩ d hd
      have hj : j < (S V[i]).length := by
        have := (List.getElem?_eq_some_iff.mp hd).1
        simpa using this
      rw [List.getElem?_map, List.getElem?_eq_getElem hj] at hd
      cases hd
      have hs := List.getElem_mem hj
      generalize hse : (S V[i])[j] = s at hs ⊢
      have hsV := net.cl _ hV _ hs
      have ht2 : (S V[i]).take (j + 1) = (S V[i]).take j ++ [s] := by rw [List.take_add_one, List.getElem?_eq_getElem hj, hse]; rfl
      obtain ⟨y0, hy0, ey0⟩ : ∃ y ∈ ys, y.1 = s := by rw [← h1] at hsV; exact List.mem_map.mp hsV
      have hval : valD (ys.map fun y => (pK y.1, D.ref y.2)) (pK s) = some (.ref y0.2) := by
        have ndy : (ys.map (·.1)).Nodup := by rw [h1]; exact ndV
        have := valD_find (key := fun y : Pr × Addr => pK y.1) (f := fun y => D.ref y.2) hy0 (by rw [show (fun y : Pr × Addr => pK y.1) = pK ∘ (·.1) from rfl, ← List.map_map]; exact nodup_inj pK_inj' ndy)
        rw [ey0] at this
        exact this
      have hlen := (hE2 s hsV).1
      refine ⟨_, _, tg_name (vs := [4]) (by decide), ?_⟩
      refine sm_last (sm_dropX (P1 := fun b1 d' => b1 = b.put y0.2 (.lst ((E s).map pD ++ [pD V[i]]))) (ex_append (es := fun _ => True) (P1 := fun b1 d => b1 = b ∧ d = pD V[i]) (ev_dgetTR (k := s) (ev_var rfl) (ev_var rfl) hp hval) (ex_pure (ev_var rfl) ⟨rfl, rfl⟩) (fun b1 d' ⟨e1, e2⟩ => by subst e1 e2; exact ⟨_, by have := hE y0 hy0; rw [ey0] at this; exact this, by rw [List.length_map]; omega, rfl⟩) ⟨_, hE y0 hy0⟩) fun b1 d' e => ?_)
      subst e
      rw [List.nodup_cons] at h2
      have np : p ≠ y0.2 := fun e => h2.1 (e ▸ List.mem_map.mpr ⟨y0, hy0, rfl⟩)
      refine sm_next ⟨_, mem_put_ne hp np, ⟨fun q => if q = s then E s ++ [V[i]] else E q, fun y hy => ?_, fun q hq => ?_⟩, rfl⟩
      · by_cases e : y = y0
        · subst e
          show (y.2, M.lst (List.map pD (if y.1 = s then E s ++ [V[i]] else E y.1))) ∈ _
          rw [if_pos ey0, List.map_append]
          exact mem_put (hE y hy0)
        · have n1 : y.2 ≠ y0.2 := fun e2 => by
            obtain ⟨a, ha, ea⟩ := List.mem_iff_getElem.mp hy
            obtain ⟨c, hc, ec⟩ := List.mem_iff_getElem.mp hy0
            have := (List.getElem_inj (i := a) (j := c) (h₀ := by rw [List.length_map]; exact ha) (h₁ := by rw [List.length_map]; exact hc) h2.2).mp (by rw [List.getElem_map, List.getElem_map, ea, ec, e2])
            subst this
            exact e (ea.symm.trans ec)
          have n2 : y.1 ≠ s := fun e2 => by
            obtain ⟨a, ha, ea⟩ := List.mem_iff_getElem.mp hy
            obtain ⟨c, hc, ec⟩ := List.mem_iff_getElem.mp hy0
            have ndy : (ys.map (·.1)).Nodup := by rw [h1]; exact ndV
            have := (List.getElem_inj (i := a) (j := c) (h₀ := by rw [List.length_map]; exact ha) (h₁ := by rw [List.length_map]; exact hc) ndy).mp (by rw [List.getElem_map, List.getElem_map, ea, ec, e2, ey0])
            subst this
            exact e (ea.symm.trans ec)
          show (y.2, M.lst (List.map pD (if y.1 = s then E s ++ [V[i]] else E y.1))) ∈ _
          rw [if_neg n2]
          exact mem_put_ne (hE y hy) n1
      · obtain ⟨g1, g2⟩ := hE2 q hq
        show (if q = s then E s ++ [V[i]] else E q).length ≤ _ ∧ ∀ r, r ∈ (if q = s then E s ++ [V[i]] else E q) ↔ _
        by_cases e : q = s
        · subst e
          rw [if_pos rfl]
          refine ⟨by rw [List.length_append, List.length_singleton]; omega, fun r => ?_⟩
          rw [List.mem_append, g2 r, List.mem_singleton, ht2, List.mem_append, List.mem_singleton]
          constructor
          · rintro ((h | ⟨h, h'⟩) | h)
            · exact .inl h
            · exact .inr ⟨h, .inl h'⟩
            · exact .inr ⟨h, .inr rfl⟩
          · rintro (h | ⟨h, h' | _⟩)
            · exact .inl (.inl h)
            · exact .inl (.inr ⟨h, h'⟩)
            · exact .inr h
        · rw [if_neg e]
          refine ⟨by omega, fun r => ?_⟩
          rw [g2 r, ht2, List.mem_append, List.mem_singleton]
          constructor
          · rintro (h | ⟨h, h'⟩)
            · exact .inl h
            · exact .inr ⟨h, .inl h'⟩
          · rintro (h | ⟨h, h' | h'⟩)
            · exact .inl h
            · exact .inr ⟨h, h'⟩
            · exact absurd h' e
    · rintro b ρ ⟨z, hp, ⟨E, hE, hE2⟩, rfl⟩
      refine sm_next ⟨_, _, _, hp, ⟨E, hE, fun q hq => ?_⟩, rfl⟩
      obtain ⟨g1, g2⟩ := hE2 q hq
      rw [List.length_map] at g1 g2
      refine ⟨by omega, fun r => ?_⟩
      rw [g2 r, ht, List.mem_append, List.mem_singleton, List.take_length]
      constructor
      · rintro (⟨h, h'⟩ | ⟨h, h'⟩)
        · exact ⟨.inl h, h'⟩
        · exact ⟨.inr h, by rw [h]; exact h'⟩
      · rintro ⟨h | h, h'⟩
        · exact .inl ⟨h, h'⟩
        · exact .inr ⟨h, by rw [← h]; exact h'⟩
  case f =>
    rintro b ρ ⟨x, y, z, hp, ⟨E, hE, hE2⟩, rfl⟩
    rw [List.length_map, List.take_length] at hE2
    refine sm_frzT (b := b.ul) (i := 1) (f := fun y => .lst ((E y.1).map pD)) hp hE h2 rfl fun b' f' k' => ?_
    refine sm_ret (ev_var rfl) ⟨[], ⟨rfl, E, ?_, fun q hq => ⟨by have := (hE2 q hq).1; omega, (hE2 q hq).2⟩⟩, rfl, (fun x hx => nomatch hx)⟩
    show D.dT _ = SD V E
    unfold SD
    rw [← h1, List.map_map]
    rfl
end
end Sh
set_option Elab.async false
set_option linter.all false
set_option maxRecDepth 100000
set_option maxHeartbeats 4000000
/-! WH: levels. -/
namespace Sh
open PySem L2
local macro_rules | `(tactic| walk_at "ev1") => `(tactic| first
  | (with_reducible apply ev_var); rfl
  | with_reducible exact ev_int
  | with_reducible exact ev_str
  | with_reducible exact ev_bl
  | with_reducible exact ev_non
  | with_reducible exact ev_ty
  | with_reducible apply ev_op
  | with_reducible apply ev_cb
  | with_reducible apply ea_cons
  | with_reducible exact ea_nil
  | with_reducible exact rd_I0 rfl
  | with_reducible exact rd_I0b rfl
  | with_reducible apply rd_I rfl
  | with_reducible exact rd_eqI
  | with_reducible exact rd_neI
  | with_reducible exact rd_eqS
  | with_reducible exact rd_neS
  | with_reducible exact rd_isN
  | with_reducible exact rd_notN
  | with_reducible exact rd_fst
  | with_reducible exact rd_snd
  | with_reducible exact rc_lenL
  | with_reducible exact rc_lenT
  | with_reducible apply rc_lenS
  | with_reducible exact rc_intB
  | with_reducible exact rc_min
  | with_reducible exact rc_all
  | with_reducible exact rc_any
  | with_reducible apply ev_slS
  | with_reducible exact eo_none
  | with_reducible apply eo_some
  | with_reducible apply et_test
  | with_reducible apply et_B
  | with_reducible apply et_not
  | with_reducible apply ev_notV
  | (with_reducible apply ev_un); rotate_left; rfl)
local macro_rules | `(tactic| walk_at "ev") => `(tactic| repeat' walk_at "ev1")
section
variable {B : Bs} {b : Bx} {ρ : Ro} {te ta' tb : TE} {ta : TA} {K : PySem.W.Frag} {P : Po}
theorem sx_rev {P : Bx → List D → Prop} (h : EvXA B ta b ρ fun b' ds => ∃ xs, ds = [.lst xs] ∧ P b' xs.reverse) : SrcX B (iRev K ta) b ρ P := fun σ G H o R k => h σ G H o _ fun b' ds vs G1 H1 ⟨xs, e, q⟩ s1 o1 r1 => by
  subst e
  obtain ⟨v, rfl, a, ys, rfl, h2, h3⟩ := r1.one'
  refine ⟨a, ys, rfl, SqL.of (o1.sub _ _ h2), k b' xs.reverse _ G1 H1 q s1 o1 ⟨fun i G2 H e s hi => ?_, fun G2 H e s => ?_, fun i G2 H x H' e s hi y => ?_⟩⟩
  · exact walk_rev.goes i H (by rw [← h3.length]; simpa using hi) (SqL.of (s _ _ (e _ _ h2)))
  · rw [List.length_reverse, h3.length]; exact walk_rev.stops H (SqL.of (s _ _ (e _ _ h2)))
  · have hi' : i < xs.length := by simpa using hi
    obtain ⟨e1, e2⟩ := walk_rev.yields i H x H' (by rw [← h3.length]; exact hi') (SqL.of (s _ _ (e _ _ h2))) y
    subst e1
    obtain ⟨d, h4, h5⟩ := h3.back e2
    refine ⟨G2, d, .refl s, ?_, h5.mono e⟩
    rw [List.getElem?_reverse hi', h3.length]
    exact h4
theorem ex_dgetTX {kvs : List (List Key × D)} {P1 : Po} (hd : Ev b ta' ρ (.dT kvs)) (hk : EvX B tb b ρ P1) (q : ∀ b' d, P1 b' d → ∃ p x, d = pD p ∧ valD kvs (pK p) = some x ∧ P b' x) : EvX B (tDGet ta' tb) b ρ P := fun σ G H o Q k =>
  hd σ G H o.lk o.env o.sub _ fun v H1 G1 g1 r1 => hk σ G1 H1 (o.go g1) _ fun b2 d2 u G2 H2 p2 s2 o2 r2 => by
    obtain ⟨p, x, rfl, e, q⟩ := q b2 d2 p2
    obtain ⟨a, xs, rfl, h2, h3⟩ := r1.mono s2
    obtain ⟨c, rfl, h5⟩ := rep_pD r2
    have h3 := repT_iff.mp h3
    rcases h3.val (pK p) with ⟨n, _⟩ | ⟨d', w, e1, e2, e3⟩
    · rw [n] at e; cases e
    · rw [e1] at e; cases e
      refine ⟨a, w, rfl, ?_, k b2 _ w G2 H2 q (g1.gx.trans s2) o2 e3⟩
      exact .inr ⟨xs, pK p, c, rd_same o2.sub h2, rfl, o2.sub _ _ h5, e2.symm⟩
end
def fsD (fs : List (Pr × Int)) : List (List Key × D) := fs.map fun x => (pK x.1, .int x.2)
def fsV (fs : List (Pr × Int)) (a : Pr) : Int := ((fs.find? fun x => decide (x.1 = a)).map (·.2)).getD 0
theorem fsV_of : ∀ {fs : List (Pr × Int)} {x : Pr × Int}, (fs.map (·.1)).Nodup → x ∈ fs → fsV fs x.1 = x.2
  | [], _, _, h => nomatch h
  | y :: fs, x, nd, h => by
    rw [List.map_cons, List.nodup_cons] at nd
    unfold fsV
    rw [List.find?_cons]
    rcases List.mem_cons.mp h with rfl | h
    · simp
    · have : ¬ y.1 = x.1 := fun e => nd.1 (List.mem_map.mpr ⟨x, h, e.symm⟩)
      simp only [decide_eq_false this]
      exact fsV_of nd.2 h
theorem fsD_lev {fs : List (Pr × Int)} (nd : (fs.map (·.1)).Nodup) : D.dT (fsD fs) = levD (fs.map (·.1)) (fsV fs) := by
  unfold fsD levD
  rw [List.map_map]
  congr 1
  refine List.map_congr_left fun x hx => ?_
  show _ = (pK x.1, D.int (fsV fs x.1))
  rw [fsV_of nd hx]
theorem fsD_is {fs : List (Pr × Int)} {p : Pr} : (valD (fsD fs) (pK p)).isSome = decide (p ∈ fs.map (·.1)) := by
  by_cases h : p ∈ fs.map (·.1)
  · obtain ⟨x, hx, rfl⟩ := List.mem_map.mp h
    rw [decide_eq_true h]
    unfold valD fsD
    cases hf : (fs.map fun x => (pK x.1, D.int x.2)).find? fun kv => decide (kv.1 = pK x.1) with
    | some y => rfl
    | none =>
      rw [List.find?_eq_none] at hf
      have := hf _ (List.mem_map.mpr ⟨x, hx, rfl⟩)
      simp at this
  · rw [decide_eq_false h]
    unfold valD fsD
    rw [List.find?_eq_none.mpr]
    · rfl
    · intro x hx
      obtain ⟨y, hy, rfl⟩ := List.mem_map.mp hx
      simp only [decide_eq_true_eq]
      exact fun e => h (List.mem_map.mpr ⟨y, hy, pK_inj e⟩)
theorem fsD_put {fs : List (Pr × Int)} {p : Pr} {n : Int} (h : p ∉ fs.map (·.1)) : putD (fsD fs) (pK p) (.int n) = fsD (fs ++ [(p, n)]) := by
  rw [putD_none]
  · simp [fsD]
  · cases hv : valD (fsD fs) (pK p) with
    | none => rfl
    | some x =>
      have := fsD_is (fs := fs) (p := p)
      rw [hv, decide_eq_false h] at this
      cases this
section
variable {P : Program} {w : World} {K : PySem.W.Frag} {mg : Str → Option Value} {base : Heap}
/-! Reading.levels -/
abbrev s_Reading_levels : Stmt := (inClass (topS 32) 4)
abbrev N_Reading_levels : List Str := ["self", "elders", "found", "many", "first", "line", "pair"]
theorem sc_Reading_levels : FnScope N_Reading_levels ["self"] (defScope s_Reading_levels) := ⟨rfl, rfl, rfl, by decide +kernel, rfl, by decide +kernel, by decide +kernel⟩
structure LvOk (V : List Pr) (S : Pr → List Pr) (ps : List Pr) (lv : Pr → Int) : Prop where
  perm : ps.Perm V
  eq : ∀ a ∈ V, ∀ b ∈ V, lv a = lv b ↔ Rs S a b ∧ Rs S b a
def Post_levels : GRd → D → List (Addr × M) → Prop := fun g d mr => mr = [] ∧ ∃ ps lv, d = levD ps lv ∧ LvOk g.V g.S ps lv
/-- one search for elders -/
structure Srch (V : List Pr) (S : Pr → List Pr) (fs : List (Pr × Int)) (x : Pr) (new L : List Pr) : Prop where
  nd : (fs.map (·.1) ++ new).Nodup
  inx : x ∈ new
  hr : ∀ y ∈ new, y ∈ V ∧ Rs S y x
  sub : ∀ y ∈ L, y ∈ new
  len : L.length ≤ new.length
def newF (new : List Pr) (n : Int) : List (Pr × Int) := new.map fun y => (y, n)
theorem newF_keys {fs : List (Pr × Int)} {new : List Pr} {n : Int} : (fs ++ newF new n).map (·.1) = fs.map (·.1) ++ new := by unfold newF; rw [List.map_append, List.map_map]; simp [Function.comp_def]
theorem ok_Reading_levels {C : Addr} (cl : Cl K C rFlds) {f : Addr} {fd : FuncData} (F : Fun K "levels" "Reading.levels" s_Reading_levels f fd) (T : Bu K w mg) (F_Reading_elders : Me P w K mg base 1 C "elders" ["self"] (MutG true 1 (Pre_gone_out C) Post_elders)) (F_Reading_gone_out : Me P w K mg base 2 C "gone_out" ["self"] (MutG false 1 (Pre_gone_out C) Post_gone_out)) : FnOk P w K mg base CX0 3 f fd ["self"] (MutG true 1 (Pre_gone_out C) Post_levels) := by
  refine F.ok sc_Reading_levels (fun vs H Q E h => h.1) (fun cdv A outer s H vs Q E hr h => ?_)
  have nd := sc_Reading_levels.nd
  have hu := hu_of hr
  have hu0 := hr.units0
  refine ⟨_, (pss_cons (ps_asg (pe_tup (pa_cons (pe_me0 F_Reading_elders (pv 0) (hr.mono (by decide))) (pa_cons pe_dnewT (pa_cons pe_int pa_nil)))) (pg_tup rfl (pgs_cons (pg_name (i := 1) nd rfl (Or.inl rfl)) (pgs_cons (pg_name (i := 2) nd rfl (Or.inr rfl)) (pgs_cons (pg_name (i := 3) nd rfl (Or.inl rfl)) pgs_nil)))))
  (pss_cons (ps_for PassesOwn.never rfl (pi_reversed (by rfl) T.n_reversed (pa_cons (pe_me0 F_Reading_gone_out (pv 0) (hr.mono (by decide))) pa_nil)) (pg_name (i := 4) nd rfl (Or.inl rfl)) (pss_cons (ps_if (pt_cmp (pc_din hu (pv 4) (pv 2))) (pss_one ps_continue) pss_nil)
  (pss_cons (ps_set (i := 5) nd rfl (Or.inl rfl) (pe_lst (pa_cons (pv 4) pa_nil)))
  (pss_cons (ps_dput hu (pv 2) (pv 4) (pv 3) rfl)
  (pss_cons (ps_while PassesOwn.never (pt_cmpR (op_neNil hu0) (pv 5) (pe_lst pa_nil) (nomark _)) (pss_one (ps_for PassesOwn.never rfl (pi_list (pe_lc (g := (gName 6)) (tt := (tB (tDNotIn (tVar 6) (tVar 2)))) (te := (tVar 6)) (own := [("pair", 6)]) rfl nd (pi_list (pe_dget hu (pv 1) (pe_bm0 PySem.F.plainAttrs_list PySem.F.slot_list_pop PySem.F.type_list_pop mt_pop (pv 5)) (fun _ _ => rfl))) (blkOk_by (own := [("pair", 6)]) (N := N_Reading_levels) (sc := (defScope s_Reading_levels)) (by decide +kernel)) (fun _ _ _ _ _ => (pg_name (i := 6) nd rfl (Or.inl rfl))) (fun _ _ _ _ _ => (pts_one (pt_cmp (pc_dnotin hu (pv 6) (pv 2))))) (fun _ _ _ _ _ => (pv 6)))) (pg_name (i := 6) nd rfl (Or.inl rfl)) (pss_one (ps_if (pt_cmp (pc_dnotin hu (pv 6) (pv 2))) (pss_cons (ps_dput hu (pv 2) (pv 6) (pv 3) rfl)
  (pss_one (ps_expr (pe_bm PySem.F.plainAttrs_list PySem.F.slot_list_append PySem.F.type_list_append mt_append (pv 5) (pa_cons (pv 6) pa_nil))))) pss_nil)))))
  (pss_one (ps_aug (i := 3) nd rfl (Or.inl rfl) pe_int ip_add)))))))
  (pss_one (ps_ret (pv 2))))), ?_⟩
  refine body_okG h fun gh ds mr hn hP B => ?_
  obtain ⟨W, V, S⟩ := gh
  obtain ⟨rfl, rfl, net⟩ := (show ds = [rD C W V S] ∧ mr = [] ∧ Net V S from hP)
  have few := net.few
  refine sm_triX (P1 := fun b' d => ∃ E pf, d = .tup [SD V E, .ref pf, .int 0] ∧ (pf, M.dT (fsD [])) ∈ b'.rt ∧ ∀ p ∈ V, (E p).length ≤ 1000 ∧ ∀ q, q ∈ E p ↔ q ∈ V ∧ p ∈ S q) (ex_tup (P1 := fun b' ds => ∃ E pf, ds = [SD V E, .ref pf, .int 0] ∧ (pf, M.dT (fsD [])) ∈ b'.rt ∧ ∀ p ∈ V, (E p).length ≤ 1000 ∧ ∀ q, q ∈ E p ↔ q ∈ V ∧ p ∈ S q) (xa_cons (P' := fun b' d => ∃ E, d = SD V E ∧ ∀ p ∈ V, (E p).length ≤ 1000 ∧ ∀ q, q ∈ E p ↔ q ∈ V ∧ p ∈ S q) (ex_methG (P1 := fun b1 ds => b1 = ⟨true, []⟩ ∧ ds = []) (ev_var rfl) rfl (xa_nil ⟨rfl, rfl⟩) ?m1) ?m2) ?m3) ?k
  case m1 =>
    rintro b1 ds ⟨rfl, rfl⟩
    refine ⟨rfl, ⟨W, V, S⟩, [], (fun x hx => nomatch hx), ⟨rfl, rfl, net⟩, (fun _ => rfl), fun d ms' b'' hp ek pu => ?_⟩
    obtain ⟨_, E, e, h⟩ := hp
    exact ⟨E, e, h⟩
  case m2 =>
    rintro b1 d ⟨E, rfl, hE⟩
    exact xa_cons (P' := fun b' d => ∃ pf, d = .ref pf ∧ (pf, M.dT (fsD [])) ∈ b'.rt) (ex_dnewT fun p _ => ⟨p, rfl, mem_add⟩) fun b' d ⟨pf, e, h⟩ => xa_pure (ea_cons ev_int ea_nil) ⟨E, pf, by rw [e], h, hE⟩
  case m3 =>
    rintro b1 ds ⟨E, pf, rfl, h⟩
    exact ⟨by simp, E, pf, rfl, h⟩
  case k =>
    rintro b' d ⟨E, pf, rfl, hpf, hE⟩
    refine ⟨_, _, _, rfl, ?_⟩
    refine sm_for (P2 := fun b1 ds => ∃ fin, ds = (fin.map pD).reverse ∧ FinOk V S fin ∧ (pf, M.dT (fsD [])) ∈ b1.rt) (sx_rev (xa_cons (P' := fun b1 d => ∃ fin, d = lD fin ∧ FinOk V S fin ∧ (pf, M.dT (fsD [])) ∈ b1.rt) (ex_methG (P1 := fun b1 ds => b1 = b' ∧ ds = []) (ev_var rfl) rfl (xa_nil ⟨rfl, rfl⟩) ?m4) ?m5)) ?k2
    case m4 =>
      rintro b1 ds ⟨rfl, rfl⟩
      refine ⟨rfl, ⟨W, V, S⟩, [], (fun x hx => nomatch hx), ⟨rfl, rfl, net⟩, (fun z => by cases z), fun d ms' b'' hp ek pu => ?_⟩
      obtain ⟨e0, fin, e, h⟩ := hp
      subst e0
      exact ⟨fin, e, h, pu.old _ hpf (fun z => nomatch z)⟩
    case m5 =>
      rintro b1 d ⟨fin, rfl, h⟩
      exact xa_nil ⟨_, rfl, fin, rfl, h⟩
    case k2 =>
      rintro b1 ds ⟨fin, rfl, FO, hpf1⟩
      have finlen : fin.length ≤ 33 := Nat.le_trans (nodup_le FO.nd fun x hx => (FO.mem x).mp hx) few
      refine ⟨fun i b ρ => ∃ fs many x y z, (pf, M.dT (fsD fs)) ∈ b.rt ∧ Lv2 V S fin (fin.length - i) fs many ∧ ρ = [some (rD C W V S), some (SD V E), some (.ref pf), some (.int many), x, y, z], ⟨[], 0, none, none, none, hpf1, .start, rfl⟩, ?_, ?_⟩
      · rintro i b ρ ⟨fs, many, x, y, z, hf, lv2, rfl⟩ d hd
        have hi : i < fin.length := by
          have := (List.getElem?_eq_some_iff.mp hd).1
          simpa using this
        obtain ⟨a, ha⟩ : ∃ a, fin[fin.length - (i + 1)]? = some a := ⟨_, List.getElem?_eq_getElem (by omega)⟩
        have hd' : d = pD a := by
          rw [List.getElem?_reverse (by simpa using hi), List.getElem?_map, List.length_map, show fin.length - 1 - i = fin.length - (i + 1) by omega, ha] at hd
          cases hd
          rfl
        subst hd'
        have haV : a ∈ V := (FO.mem a).mp (List.mem_of_getElem? ha)
        have hl1 : fin.length - i = fin.length - (i + 1) + 1 := by omega
        rw [hl1] at lv2
        have fsl : fs.length ≤ V.length := by have := nodup_le lv2.nd lv2.sub; simpa using this
        refine ⟨_, _, tg_name (vs := [4]) (by decide), ?_⟩
        by_cases hin : a ∈ fs.map (·.1)
        · refine sm_if (cc := true) (et_test (ev_inTR (k := a) (ev_var rfl) (ev_var rfl) hf (by rw [fsD_is, decide_eq_true hin]))) (fun _ => sm_cont ?_) (fun z => by cases z)
          exact ⟨fs, many, _, y, z, hf, lv2.skip ha hin, rfl⟩
        · refine sm_if (cc := false) (et_test (ev_inTR (k := a) (ev_var rfl) (ev_var rfl) hf (by rw [fsD_is, decide_eq_false hin]))) (fun z => by cases z) fun _ => sm_unit ?_
          refine sm_setN (ds := [pD a]) (evn_lst (ea_cons (ev_var rfl) ea_nil) (by simp)) fun q fq => ?_
          have hpq : pf ≠ q := fq _ hf
          refine sm_dputT (k := a) (P1 := fun b' d' => b' = b.add q (.lst [pD a]) ∧ d' = .int many) (ex_pure (ev_var rfl) ⟨rfl, rfl⟩) fun b' x' ⟨e1, e2⟩ => ?_
          subst e1 e2
          refine ⟨pf, _, ev_var rfl, ev_var rfl, mem_add_of hf, by simp [fsD]; omega, ?_⟩
          rw [fsD_put hin]
          have hf1 : (pf, M.dT (fsD (fs ++ newF [a] many))) ∈ ((b.add q (.lst [pD a])).put pf (.dT (fsD (fs ++ [(a, many)])))).rt := mem_put (mem_add_of hf)
          have hq1 : (q, M.lst ([a].map pD)) ∈ ((b.add q (.lst [pD a])).put pf (.dT (fsD (fs ++ [(a, many)])))).rt := mem_put_ne mem_add (fun e => hpq e.symm)
          generalize (b.add q (.lst [pD a])).put pf (.dT (fsD (fs ++ [(a, many)]))) = b2 at hf1 hq1 ⊢
          have s0 : Srch V S fs a [a] [a] := by
            refine ⟨?_, by simp, fun y hy => by rw [List.mem_singleton.mp hy]; exact ⟨haV, .refl a⟩, fun y hy => hy, by simp⟩
            rw [List.nodup_append]
            exact ⟨lv2.nd, by simp, fun x hx y hy e => by simp at hy; subst hy; subst e; exact hin hx⟩
          refine sm_while (fun m b ρ => ∃ new L z, m = 2 * (V.length - new.length) + L.length ∧ (pf, M.dT (fsD (fs ++ newF new many))) ∈ b.rt ∧ (q, M.lst (L.map pD)) ∈ b.rt ∧ Srch V S fs a new L ∧ (∀ y ∈ new, y ∈ L ∨ ∀ r ∈ V, y ∈ S r → r ∈ fs.map (·.1) ∨ r ∈ new) ∧ ρ = [some (rD C W V S), some (SD V E), some (.ref pf), some (.int many), some (pD a), some (.ref q), z]) _ ⟨[a], [a], z, rfl, hf1, hq1, s0, fun y hy => .inl hy, rfl⟩ ?_
          rintro m b ρ ⟨new, L, z, rfl, hf, hq, sr, hcl, rfl⟩
          refine ⟨_, et_test (ev_op (ev_var rfl) (EvN.ev (evn_lst ea_nil (by decide))) (rd_nilR hq)), fun hcc => ?_, fun hcc => ?_⟩
          · obtain ⟨L', o, rfl⟩ : ∃ L' o, L = L' ++ [o] := by
              rcases List.eq_nil_or_concat L with e | ⟨L', o, e⟩
              · subst e; simp at hcc
              · exact ⟨L', o, by simpa using e⟩
            rw [List.map_append] at hq
            have hoN := sr.sub o (by simp)
            obtain ⟨hoV, hox⟩ := sr.hr o hoN
            obtain ⟨hEl, hEm⟩ := hE o hoV
            have newle : ∀ {new L : List Pr}, Srch V S fs a new L → fs.length + new.length ≤ V.length := fun sr => by
              have := nodup_le sr.nd fun x hx => by
                rcases List.mem_append.mp hx with h | h
                · exact lv2.sub x h
                · exact (sr.hr x h).1
              simpa using this
            have nl0 := newle sr
            refine sm_last (sm_for (P2 := fun b1 ds => b1 = b.put q (.lst (L'.map pD)) ∧ ds = ((E o).filter fun r => !decide (r ∈ fs.map (·.1) ++ new)).map pD) (sx_list (ex_lcX (enc := pD) (c := fun r => !decide (r ∈ fs.map (·.1) ++ new)) (f := pD) (P1 := fun b1 ds => b1 = b.put q (.lst (L'.map pD)) ∧ ds = (E o).map pD) (sx_list (ex_dgetTX (P1 := fun b1 d => b1 = b.put q (.lst (L'.map pD)) ∧ d = pD o) (ev_var rfl) (ex_pop (ev_var rfl) hq ⟨rfl, rfl⟩) fun b1 d ⟨e1, e2⟩ => ⟨o, _, e2, valD_map pK_inj' hoV, _, rfl, e1, rfl⟩)) fun b1 ds ⟨e1, e2⟩ => ?_)) fun b1 ds ⟨e1, e2⟩ => ?_)
            · subst e1 e2
              refine ⟨E o, rfl, by omega, fun r hr => ?_, _, rfl, rfl, rfl⟩
              exact lct (tg_name (by decide)) (et_B (ev_ninTR (k := r) (ev_var rfl) (ev_var rfl) (mem_put_ne hf hpq) (by rw [fsD_is, newF_keys]))) fun _ => ev_var rfl
            · subst e1 e2
              have hf2 : (pf, M.dT (fsD (fs ++ newF new many))) ∈ (b.put q (.lst (L'.map pD))).rt := mem_put_ne hf hpq
              have hq2 : (q, M.lst (L'.map pD)) ∈ (b.put q (.lst (L'.map pD))).rt := mem_put hq
              generalize b.put q (.lst (L'.map pD)) = b3 at hf2 hq2 ⊢
              generalize hes : ((E o).filter fun r => !decide (r ∈ fs.map (·.1) ++ new)) = es
              have hesV : ∀ r ∈ es, r ∈ V ∧ o ∈ S r := fun r hr => by
                rw [← hes] at hr
                exact (hEm r).mp (List.mem_filter.mp hr).1
              have sr' : Srch V S fs a new L' := ⟨sr.nd, sr.inx, sr.hr, fun y hy => sr.sub y (List.mem_append_left _ hy), by have := sr.len; simp at this; omega⟩
              refine ⟨fun j b ρ => ∃ new2 L2 z, 2 * (V.length - new2.length) + L2.length ≤ 2 * (V.length - new.length) + L'.length ∧ (pf, M.dT (fsD (fs ++ newF new2 many))) ∈ b.rt ∧ (q, M.lst (L2.map pD)) ∈ b.rt ∧ Srch V S fs a new2 L2 ∧ (∀ y ∈ new, y ∈ new2) ∧ (∀ r ∈ es.take j, r ∈ fs.map (·.1) ∨ r ∈ new2) ∧ (∀ y ∈ new2, y = o ∨ y ∈ L2 ∨ ∀ r ∈ V, y ∈ S r → r ∈ fs.map (·.1) ∨ r ∈ new2) ∧ ρ = [some (rD C W V S), some (SD V E), some (.ref pf), some (.int many), some (pD a), some (.ref q), z], ⟨new, L', z, Nat.le_refl _, hf2, hq2, sr', fun y hy => hy, (fun r hr => by simp at hr), fun y hy => ?_, rfl⟩, ?_, ?_⟩
              · rcases hcl y hy with h | h
                · rcases List.mem_append.mp h with h | h
                  · exact .inr (.inl h)
                  · exact .inl (List.mem_singleton.mp h)
                · exact .inr (.inr h)
              · rintro j b ρ ⟨new2, L2, z, hm, hf, hq, sr, hsup, hdone, hcl, rfl⟩ d hd
                have hj : j < es.length := by
                  have := (List.getElem?_eq_some_iff.mp hd).1
                  simpa using this
                rw [List.getElem?_map, List.getElem?_eq_getElem hj] at hd
                cases hd
                have ht : es.take (j + 1) = es.take j ++ [es[j]] := by rw [List.take_add_one, List.getElem?_eq_getElem hj]; rfl
                obtain ⟨hrV, hro⟩ := hesV _ (List.getElem_mem hj)
                generalize es[j] = r at hrV hro ht ⊢
                have nl := newle sr
                refine ⟨_, _, tg_name (vs := [6]) (by decide), ?_⟩
                by_cases hk : r ∈ fs.map (·.1) ++ new2
                · refine sm_last (sm_if (cc := false) (et_test (ev_ninTR (k := r) (ev_var rfl) (ev_var rfl) hf (by rw [fsD_is, newF_keys, decide_eq_true hk]; rfl))) (fun z => by cases z) fun _ => sm_unit (sm_next ⟨new2, L2, _, hm, hf, hq, sr, hsup, fun y hy => ?_, hcl, rfl⟩))
                  rw [ht] at hy
                  rcases List.mem_append.mp hy with h | h
                  · exact hdone y h
                  · rw [List.mem_singleton.mp h]; exact List.mem_append.mp hk
                · refine sm_last (sm_if (cc := true) (et_test (ev_ninTR (k := r) (ev_var rfl) (ev_var rfl) hf (by rw [fsD_is, newF_keys, decide_eq_false hk]; rfl))) (fun _ => ?_) (fun z => by cases z))
                  have hkk : r ∉ (fs ++ newF new2 many).map (·.1) := by rw [newF_keys]; exact hk
                  have L2l := sr.len
                  have sr3 : Srch V S fs a (new2 ++ [r]) (L2 ++ [r]) := by
                    refine ⟨?_, List.mem_append_left _ sr.inx, fun y hy => ?_, fun y hy => ?_, by have := sr.len; simp; omega⟩
                    · rw [← List.append_assoc, List.nodup_append]
                      exact ⟨sr.nd, by simp, fun x hx y hy e => by simp at hy; subst hy; subst e; exact hk hx⟩
                    · rcases List.mem_append.mp hy with h | h
                      · exact sr.hr y h
                      · rw [List.mem_singleton.mp h]; exact ⟨hrV, .step hro hox⟩
                    · rcases List.mem_append.mp hy with h | h
                      · exact List.mem_append_left _ (sr.sub y h)
                      · exact List.mem_append_right _ h
                  have nl3 := newle sr3
                  refine sm_assoc (sm_dputT (k := r) (P1 := fun b' d' => b' = b ∧ d' = .int many) (ex_pure (ev_var rfl) ⟨rfl, rfl⟩) fun b' x' ⟨e1, e2⟩ => ?_)
                  subst e1 e2
                  refine ⟨pf, _, ev_var rfl, ev_var rfl, hf, by simp [fsD, newF]; omega, ?_⟩
                  rw [fsD_put hkk]
                  have ef : fs ++ newF new2 many ++ [(r, many)] = fs ++ newF (new2 ++ [r]) many := by unfold newF; rw [List.map_append, List.append_assoc]; rfl
                  rw [ef]
                  refine sm_assoc (sm_dropX (P1 := fun b1 d' => b1 = (b'.put pf (.dT (fsD (fs ++ newF (new2 ++ [r]) many)))).put q (.lst (L2.map pD ++ [pD r]))) (ex_append (es := fun _ => True) (P1 := fun b1 d => b1 = b'.put pf (.dT (fsD (fs ++ newF (new2 ++ [r]) many))) ∧ d = pD r) (ev_var rfl) (ex_pure (ev_var rfl) ⟨rfl, rfl⟩) (fun b1 d' ⟨e1, e2⟩ => by subst e1 e2; exact ⟨_, mem_put_ne hq (fun e => hpq e.symm), by rw [List.length_map]; omega, rfl⟩) ⟨_, mem_put_ne hq (fun e => hpq e.symm)⟩) fun b1 d' e => ?_)
                  subst e
                  refine sm_unit (sm_next ⟨new2 ++ [r], L2 ++ [r], _, ?_, mem_put_ne (mem_put hf) hpq, ?_, sr3, fun y hy => List.mem_append_left _ (hsup y hy), fun y hy => ?_, fun y hy => ?_, rfl⟩)
                  · simp at nl3 ⊢; omega
                  · rw [List.map_append]
                    exact mem_put (mem_put_ne hq (fun e => hpq e.symm))
                  · rw [ht] at hy
                    rcases List.mem_append.mp hy with h | h
                    · rcases hdone y h with h | h
                      · exact .inl h
                      · exact .inr (List.mem_append_left _ h)
                    · exact .inr (List.mem_append_right _ h)
                  · rcases List.mem_append.mp hy with h | h
                    · rcases hcl y h with h | h | h
                      · exact .inl h
                      · exact .inr (.inl (List.mem_append_left _ h))
                      · exact .inr (.inr fun r hr hs => (h r hr hs).imp id fun z => List.mem_append_left _ z)
                    · exact .inr (.inl (List.mem_append_right _ h))
              · rintro b ρ ⟨new2, L2, z, hm, hf, hq, sr, hsup, hdone, hcl2, rfl⟩
                rw [List.length_map, List.take_length] at hdone
                refine sm_next ⟨_, ?_, new2, L2, z, rfl, hf, hq, sr, fun y hy => ?_, rfl⟩
                · simp; omega
                · rcases hcl2 y hy with h | h | h
                  · subst h
                    refine .inr fun r hr hs => ?_
                    by_cases hk : r ∈ fs.map (·.1) ++ new
                    · rcases List.mem_append.mp hk with h | h
                      · exact .inl h
                      · exact .inr (hsup r h)
                    · refine hdone r ?_
                      rw [← hes]
                      exact List.mem_filter.mpr ⟨(hEm r).mpr ⟨hr, hs⟩, by simpa using hk⟩
                  · exact .inl h
                  · exact .inr h
          · have e : L = [] := by
              cases L with
              | nil => rfl
              | cons => simp at hcc
            subst e
            refine sm_last (sm_aug rfl ev_int (sm_next ⟨fs ++ newF new many, many + 1, _, _, _, hf, ?_, rfl⟩))
            exact lv2.new FO net.cl ha sr.inx sr.nd sr.hr fun y hy => (hcl y hy).resolve_left (fun z => nomatch z)
      · rintro b ρ ⟨fs, many, x, y, z, hf, lv2, rfl⟩
        rw [List.length_reverse, List.length_map, Nat.sub_self] at lv2
        have e1 := fsD_lev lv2.nd
        refine sm_frz (i := 2) hf rfl (sm_ret (ev_var rfl) ⟨[], ⟨rfl, _, _, e1, ?_, fun a ha b hb => ?_⟩, rfl, (fun x hx => nomatch hx)⟩)
        · refine (List.perm_ext_iff_of_nodup lv2.nd net.nd).mpr fun x => ⟨lv2.sub x, fun hx => lv2.all FO x hx⟩
        · obtain ⟨x, hx, rfl⟩ := List.mem_map.mp (lv2.all FO a ha)
          obtain ⟨y, hy, rfl⟩ := List.mem_map.mp (lv2.all FO b hb)
          rw [fsV_of lv2.nd hx, fsV_of lv2.nd hy]
          exact lv2.val x hx y hy
end
end Sh
set_option Elab.async false
set_option linter.all false
set_option maxRecDepth 100000
set_option maxHeartbeats 4000000
/-! WI: lots, what a lot lacks, whether it goes round. -/
namespace Sh
open PySem L2
local macro_rules | `(tactic| walk_at "ev1") => `(tactic| first
  | (with_reducible apply ev_var); rfl
  | with_reducible exact ev_int
  | with_reducible exact ev_str
  | with_reducible exact ev_bl
  | with_reducible exact ev_non
  | with_reducible exact ev_ty
  | with_reducible apply ev_op
  | with_reducible apply ev_cb
  | with_reducible apply ea_cons
  | with_reducible exact ea_nil
  | with_reducible exact rd_I0 rfl
  | with_reducible exact rd_I0b rfl
  | with_reducible apply rd_I rfl
  | with_reducible exact rd_eqI
  | with_reducible exact rd_neI
  | with_reducible exact rd_eqS
  | with_reducible exact rd_neS
  | with_reducible exact rd_isN
  | with_reducible exact rd_notN
  | with_reducible exact rd_fst
  | with_reducible exact rd_snd
  | with_reducible exact rc_lenL
  | with_reducible exact rc_lenT
  | with_reducible apply rc_lenS
  | with_reducible exact rc_intB
  | with_reducible exact rc_min
  | with_reducible exact rc_all
  | with_reducible exact rc_any
  | with_reducible apply ev_slS
  | with_reducible exact eo_none
  | with_reducible apply eo_some
  | with_reducible apply et_test
  | with_reducible apply et_B
  | with_reducible apply et_not
  | with_reducible apply ev_notV
  | (with_reducible apply ev_un); rotate_left; rfl)
local macro_rules | `(tactic| walk_at "ev") => `(tactic| repeat' walk_at "ev1")
theorem valD_put {κ : Type} [DecidableEq κ] {kvs : List (κ × D)} {k k' : κ} {d : D} : (valD (putD kvs k d) k').isSome = (decide (k = k') || (valD kvs k').isSome) := by
  have key : ∀ (l : List (κ × D)) (k' : κ), (valD l k').isSome = l.any fun kv => decide (kv.1 = k') := fun l k' => by
    unfold valD
    rw [Option.isSome_map, List.isSome_find?]
  rw [key, key]
  unfold putD
  by_cases c : kvs.any (fun kv => decide (kv.1 = k)) = true
  · rw [if_pos c, List.any_map]
    have e : ((fun kv : κ × D => decide (kv.1 = k')) ∘ fun kv => if kv.1 = k then (kv.1, d) else kv) = fun kv => decide (kv.1 = k') := funext fun kv => by
      simp only [Function.comp_apply]
      split <;> rfl
    rw [e]
    by_cases e2 : k = k'
    · subst e2; rw [c]; simp
    · rw [decide_eq_false e2, Bool.false_or]
  · rw [if_neg c, List.any_append]
    simp [Bool.or_comm]
theorem valD_mk {κ α : Type} [DecidableEq κ] {key : α → κ} {f : α → D} {k : κ} (l : List α) : (valD (mkD (l.map fun x => (key x, f x))) k).isSome = l.any fun x => decide (key x = k) := by
  have go : ∀ (l : List α) (acc : List (κ × D)), (valD ((l.map fun x => (key x, f x)).foldl (fun acc x => putD acc x.1 x.2) acc) k).isSome = ((l.any fun x => decide (key x = k)) || (valD acc k).isSome) := by
    intro l
    induction l with
    | nil => intro acc; simp
    | cons x l ih =>
      intro acc
      rw [List.map_cons, List.foldl_cons, ih, valD_put, List.any_cons]
      cases decide (key x = k) <;> cases (l.any fun x => decide (key x = k)) <;> cases (valD acc k).isSome <;> rfl
  unfold mkD
  rw [go l []]
  simp [valD]
def lotOf (ps : List Pr) (lv : Pr → Int) (n : Int) : List Pr := ps.filter fun p => decide (lv p = n)
def lotsD (ns : List Int) (ps : List Pr) (lv : Pr → Int) : D := .dK (ns.map fun n => (Sum.inl n, lD (lotOf ps lv n)))
def lackB (W : List Str) (lot : List Pr) : Option Str := (W.filter fun w => !(lot.any fun p => decide (p.1 = w))).head?
def roundB (S : Pr → List Pr) (lv : Pr → Int) (lot : List Pr) : Bool := lot.any fun p => (S p).any fun s => decide (lv s = lv p)
theorem lkA_some {k : Key} {a : Addr} : ∀ {ls : List (Key × Addr)}, lkA ls k = some a → (k, a) ∈ ls
  | [], h => by cases h
  | (k', a') :: ls, h => by
    rw [lkA_cons] at h
    by_cases c : k' = k
    · rw [if_pos c] at h; cases h; subst c; exact List.mem_cons_self
    · rw [if_neg c] at h; exact List.mem_cons_of_mem _ (lkA_some h)
theorem lkA_none {k : Key} : ∀ {ls : List (Key × Addr)}, lkA ls k = none → k ∉ ls.map (·.1)
  | [], h => by simp
  | (k', a') :: ls, h => by
    rw [lkA_cons] at h
    by_cases c : k' = k
    · rw [if_pos c] at h; cases h
    · rw [if_neg c] at h
      rw [List.map_cons, List.mem_cons, not_or]
      exact ⟨fun e => c e.symm, lkA_none h⟩
section
variable {P : Program} {w : World} {K : PySem.W.Frag} {mg : Str → Option Value} {base : Heap}
/-! Reading.lots -/
abbrev s_Reading_lots : Stmt := (inClass (topS 32) 5)
abbrev N_Reading_lots : List Str := ["self", "levels", "found", "pair", "level"]
theorem sc_Reading_lots : FnScope N_Reading_lots ["self", "levels"] (defScope s_Reading_lots) := ⟨rfl, rfl, rfl, by decide +kernel, rfl, by decide +kernel, by decide +kernel⟩
structure GLv where
  W : List Str
  V : List Pr
  S : Pr → List Pr
  ps : List Pr
  lv : Pr → Int
def Pre_lots (C : Addr) : GLv → List D → List (Addr × M) → Prop := fun g ds mr => ds = [rD C g.W g.V g.S, levD g.ps g.lv] ∧ mr = [] ∧ g.ps.length ≤ 33
structure LotsOk (ps : List Pr) (lv : Pr → Int) (ns : List Int) : Prop where
  nd : ns.Nodup
  mem : ∀ n, n ∈ ns ↔ n ∈ ps.map lv
def Post_lots : GLv → D → List (Addr × M) → Prop := fun g d mr => mr = [] ∧ ∃ ns, d = lotsD ns g.ps g.lv ∧ LotsOk g.ps g.lv ns
theorem ok_Reading_lots {C : Addr} {f : Addr} {fd : FuncData} (F : Fun K "lots" "Reading.lots" s_Reading_lots f fd) (T : Bu K w mg) : FnOk P w K mg base CX0 1 f fd ["self", "levels"] (MutG true 2 (Pre_lots C) Post_lots) := by
  refine F.ok sc_Reading_lots (fun vs H Q E h => h.1) (fun cdv A outer s H vs Q E hr h => ?_)
  have nd := sc_Reading_lots.nd
  have hu := hu_of hr
  have hu0 := hr.units0
  refine ⟨_, (pss_cons (ps_set (i := 2) nd rfl (Or.inl rfl) pe_dnewK)
  (pss_cons (ps_lock (ps_for PassesOwn.never rfl (pi_itemsT (pv 1)) (pg_tup rfl (pgs_cons (pg_name (i := 3) nd rfl (Or.inl rfl)) (pgs_cons (pg_name (i := 4) nd rfl (Or.inl rfl)) pgs_nil))) (pss_one (ps_expr (pe_bm PySem.F.plainAttrs_list PySem.F.slot_list_append PySem.F.type_list_append mt_append (pe_dsetd (pv 2) (pv 4) (pe_lst pa_nil) ⟨rfl, rfl, rfl, rfl⟩) (pa_cons (pv 3) pa_nil))))))
  (pss_one (ps_ret (pv 2))))), ?_⟩
  refine body_okG h fun gh ds mr hn hP B => ?_
  obtain ⟨W, V, S, ps, lv⟩ := gh
  obtain ⟨rfl, rfl, few⟩ := (show ds = [rD C W V S, levD ps lv] ∧ mr = [] ∧ ps.length ≤ 33 from hP)
  refine sm_setX (P1 := fun b' d' => ∃ p, b' = Bx.add ⟨true, []⟩ p (.dK []) ∧ d' = .ref p) (ex_dnewK fun p _ => ⟨p, rfl, rfl⟩) fun b' d' ⟨p, e1, e2⟩ => ?_
  subst e1 e2
  let lsOf : List (Int × Addr) → List (Key × Addr) := fun ys => ys.map fun y => (Sum.inl y.1, y.2)
  refine sm_forL (ds := ps.map fun p => .tup [pD p, .int (lv p)]) rfl (SrcL.is (sl_itemsT rfl (kn_var rfl)) (by rw [List.map_map]; rfl)) (fun i b ρ => ∃ ys x y, (p, M.dK ((lsOf ys).map fun x => (x.1, .ref x.2))) ∈ b.rt ∧ (p :: ys.map (·.2)).Nodup ∧ (ys.map (·.1)).Nodup ∧ (∀ n, n ∈ ys.map (·.1) ↔ n ∈ (ps.take i).map lv) ∧ (∀ y ∈ ys, (y.2, M.lst ((lotOf (ps.take i) lv y.1).map pD)) ∈ b.rt) ∧ ys.length ≤ i ∧ ρ = [some (rD C W V S), some (levD ps lv), some (.ref p), x, y]) ⟨[], none, none, mem_add, by simp, by simp, fun n => by simp, (fun y hy => nomatch hy), Nat.le_refl _, rfl⟩ ?t ?f
  case t =>
    rintro B' i b ρ ⟨ys, x, y, hp, ndp, ndk, hk, hl, hlen, rfl⟩ d hd
    have hi : i < ps.length := by
      have := (List.getElem?_eq_some_iff.mp hd).1
      simpa using this
    rw [List.getElem?_map, List.getElem?_eq_getElem hi] at hd
    cases hd
    have ht : ps.take (i + 1) = ps.take i ++ [ps[i]] := by rw [List.take_add_one, List.getElem?_eq_getElem hi]; rfl
    generalize ps[i] = a at ht ⊢
    have lot1 : ∀ n, lotOf (ps.take (i + 1)) lv n = if lv a = n then lotOf (ps.take i) lv n ++ [a] else lotOf (ps.take i) lv n := fun n => by
      unfold lotOf
      rw [ht, List.filter_append]
      by_cases c : lv a = n
      · rw [if_pos c, List.filter_cons, if_pos (by simpa using c)]; rfl
      · rw [if_neg c, List.filter_cons, if_neg (by simpa using c)]; simp
    have key1 : ∀ n, n ∈ (ps.take (i + 1)).map lv ↔ n ∈ (ps.take i).map lv ∨ n = lv a := fun n => by rw [ht, List.map_append, List.mem_append]; simp
    refine ⟨_, _, tg_pair (vs := [3, 4]) (by decide) (by decide), ?_⟩
    rw [List.nodup_cons] at ndp
    have inj1 : ∀ y ∈ ys, ∀ z ∈ ys, y.1 = z.1 → y = z := fun y hy z hz e => by
      obtain ⟨i1, h1, e1⟩ := List.mem_iff_getElem.mp hy
      obtain ⟨i2, h2, e2⟩ := List.mem_iff_getElem.mp hz
      have := (List.getElem_inj (i := i1) (j := i2) (h₀ := by rw [List.length_map]; exact h1) (h₁ := by rw [List.length_map]; exact h2) ndk).mp (by rw [List.getElem_map, List.getElem_map, e1, e2, e])
      subst this
      exact e1.symm.trans e2
    have inj2 : ∀ y ∈ ys, ∀ z ∈ ys, y.2 = z.2 → y = z := fun y hy z hz e => by
      obtain ⟨i1, h1, e1⟩ := List.mem_iff_getElem.mp hy
      obtain ⟨i2, h2, e2⟩ := List.mem_iff_getElem.mp hz
      have := (List.getElem_inj (i := i1) (j := i2) (h₀ := by rw [List.length_map]; exact h1) (h₁ := by rw [List.length_map]; exact h2) ndp.2).mp (by rw [List.getElem_map, List.getElem_map, e1, e2, e])
      subst this
      exact e1.symm.trans e2
    refine sm_last (sm_dropX (P1 := fun b1 d' => ∃ ys', (p, M.dK ((lsOf ys').map fun x => (x.1, .ref x.2))) ∈ b1.rt ∧ (p :: ys'.map (·.2)).Nodup ∧ (ys'.map (·.1)).Nodup ∧ (∀ n, n ∈ ys'.map (·.1) ↔ n ∈ (ps.take (i + 1)).map lv) ∧ (∀ y ∈ ys', (y.2, M.lst ((lotOf (ps.take (i + 1)) lv y.1).map pD)) ∈ b1.rt) ∧ ys'.length ≤ i + 1) (ex_setdApp (ls := lsOf ys) (k := Sum.inl (lv a)) (v := pD a) (ev_var rfl) (ev_var rfl) (ev_var rfl) hp (by simp [lsOf]; omega) (fun a0 ha0 => ?_) (fun hn0 a0 fa0 => ?_)) fun b1 d' ⟨ys', h1, h2, h3, h4, h5, h6⟩ => sm_next ⟨ys', _, _, h1, h2, h3, h4, h5, h6, rfl⟩)
    · obtain ⟨y, hy, ey⟩ := List.mem_map.mp (lkA_some ha0)
      have hyk : y.1 = lv a := Sum.inl.inj (Prod.mk.inj ey).1
      have hya : y.2 = a0 := (Prod.mk.inj ey).2
      subst hya
      have hyl := hl y hy
      have np : p ≠ y.2 := fun e => ndp.1 (e ▸ List.mem_map.mpr ⟨y, hy, rfl⟩)
      refine ⟨_, hyl, ?_, ys, mem_put_ne hp np, by rw [List.nodup_cons]; exact ndp, ndk, fun n => ?_, fun z hz => ?_, by omega⟩
      · rw [List.length_map]; exact Nat.le_trans (List.length_filter_le _ _) (by rw [List.length_take]; omega)
      · rw [hk n, key1 n]
        refine ⟨.inl, fun h => h.elim id fun h => ?_⟩
        rw [← hk n, h, ← hyk]
        exact List.mem_map.mpr ⟨y, hy, rfl⟩
      · rw [lot1]
        by_cases c : z = y
        · subst c
          rw [if_pos hyk.symm, List.map_append]
          exact mem_put hyl
        · rw [if_neg fun e => c (inj1 z hz y hy (e.symm.trans hyk.symm))]
          exact mem_put_ne (hl z hz) fun e => c (inj2 z hz y hy e)
    · have nk : lv a ∉ ys.map (·.1) := fun h => by
        have := lkA_none hn0
        obtain ⟨y, hy, e⟩ := List.mem_map.mp h
        exact this (List.mem_map.mpr ⟨(Sum.inl y.1, y.2), List.mem_map.mpr ⟨y, hy, rfl⟩, by rw [← e]⟩)
      have np : p ≠ a0 := fa0 _ hp
      refine ⟨ys ++ [(lv a, a0)], ?_, ?_, ?_, fun n => ?_, fun z hz => ?_, by simp; omega⟩
      · have e : lsOf (ys ++ [(lv a, a0)]) = lsOf ys ++ [(Sum.inl (lv a), a0)] := by simp [lsOf]
        rw [e]
        exact mem_add_of (mem_put hp)
      · rw [List.map_append, List.nodup_cons, List.nodup_append]
        refine ⟨?_, ndp.2, by simp, fun x hx y hy e => ?_⟩
        · rw [List.mem_append, not_or]
          exact ⟨ndp.1, by simpa using np⟩
        · simp at hy
          subst hy
          subst e
          obtain ⟨z, hz, e⟩ := List.mem_map.mp hx
          exact fa0 _ (hl z hz) e
      · rw [List.map_append, List.nodup_append]
        exact ⟨ndk, by simp, fun x hx y hy e => by simp at hy; subst hy; subst e; exact nk hx⟩
      · rw [List.map_append, List.mem_append, hk n, key1 n]; simp
      · rw [lot1]
        rcases List.mem_append.mp hz with hz | hz
        · rw [if_neg fun e => nk (List.mem_map.mpr ⟨z, hz, e.symm⟩)]
          exact mem_add_of (mem_put_ne (hl z hz) fun e => ndp.1 (e ▸ List.mem_map.mpr ⟨z, hz, rfl⟩))
        · rw [List.mem_singleton.mp hz]
          have e0 : lotOf (ps.take i) lv (lv a) = [] := by
            unfold lotOf
            rw [List.filter_eq_nil_iff]
            intro x hx
            simp only [decide_eq_true_eq]
            exact fun e => nk ((hk _).mpr (List.mem_map.mpr ⟨x, hx, e⟩))
          rw [if_pos rfl, e0]
          exact mem_add
  case f =>
    rintro b ρ ⟨ys, x, y, hp, ndp, ndk, hk, hl, hlen, rfl⟩
    rw [List.length_map, List.take_length] at hk hl
    have hp' : (p, M.dK (ys.map fun y => ((Sum.inl y.1 : Key), D.ref y.2))) ∈ b.rt := by
      have e : (lsOf ys).map (fun x => (x.1, D.ref x.2)) = ys.map fun y => ((Sum.inl y.1 : Key), D.ref y.2) := by simp [lsOf]
      rw [← e]; exact hp
    refine sm_frzK (b := b.ul) (i := 2) (f := fun y => .lst ((lotOf ps lv y.1).map pD)) hp' hl ndp rfl fun b' f' k' => ?_
    refine sm_ret (ev_var rfl) ⟨[], ⟨rfl, ys.map (·.1), ?_, ndk, hk⟩, rfl, (fun x hx => nomatch hx)⟩
    show D.dK _ = lotsD _ ps lv
    unfold lotsD
    rw [List.map_map]
    rfl
/-! Reading.lack_of -/
abbrev s_Reading_lack_of : Stmt := (inClass (topS 32) 6)
abbrev N_Reading_lack_of : List Str := ["self", "lot", "known", "lacking", "word", "many"]
theorem sc_Reading_lack_of : FnScope N_Reading_lack_of ["self", "lot"] (defScope s_Reading_lack_of) := ⟨rfl, rfl, rfl, by decide +kernel, rfl, by decide +kernel, by decide +kernel⟩
def R_lack_of (C : Addr) : List D → D → Prop := fun ds d => ∃ W V S lot, ds = [rD C W V S, lD lot] ∧ W.length ≤ 30 ∧ lot.length ≤ 900 ∧ d = oD (lackB W lot)
theorem ok_Reading_lack_of {C : Addr} (cl : Cl K C rFlds) {f : Addr} {fd : FuncData} (F : Fun K "lack_of" "Reading.lack_of" s_Reading_lack_of f fd) (T : Bu K w mg) : FnOk P w K mg base CX0 1 f fd ["self", "lot"] (PureSp false 2 (R_lack_of C)) := by
  refine F.ok sc_Reading_lack_of (fun vs H Q E h => h.1) (fun cdv A outer s H vs Q E hr h => ?_)
  have nd := sc_Reading_lack_of.nd
  have hu := hu_of hr
  have hu0 := hr.units0
  refine ⟨_, (pss_cons (ps_set (i := 2) nd rfl (Or.inr rfl) (pe_dc (g := (gTup _ 2 (gCons (gName 4) (gCons (gName 5) gNil)))) (tt := tYes) (tk := (tVar 4)) (tv := (tC _)) (own := [("word", 4), ("many", 5)]) rfl nd (pi_list (pv 1)) (blkOk_by (own := [("word", 4), ("many", 5)]) (N := N_Reading_lack_of) (sc := (defScope s_Reading_lack_of)) (by decide +kernel)) (fun _ _ _ _ _ => (pg_tup rfl (pgs_cons (pg_name (i := 4) nd rfl (Or.inl rfl)) (pgs_cons (pg_name (i := 5) nd rfl (Or.inl rfl)) pgs_nil)))) (fun _ _ _ _ _ => pts_nil) (fun _ _ _ _ _ => (pv 4)) (fun _ _ _ _ _ => pe_bl)))
  (pss_cons (ps_setLc (i := 3) (g := (gName 4)) (tt := (tB (tDNotIn (tVar 4) (tVar 2)))) (te := (tVar 4)) (own := [("word", 4)]) rfl nd rfl rfl (sw_true rfl rfl rfl (by decide +kernel)) (pi_list (pe_fld (pv 0) rfl)) (blkOk_by (own := [("word", 4)]) (N := N_Reading_lack_of) (sc := (defScope s_Reading_lack_of)) (by decide +kernel)) (fun _ _ _ _ _ => (pg_name (i := 4) nd rfl (Or.inl rfl))) (fun _ _ _ _ _ => (pts_one (pt_cmp (pc_dnotin hu (pv 4) (pv 2))))) (fun _ _ _ _ _ => (pv 4)))
  (pss_one (ps_ret (pe_ifExp (pt_cmpR (op_neNil hu0) (pv 3) (pe_lst pa_nil) (nomark _)) (pe_ix ix_list (pv 3) pe_int (fun _ _ => rfl)) pe_non))))), ?_⟩
  refine body_ok h fun ds d hn hR => ?_
  obtain ⟨W, V, S, lot, rfl, hW, hl, rfl⟩ := hR
  have ne1 := cl.no "every" (by decide)
  refine st_set (x := .dK (mkD (lot.map fun p => ((Sum.inr p.1 : Key), .bl true)))) (ev_dcK (xs := lot) (enc := pD) (k := fun p => Sum.inr p.1) (f := fun _ => .bl true) (src_list (ev_var rfl)) (by omega) fun p hp => dct (tg_pair (by decide) (by decide)) (ev_var rfl) ev_bl) ?_
  refine st_set (x := sD (W.filter fun w => !(lot.any fun p => decide (p.1 = w)))) (EvN.ev (evn_lc (xs := W) (enc := .str) (c := fun w => !(lot.any fun p => decide (p.1 = w))) (f := .str) (src_list (ev_fld (ev_var rfl) cl.cls ne1 rfl)) (by omega) fun w hw => lct (tg_name (by decide)) (et_B (ev_ninK (k := Sum.inr w) (ev_var rfl) (ev_var rfl) ?_)) fun _ => ev_var rfl)) ?_
  · rw [valD_mk]
    simp
  · unfold lackB
    generalize W.filter _ = ws
    refine st_ret (Ev.is (ev_if (c := !ws.isEmpty) (x := match ws with | [] => .non | z :: _ => .str z) (y := .non) (EvT.is (et_test (ev_op (ev_var rfl) (EvN.ev (evn_lst ea_nil (by decide))) rd_nil)) ?_) (fun hc => ?_) fun _ => ev_non) ?_)
    · simp [sD]
    · cases ws with
      | nil => cases hc
      | cons z ws => exact ev_op (ev_var rfl) ev_int (rd_ixL (atI_nat (j := 0) rfl))
    · cases ws <;> rfl
/-! Reading.goes_round -/
abbrev s_Reading_goes_round : Stmt := (inClass (topS 32) 7)
abbrev N_Reading_goes_round : List Str := ["self", "levels", "lot", "pair", "step"]
theorem sc_Reading_goes_round : FnScope N_Reading_goes_round ["self", "levels", "lot"] (defScope s_Reading_goes_round) := ⟨rfl, rfl, rfl, by decide +kernel, rfl, by decide +kernel, by decide +kernel⟩
def R_goes_round (C : Addr) : List D → D → Prop := fun ds d => ∃ W V S ps lv lot, ds = [rD C W V S, levD ps lv, lD lot] ∧ Net V S ∧ ps.Perm V ∧ (∀ p ∈ lot, p ∈ V) ∧ lot.length ≤ 33 ∧ d = .bl (roundB S lv lot)
theorem ok_Reading_goes_round {C : Addr} (cl : Cl K C rFlds) {f : Addr} {fd : FuncData} (F : Fun K "goes_round" "Reading.goes_round" s_Reading_goes_round f fd) (T : Bu K w mg) : FnOk P w K mg base CX0 1 f fd ["self", "levels", "lot"] (PureSp false 3 (R_goes_round C)) := by
  refine F.ok sc_Reading_goes_round (fun vs H Q E h => h.1) (fun cdv A outer s H vs Q E hr h => ?_)
  have nd := sc_Reading_goes_round.nd
  have hu := hu_of hr
  have hu0 := hr.units0
  refine ⟨_, (pss_one (ps_ret (pe_callB (cr_any rfl) (by rfl) T.n_any (by decide +kernel) (pa_cons (pe_lc2 (g := (gName 3)) (tt := tYes) (wi1 := (iList _ (tDGet (tFld _ (tVar 0) _) (tVar 3)))) (g1 := (gName 4)) (tt1 := tYes) (te := (tOp _ (tDGet (tVar 1) (tVar 4)) (tDGet (tVar 1) (tVar 3)))) (own := [("pair", 3), ("step", 4)]) (vs1 := [4]) rfl nd (pi_list (pv 2)) (blkOk_by (own := [("pair", 3), ("step", 4)]) (N := N_Reading_goes_round) (sc := (defScope s_Reading_goes_round)) (by decide +kernel)) (by decide) (fun _ _ _ _ _ => (pg_name (i := 3) nd rfl (Or.inl rfl))) (fun _ _ _ _ _ => pts_nil) (fun _ _ _ _ _ => (pi_list (pe_dget hu (pe_fld (pv 0) rfl) (pv 3) (fun _ _ => rfl)))) (fun _ _ _ _ _ => (pg_name (i := 4) nd rfl (Or.inl rfl))) (fun _ _ _ _ _ => pts_nil) (fun _ _ _ _ _ => (pe_cmpR op_eq (pe_dget hu (pv 1) (pv 4) (fun _ _ => rfl)) (pe_dget hu (pv 1) (pv 3) (fun _ _ => rfl)) (nomark _)))) pa_nil)))), ?_⟩
  refine body_ok h fun ds d hn hR => ?_
  obtain ⟨W, V, S, ps, lv, lot, rfl, net, pe, hlV, hl, rfl⟩ := hR
  have ne3 := cl.no "steps" (by decide)
  have hcount : (lot.flatMap fun x => (S x).map fun y => D.bl (decide (lv y = lv x))).length ≤ 30 * lot.length := by
    clear hl hn
    induction lot with
    | nil => simp
    | cons p lot ih =>
      have h1 := net.out p (hlV p List.mem_cons_self)
      have h2 := ih fun q hq => hlV q (List.mem_cons_of_mem _ hq)
      rw [List.flatMap_cons, List.length_append, List.length_map, List.length_cons]
      omega
  refine st_ret (Ev.is (ev_cb (ea_cons (EvN.ev (EvN.is (evn_lc2 (xs := lot) (enc := pD) (ys := S) (enc1 := fun _ => pD) (f := fun x y => .bl (decide (lv y = lv x))) (src_list (ev_var rfl)) (by omega) (by omega) fun x hx => ?_) ?_)) ea_nil) (rc_any (bs := lot.flatMap fun x => (S x).map fun y => decide (lv y = lv x)))) ?_)
  · have hxV := hlV x hx
    refine ⟨_, tg_name (by decide), src_list (ev_dgetT (ev_fld (ev_var rfl) cl.cls ne3 rfl) (ev_var rfl) (valD_map pK_inj' hxV)), fun y hy => ⟨_, tg_name (by decide), ?_⟩⟩
    have hyV := net.cl x hxV y hy
    exact ev_op (ev_dgetT (ev_var rfl) (ev_var rfl) (valD_map pK_inj' (pe.mem_iff.mpr hyV))) (ev_dgetT (ev_var rfl) (ev_var rfl) (valD_map pK_inj' (pe.mem_iff.mpr hxV))) rd_eqI
  · rw [List.map_flatMap]
    congr 1
    funext x
    rw [List.map_map]
    rfl
  · unfold roundB
    congr 1
    rw [List.any_flatMap]
    congr 1
    funext x
    rw [List.any_map]
    rfl
end
end Sh
set_option Elab.async false
set_option linter.all false
set_option maxRecDepth 100000
set_option maxHeartbeats 4000000
/-! WJ: ways within a level; the ring round. -/
namespace Sh
open PySem L2
local macro_rules | `(tactic| walk_at "ev1") => `(tactic| first
  | (with_reducible apply ev_var); rfl
  | with_reducible exact ev_int
  | with_reducible exact ev_str
  | with_reducible exact ev_bl
  | with_reducible exact ev_non
  | with_reducible exact ev_ty
  | with_reducible apply ev_op
  | with_reducible apply ev_cb
  | with_reducible apply ea_cons
  | with_reducible exact ea_nil
  | with_reducible exact rd_I0 rfl
  | with_reducible exact rd_I0b rfl
  | with_reducible apply rd_I rfl
  | with_reducible exact rd_eqI
  | with_reducible exact rd_neI
  | with_reducible exact rd_eqS
  | with_reducible exact rd_neS
  | with_reducible exact rd_isN
  | with_reducible exact rd_notN
  | with_reducible exact rd_fst
  | with_reducible exact rd_snd
  | with_reducible exact rc_lenL
  | with_reducible exact rc_lenT
  | with_reducible apply rc_lenS
  | with_reducible exact rc_intB
  | with_reducible exact rc_min
  | with_reducible exact rc_all
  | with_reducible exact rc_any
  | with_reducible apply ev_slS
  | with_reducible exact eo_none
  | with_reducible apply eo_some
  | with_reducible apply et_test
  | with_reducible apply et_B
  | with_reducible apply et_not
  | with_reducible apply ev_notV
  | (with_reducible apply ev_un); rotate_left; rfl)
local macro_rules | `(tactic| walk_at "ev") => `(tactic| repeat' walk_at "ev1")
theorem cutD_tail (ds : List D) : cutD ds (some 1) none = ds.drop 1 := by
  unfold cutD
  rw [HT.sIx_none, show (1 : Int) = ((1 : Nat) : Int) from rfl, HT.sIx_nat]
  by_cases h : 1 ≤ ds.length
  · rw [Nat.min_eq_left h, List.take_of_length_le (by rw [List.length_drop]; exact Nat.le_refl _)]
  · have e : ds = [] := List.eq_nil_of_length_eq_zero (by omega)
    subst e
    rfl
theorem cutD_one (ds : List D) : cutD ds none (some 1) = ds.take 1 := by
  unfold cutD
  rw [HT.sIx_none, show (1 : Int) = ((1 : Nat) : Int) from rfl, HT.sIx_nat, List.drop_zero, Nat.sub_zero]
  by_cases h : 1 ≤ ds.length
  · rw [Nat.min_eq_left h]
  · have e : ds = [] := List.eq_nil_of_length_eq_zero (by omega)
    subst e
    rfl
section
variable {B : Bs} {b : Bx} {ρ : Ro} {te to : TE} {K : PySem.W.Frag} {P P1 : Po} {p : Addr}
theorem ex_extendX (h : Ev b to ρ (.ref p)) (ha : EvX B te b ρ P1) (q : ∀ b' d, P1 b' d → ∃ es ds, d = .lst es ∧ (p, .lst ds) ∈ b'.rt ∧ ds.length + es.length ≤ 100000 ∧ P (b'.put p (.lst (ds ++ es))) .non) (h0 : ∃ ds, (p, .lst ds) ∈ b.rt) : EvX B (tBM K "list" rExtend to (tCons te tNil)) b ρ P := fun σ G H o Q k =>
  h σ G H o.lk o.env o.sub _ fun v H1 G1 g1 r1 => by
    cases (show v = V.ref p from r1)
    have o1 := o.go g1
    obtain ⟨ds0, hp0⟩ := h0
    obtain ⟨xs0, e0, _⟩ := root_at o1 hp0
    refine ⟨.inl ⟨rfl, xs0, SqL.of e0⟩, ha σ G1 H1 o1 _ fun b2 d w G2 H2 p2 s2 o2 r2 => ?_⟩
    obtain ⟨es, ds, rfl, hp, hl, q2⟩ := q _ _ p2
    obtain ⟨c, zs, rfl, z1, z2⟩ := r2
    obtain ⟨xs, e1, e2⟩ := root_at o2 hp
    exact ⟨p, c, xs, zs, rfl, rfl, e1, o2.sub _ _ z1, by rw [← e2.length, ← z2.length, PySem.sizeLine_eq]; omega, k _ .non _ G2 _ q2 (g1.gx.trans s2) (o2.mut hp ⟨xs ++ zs, upd_same, e2.append z2⟩) rfl⟩
end
section
variable {P : Program} {w : World} {K : PySem.W.Frag} {mg : Str → Option Value} {base : Heap}
/-! Reading.way_within -/
abbrev s_Reading_way_within : Stmt := (inClass (topS 32) 8)
abbrev N_Reading_way_within : List Str := ["self", "levels", "one", "other", "line", "met", "path", "step"]
theorem sc_Reading_way_within : FnScope N_Reading_way_within ["self", "levels", "one", "other"] (defScope s_Reading_way_within) := ⟨rfl, rfl, rfl, by decide +kernel, rfl, by decide +kernel, by decide +kernel⟩
structure GWay where
  W : List Str
  V : List Pr
  S : Pr → List Pr
  ps : List Pr
  lv : Pr → Int
  one : Pr
  other : Pr
def Pre_way (C : Addr) : GWay → List D → List (Addr × M) → Prop := fun g ds mr => ds = [rD C g.W g.V g.S, levD g.ps g.lv, pD g.one, pD g.other] ∧ mr = [] ∧ Net g.V g.S ∧ LvOk g.V g.S g.ps g.lv ∧ g.one ∈ g.V ∧ g.other ∈ g.V ∧ g.lv g.one = g.lv g.other ∧ Rp g.S g.one g.other
def Post_way : GWay → D → List (Addr × M) → Prop := fun g d mr => mr = [] ∧ ∃ way, d = lD way ∧ way.length ≤ g.V.length + 1 ∧ ∀ p ∈ way, p ∈ g.V
/-- the search -/
structure Way (V : List Pr) (S : Pr → List Pr) (lv : Pr → Int) (one : Pr) (ms : List Pr) (ls : List (List Pr × Pr)) : Prop where
  nd : ms.Nodup
  sub : ∀ p ∈ ms, p ∈ V ∧ lv p = lv one
  ok : ∀ l ∈ ls, (l.2 ∈ V ∧ lv l.2 = lv one) ∧ l.1.length ≤ ms.length ∧ ∀ p ∈ l.1, p ∈ V
  len : ls.length ≤ ms.length + 1
/-- what is wholly looked at -/
def Seen (S : Pr → List Pr) (lv : Pr → Int) (one other : Pr) (ms : List Pr) (v : Pr) : Prop := ∀ s ∈ S v, s ≠ other ∧ (lv s = lv one → s ∈ ms)
theorem way_end {V : List Pr} {S : Pr → List Pr} {ps : List Pr} {lv : Pr → Int} {one other : Pr} {ms : List Pr} (net : Net V S) (lo : LvOk V S ps lv) (h1 : one ∈ V) (h2 : other ∈ V) (he : lv one = lv other) (hr : Rp S one other)
    (all : ∀ v, v = one ∨ v ∈ ms → Seen S lv one other ms v) : False := by
  have key : ∀ {a z : Pr}, Rs S a z → z = other → a ∈ V → Rs S one a → (a = one ∨ a ∈ ms) → a ≠ other → False := by
    intro a z h
    induction h with
    | refl => exact fun e _ _ _ n => n e
    | @step a b c hb hbc ih =>
      intro e hV hoa hin hne
      subst e
      have hs := all a hin b hb
      have hbV := net.cl a hV b hb
      have hob : Rs S one b := hoa.snoc hb
      have hlb : lv b = lv one := (lo.eq b hbV one h1).mpr ⟨hbc.trans ((lo.eq one h1 _ h2).mp he).2, hob⟩
      exact ih rfl hbV hob (.inr (hs.2 hlb)) hs.1
  obtain ⟨s, hs, hso⟩ := hr
  have h := all one (.inl rfl) s hs
  have hsV := net.cl one h1 s hs
  have hls : lv s = lv one := (lo.eq s hsV one h1).mpr ⟨hso.trans ((lo.eq one h1 other h2).mp he).2, .one hs⟩
  exact key hso rfl hsV (.one hs) (.inr (h.2 hls)) h.1
theorem ok_Reading_way_within {C : Addr} (cl : Cl K C rFlds) {f : Addr} {fd : FuncData} (F : Fun K "way_within" "Reading.way_within" s_Reading_way_within f fd) (T : Bu K w mg) : FnOk P w K mg base CX0 1 f fd ["self", "levels", "one", "other"] (MutG false 4 (Pre_way C) Post_way) := by
  refine F.ok sc_Reading_way_within (fun vs H Q E h => h.1) (fun cdv A outer s H vs Q E hr h => ?_)
  have nd := sc_Reading_way_within.nd
  have hu := hu_of hr
  have hu0 := hr.units0
  refine ⟨_, (pss_cons (ps_par (i := 4) (j := 5) rfl nd rfl rfl (by decide) rfl rfl (pa_cons (pe_lst (pa_cons (pe_lst (pa_cons (pv 2) pa_nil)) pa_nil)) (pa_cons pe_dnewT pa_nil)) (by rfl))
  (pss_one (ps_while PassesOwn.never (pt_val pe_bl) (pss_cons (ps_set (i := 6) nd rfl (Or.inl rfl) (pe_bm PySem.F.plainAttrs_list PySem.F.slot_list_pop PySem.F.type_list_pop mt_popAt (pv 4) (pa_cons pe_int pa_nil)))
  (pss_one (ps_for PassesOwn.never rfl (pi_list (pe_dget hu (pe_fld (pv 0) rfl) (pe_ix ix_list (pv 6) (pe_un un_neg pe_int) (fun _ _ => rfl)) (fun _ _ => rfl))) (pg_name (i := 7) nd rfl (Or.inl rfl)) (pss_cons (ps_if (pt_cmpR (op_eqPr hu) (pv 7) (pv 3) (nomark _)) (pss_one (ps_ret (pe_op op_cat (pe_slice sl_list (pv 6) (po_some pe_int) po_none) (pe_lst (pa_cons (pv 7) pa_nil))))) pss_nil)
  (pss_one (ps_if (PW.pt (pw_and (pt_cmpR op_eq (pe_dget hu (pv 1) (pv 7) (fun _ _ => rfl)) (pe_dget hu (pv 1) (pv 2) (fun _ _ => rfl)) (nomark _)) (pw_and1 (pt_cmp (pc_dnotin hu (pv 7) (pv 5)))))) (pss_cons (ps_dput hu (pv 5) (pv 7) pe_bl rfl)
  (pss_one (ps_expr (pe_bm PySem.F.plainAttrs_list PySem.F.slot_list_append PySem.F.type_list_append mt_append (pv 4) (pa_cons (pe_op op_cat (pv 6) (pe_lst (pa_cons (pv 7) pa_nil))) pa_nil))))) pss_nil))))))))), ?_⟩
  refine body_okG h fun gh ds mr hn hP B => ?_
  obtain ⟨W, V, S, ps, lv, one, other⟩ := gh
  obtain ⟨rfl, rfl, net, lo, h1, h2, he, hr⟩ := (show ds = [rD C W V S, levD ps lv, pD one, pD other] ∧ mr = [] ∧ Net V S ∧ LvOk V S ps lv ∧ one ∈ V ∧ other ∈ V ∧ lv one = lv other ∧ Rp S one other from hP)
  have ne3 := cl.no "steps" (by decide)
  have few := net.few
  have inps : ∀ {p : Pr}, p ∈ V → p ∈ ps := fun h => lo.perm.mem_iff.mpr h
  let lnD : List Pr × Pr → D := fun l => lD (l.1 ++ [l.2])
  refine sm_parX (P2 := fun b' ds => ∃ q pm, ds = [.ref q, .ref pm] ∧ q ≠ pm ∧ (q, M.lst ([([], one)].map lnD)) ∈ b'.rt ∧ (pm, M.dT (metD [])) ∈ b'.rt) (xa_cons (P' := fun b' d => ∃ q, d = .ref q ∧ (q, M.lst ([([], one)].map lnD)) ∈ b'.rt) (ex_new (ds := [lnD ([], one)]) (evn_lst (ea_cons (EvN.ev (evn_lst (ea_cons (ev_var rfl) ea_nil) (by simp))) ea_nil) (by simp)) fun q fq => ⟨q, rfl, mem_add⟩) fun b' d ⟨q, e, hq⟩ => xa_cons (P' := fun b1 d => ∃ pm, d = .ref pm ∧ q ≠ pm ∧ (q, M.lst ([([], one)].map lnD)) ∈ b1.rt ∧ (pm, M.dT (metD [])) ∈ b1.rt) (ex_dnewT fun pm fp => ⟨pm, rfl, fp _ hq, mem_add_of hq, mem_add⟩) fun b1 d1 ⟨pm, e1, e2, e3, e4⟩ => xa_nil ⟨q, pm, by rw [e, e1], e2, e3, e4⟩) fun b' ds ⟨q, pm, e, hqp, hq, hm⟩ => ⟨_, _, e, ?_⟩
  refine sm_last (sm_while (fun m b ρ => ∃ ms ls x y, m = 2 * (V.length - ms.length) + ls.length ∧ (q, M.lst (ls.map lnD)) ∈ b.rt ∧ (pm, M.dT (metD ms)) ∈ b.rt ∧ Way V S lv one ms ls ∧ (∀ v, v = one ∨ v ∈ ms → (∃ l ∈ ls, l.2 = v) ∨ Seen S lv one other ms v) ∧ ρ = [some (rD C W V S), some (levD ps lv), some (pD one), some (pD other), some (.ref q), some (.ref pm), x, y]) _ ⟨[], [([], one)], none, none, rfl, hq, hm, ⟨by simp, (fun p hp => nomatch hp), fun l hl => by rw [List.mem_singleton.mp hl]; exact ⟨⟨h1, rfl⟩, by simp, (fun p hp => nomatch hp)⟩, by simp⟩, fun v hv => .inl ⟨_, List.mem_cons_self, by rcases hv with h | h; exact h.symm; cases h⟩, rfl⟩ ?_)
  rintro m b ρ ⟨ms, ls, x, y, rfl, hq, hm, wy, hcl, rfl⟩
  refine ⟨true, et_test ev_bl, fun _ => ?_, fun z => by cases z⟩
  cases ls with
  | nil => exact (way_end net lo h1 h2 he hr fun v hv => (hcl v hv).resolve_left fun ⟨l, hl, _⟩ => nomatch hl).elim
  | cons l ls =>
    obtain ⟨init, e⟩ := l
    obtain ⟨⟨heV, hel⟩, hil, hiV⟩ := wy.ok _ List.mem_cons_self
    simp only at heV hel hil hiV
    have msl : ms.length ≤ V.length := nodup_le wy.nd fun p hp => (wy.sub p hp).1
    have hout := net.out e heV
    refine sm_setX (P1 := fun b1 d => b1 = b.put q (.lst (ls.map lnD)) ∧ d = lD (init ++ [e])) (ex_pop0 (d := lnD (init, e)) (ev_var rfl) hq (ea_cons ev_int ea_nil) (by have := wy.len; simp at this ⊢; omega) ⟨rfl, rfl⟩) fun b1 d ⟨e1, e2⟩ => ?_
    subst e1 e2
    have hq1 : (q, M.lst (ls.map lnD)) ∈ (b.put q (.lst (ls.map lnD))).rt := mem_put hq
    have hm1 := mem_put_ne (m' := .lst (ls.map lnD)) hm (fun e => hqp e.symm)
    generalize b.put q (.lst (ls.map lnD)) = b1 at hq1 hm1 ⊢
    refine sm_last (sm_for (P2 := fun b2 ds => b2 = b1 ∧ ds = (S e).map pD) (sx_pure (src_list (ev_dgetT (p := e) (ev_fld (ev_var rfl) cl.cls ne3 rfl) (ev_op (ev_var rfl) (ev_un ev_int rfl) (rd_ixL (by rw [List.map_append]; exact atI_last))) (valD_map pK_inj' heV))) ⟨rfl, rfl⟩) fun b2 ds ⟨e1, e2⟩ => ?_)
    subst e1 e2
    refine ⟨fun j b ρ => ∃ ms2 ls2 y, 2 * (V.length - ms2.length) + ls2.length ≤ 2 * (V.length - ms.length) + ls.length ∧ (q, M.lst (ls2.map lnD)) ∈ b.rt ∧ (pm, M.dT (metD ms2)) ∈ b.rt ∧ Way V S lv one ms2 ls2 ∧ ms.length ≤ ms2.length ∧ (∀ v, v = one ∨ v ∈ ms2 → v = e ∨ (∃ l ∈ ls2, l.2 = v) ∨ Seen S lv one other ms2 v) ∧ (∀ s ∈ (S e).take j, s ≠ other ∧ (lv s = lv one → s ∈ ms2)) ∧ ρ = [some (rD C W V S), some (levD ps lv), some (pD one), some (pD other), some (.ref q), some (.ref pm), some (lD (init ++ [e])), y], ⟨ms, ls, y, Nat.le_refl _, hq1, hm1, ⟨wy.nd, wy.sub, fun l hl => wy.ok l (List.mem_cons_of_mem _ hl), by have := wy.len; simp at this; omega⟩, Nat.le_refl _, fun v hv => ?_, (fun s hs => by simp at hs), rfl⟩, ?_, ?_⟩
    · rcases hcl v hv with ⟨l, hl, h⟩ | h
      · rcases List.mem_cons.mp hl with rfl | hl
        · exact .inl h.symm
        · exact .inr (.inl ⟨l, hl, h⟩)
      · exact .inr (.inr h)
    · rintro j b ρ ⟨ms2, ls2, y, hmm, hq, hm, wy, hml, hcl, hdone, rfl⟩ d hd
      have hj : j < (S e).length := by
        have := (List.getElem?_eq_some_iff.mp hd).1
        simpa using this
      rw [List.getElem?_map, List.getElem?_eq_getElem hj] at hd
      cases hd
      have ht : (S e).take (j + 1) = (S e).take j ++ [(S e)[j]] := by rw [List.take_add_one, List.getElem?_eq_getElem hj]; rfl
      have hs := List.getElem_mem hj
      generalize (S e)[j] = s at hs ht ⊢
      have hsV := net.cl e heV s hs
      have msl2 : ms2.length ≤ V.length := nodup_le wy.nd fun p hp => (wy.sub p hp).1
      refine ⟨_, _, tg_name (vs := [7]) (by decide), ?_⟩
      by_cases hso : s = other
      · refine sm_if (cc := true) (EvT.is (et_test (ev_op (ev_var rfl) (ev_var rfl) rd_eqPr)) (decide_eq_true hso)) (fun _ => sm_retS ?_) (fun z => by cases z)
        refine sm_ret (d := lD ((init ++ [e]).drop 1 ++ [s])) (EvN.ev (EvN.is (evn_op (EvN.ev (EvN.is (evn_slL (ev_var rfl) (eo_some ev_int) eo_none) (cutD_tail _))) (EvN.ev (evn_lst (ea_cons (ev_var rfl) ea_nil) (by simp))) (rn_cat ?_)) ?_)) ⟨[], ⟨rfl, _, rfl, ?_, fun p hp => ?_⟩, rfl, (fun x hx => nomatch hx)⟩
        · simp; exact sizeOk (by omega)
        · simp [List.map_drop]
        · simp; omega
        · rcases List.mem_append.mp hp with h | h
          · rcases List.mem_append.mp (List.mem_of_mem_drop h) with h | h
            · exact hiV p h
            · rw [List.mem_singleton.mp h]; exact heV
          · rw [List.mem_singleton.mp h]; exact hsV
      · refine sm_if (cc := false) (EvT.is (et_test (ev_op (ev_var rfl) (ev_var rfl) rd_eqPr)) (decide_eq_false hso)) (fun z => by cases z) fun _ => sm_unit ?_
        refine sm_last (sm_if (et_and (c1 := decide (lv s = lv one)) (c2 := !decide (s ∈ ms2)) (et_test (ev_op (ev_dgetT (ev_var rfl) (ev_var rfl) (valD_map pK_inj' (inps hsV))) (ev_dgetT (ev_var rfl) (ev_var rfl) (valD_map pK_inj' (inps h1))) rd_eqI)) fun _ => et_test (ev_ninTR (k := s) (ev_var rfl) (ev_var rfl) hm (by rw [metD_is]))) (fun hc => ?_) fun hc => ?_)
        · rw [Bool.and_eq_true, decide_eq_true_eq, Bool.not_eq_true', decide_eq_false_iff_not] at hc
          obtain ⟨hc1, hc2⟩ := hc
          have wy3 : Way V S lv one (ms2 ++ [s]) (ls2 ++ [(init ++ [e], s)]) := by
            refine ⟨?_, fun p hp => ?_, fun l hl => ?_, by have := wy.len; simp; omega⟩
            · rw [List.nodup_append]
              exact ⟨wy.nd, by simp, fun x hx y hy e => by simp at hy; subst hy; subst e; exact hc2 hx⟩
            · rcases List.mem_append.mp hp with h | h
              · exact wy.sub p h
              · rw [List.mem_singleton.mp h]; exact ⟨hsV, hc1⟩
            · rcases List.mem_append.mp hl with h | h
              · obtain ⟨q1, q2, q3⟩ := wy.ok l h
                exact ⟨q1, by simp; omega, q3⟩
              · rw [List.mem_singleton.mp h]
                refine ⟨⟨hsV, hc1⟩, by simp; omega, fun p hp => ?_⟩
                rcases List.mem_append.mp hp with h | h
                · exact hiV p h
                · rw [List.mem_singleton.mp h]; exact heV
          have msl3 : (ms2 ++ [s]).length ≤ V.length := nodup_le wy3.nd fun p hp => (wy3.sub p hp).1
          simp only [List.length_append, List.length_singleton] at msl3
          have l2l := wy.len
          refine sm_assoc (sm_dputT (k := s) (P1 := fun b' d' => b' = b ∧ d' = .bl true) (ex_pure ev_bl ⟨rfl, rfl⟩) fun b' x' ⟨e1, e2⟩ => ?_)
          subst e1 e2
          refine ⟨pm, _, ev_var rfl, ev_var rfl, hm, by simp [metD]; omega, ?_⟩
          rw [metD_put hc2]
          have hq2 := mem_put_ne (m' := .dT (metD (ms2 ++ [s]))) hq hqp
          refine sm_assoc (sm_dropX (P1 := fun b1 d' => b1 = (b'.put pm (.dT (metD (ms2 ++ [s])))).put q (.lst (ls2.map lnD ++ [lnD (init ++ [e], s)]))) (ex_append (es := fun _ => True) (P1 := fun b1 d => b1 = b'.put pm (.dT (metD (ms2 ++ [s]))) ∧ d = lnD (init ++ [e], s)) (ev_var rfl) (ex_pure (EvN.ev (EvN.is (evn_op (ev_var rfl) (EvN.ev (evn_lst (ea_cons (ev_var rfl) ea_nil) (by simp))) (rn_cat ?_)) ?_)) ⟨rfl, rfl⟩) (fun b1 d' ⟨e1, e2⟩ => by subst e1 e2; exact ⟨_, hq2, by rw [List.length_map]; omega, rfl⟩) ⟨_, hq2⟩) fun b1 d' e5 => ?_)
          · simp; exact sizeOk (by omega)
          · simp [lnD]
          subst e5
          refine sm_unit (sm_next ⟨ms2 ++ [s], ls2 ++ [(init ++ [e], s)], _, ?_, ?_, mem_put_ne (mem_put hm) (fun e => hqp e.symm), wy3, by simp; omega, fun v hv => ?_, fun r hr => ?_, rfl⟩)
          · simp; omega
          · rw [List.map_append]
            exact mem_put hq2
          · have old : (v = one ∨ v ∈ ms2) → v = e ∨ (∃ l ∈ ls2 ++ [(init ++ [e], s)], l.2 = v) ∨ Seen S lv one other (ms2 ++ [s]) v := fun hv => by
              rcases hcl v hv with h | ⟨l, hl, h⟩ | h
              · exact .inl h
              · exact .inr (.inl ⟨l, List.mem_append_left _ hl, h⟩)
              · exact .inr (.inr fun r hr => ⟨(h r hr).1, fun z => List.mem_append_left _ ((h r hr).2 z)⟩)
            rcases hv with h | h
            · exact old (.inl h)
            · rcases List.mem_append.mp h with h | h
              · exact old (.inr h)
              · exact .inr (.inl ⟨_, List.mem_append_right _ List.mem_cons_self, (List.mem_singleton.mp h).symm⟩)
          · rw [ht] at hr
            rcases List.mem_append.mp hr with h | h
            · exact ⟨(hdone r h).1, fun z => List.mem_append_left _ ((hdone r h).2 z)⟩
            · rw [List.mem_singleton.mp h]
              exact ⟨hso, fun _ => List.mem_append_right _ List.mem_cons_self⟩
        · refine sm_unit (sm_next ⟨ms2, ls2, _, hmm, hq, hm, wy, hml, hcl, fun r hr => ?_, rfl⟩)
          rw [ht] at hr
          rcases List.mem_append.mp hr with h | h
          · exact hdone r h
          · rw [List.mem_singleton.mp h]
            refine ⟨hso, fun z => ?_⟩
            rw [decide_eq_true z, Bool.true_and, Bool.not_eq_false', decide_eq_true_eq] at hc
            exact hc
    · rintro b ρ ⟨ms2, ls2, y, hmm, hq, hm, wy, hml, hcl, hdone, rfl⟩
      rw [List.length_map, List.take_length] at hdone
      refine sm_next ⟨_, ?_, ms2, ls2, _, _, rfl, hq, hm, wy, fun v hv => ?_, rfl⟩
      · simp; omega
      · rcases hcl v hv with h | h | h
        · subst h
          exact .inr hdone
        · exact .inl h
        · exact .inr h
end
end Sh
set_option Elab.async false
set_option linter.all false
set_option maxRecDepth 100000
set_option maxHeartbeats 4000000
/-! WK: the ring round; safe or not. -/
namespace Sh
open PySem L2
local macro_rules | `(tactic| walk_at "ev1") => `(tactic| first
  | (with_reducible apply ev_var); rfl
  | with_reducible exact ev_int
  | with_reducible exact ev_str
  | with_reducible exact ev_bl
  | with_reducible exact ev_non
  | with_reducible exact ev_ty
  | with_reducible apply ev_op
  | with_reducible apply ev_cb
  | with_reducible apply ea_cons
  | with_reducible exact ea_nil
  | with_reducible exact rd_I0 rfl
  | with_reducible exact rd_I0b rfl
  | with_reducible apply rd_I rfl
  | with_reducible exact rd_eqI
  | with_reducible exact rd_neI
  | with_reducible exact rd_eqS
  | with_reducible exact rd_neS
  | with_reducible exact rd_isN
  | with_reducible exact rd_notN
  | with_reducible exact rd_fst
  | with_reducible exact rd_snd
  | with_reducible exact rc_lenL
  | with_reducible exact rc_lenT
  | with_reducible apply rc_lenS
  | with_reducible exact rc_intB
  | with_reducible exact rc_min
  | with_reducible exact rc_all
  | with_reducible exact rc_any
  | with_reducible apply ev_slS
  | with_reducible exact eo_none
  | with_reducible apply eo_some
  | with_reducible apply et_test
  | with_reducible apply et_B
  | with_reducible apply et_not
  | with_reducible apply ev_notV
  | (with_reducible apply ev_un); rotate_left; rfl)
local macro_rules | `(tactic| walk_at "ev") => `(tactic| repeat' walk_at "ev1")
section
variable {P : Program} {w : World} {K : PySem.W.Frag} {mg : Str → Option Value} {base : Heap}
/-! Reading.ring_round -/
abbrev s_Reading_ring_round : Stmt := (inClass (topS 32) 9)
abbrev N_Reading_ring_round : List Str := ["self", "levels", "lot", "goals", "found", "word", "one", "other", "pair", "many"]
theorem sc_Reading_ring_round : FnScope N_Reading_ring_round ["self", "levels", "lot"] (defScope s_Reading_ring_round) := ⟨rfl, rfl, rfl, by decide +kernel, rfl, by decide +kernel, by decide +kernel⟩
structure GRing where
  W : List Str
  k : Nat
  V : List Pr
  S : Pr → List Pr
  ps : List Pr
  lv : Pr → Int
  n : Int
def Pre_ring (C : Addr) : GRing → List D → List (Addr × M) → Prop := fun g ds mr => ds = [rD C g.W g.V g.S, levD g.ps g.lv, lD (lotOf g.ps g.lv g.n)] ∧ mr = [] ∧ GoodW g.W g.k ∧ Net g.V g.S ∧ LvOk g.V g.S g.ps g.lv ∧ (∀ p ∈ g.V, p.1 ∈ g.W) ∧ (g.V.length + 1) * g.W.length ≤ 1000 ∧ (∀ w ∈ g.W, ∃ p ∈ lotOf g.ps g.lv g.n, p.1 = w) ∧ roundB g.S g.lv (lotOf g.ps g.lv g.n) = true
def Post_ring : GRing → D → List (Addr × M) → Prop := fun g d mr => mr = [] ∧ ∃ z, d = .str z
def lastS (w : Str) : Str := match L2.atI w.cps.toList (-1) with | some c => ⟨#[c]⟩ | none => ""
theorem ev_last {b : Bx} {ρ : Ro} {te ti : TE} {w : Str} (h : Ev b te ρ (.str w)) (hi : Ev b ti ρ (.int (-1))) (h0 : 1 ≤ w.length) (hl : w.length ≤ 1000) : Ev b (tOp rIxS te ti) ρ (.str (lastS w)) := by
  have hs : w.cps.toList.length = w.length := by simp [PySem.Str.length]
  obtain ⟨xs, c, e⟩ : ∃ xs c, w.cps.toList = xs ++ [c] := by
    rcases List.eq_nil_or_concat w.cps.toList with e | ⟨L', o, e⟩
    · rw [e] at hs; simp at hs; omega
    · exact ⟨L', o, by simpa using e⟩
  have ea : L2.atI w.cps.toList (-1) = some c := by
    rw [e]
    have e2 : ixN (xs ++ [c]).length (-1) = some xs.length := by
      unfold ixN
      rw [if_neg (by decide), if_pos (by rw [List.length_append, List.length_singleton]; omega)]
      congr 1
      rw [List.length_append, List.length_singleton]
      omega
    unfold L2.atI
    rw [e2]
    show (xs ++ [c])[xs.length]? = some c
    rw [List.getElem?_append_right (Nat.le_refl _)]
    simp
  have el : lastS w = ⟨#[c]⟩ := by unfold lastS; rw [ea]
  rw [el]
  exact ev_op h hi (rd_ixS (sizeOk hl) ea)
theorem ok_Reading_ring_round {C : Addr} (cl : Cl K C rFlds) {f : Addr} {fd : FuncData} (F : Fun K "ring_round" "Reading.ring_round" s_Reading_ring_round f fd) (T : Bu K w mg) (F_Reading_way_within : Me P w K mg base 1 C "way_within" ["self", "levels", "one", "other"] (MutG false 4 (Pre_way C) Post_way)) : FnOk P w K mg base CX0 2 f fd ["self", "levels", "lot"] (MutG false 3 (Pre_ring C) Post_ring) := by
  refine F.ok sc_Reading_ring_round (fun vs H Q E h => h.1) (fun cdv A outer s H vs Q E hr h => ?_)
  have nd := sc_Reading_ring_round.nd
  have hu := hu_of hr
  have hu0 := hr.units0
  refine ⟨_, (pss_cons (ps_par (i := 3) (j := 4) rfl nd rfl rfl (by decide) rfl rfl (pa_cons (pe_lst pa_nil) (pa_cons (pe_lst pa_nil) pa_nil)) (by rfl))
  (pss_cons (ps_for PassesOwn.never rfl (pi_list (pe_fld (pv 0) rfl)) (pg_name (i := 5) nd rfl (Or.inr rfl)) (pss_one (ps_expr (pe_bm PySem.F.plainAttrs_list PySem.F.slot_list_append PySem.F.type_list_append mt_append (pv 3) (pa_cons (pe_ix ix_list (pe_lc (g := (gName 8)) (tt := (tTest (tOp _ (tOp (rIxT _) (tVar 8) (tC _)) (tVar 5)))) (te := (tVar 8)) (own := [("pair", 8)]) rfl nd (pi_list (pv 2)) (blkOk_by (own := [("pair", 8)]) (N := N_Reading_ring_round) (sc := (defScope s_Reading_ring_round)) (by decide +kernel)) (fun _ _ _ _ _ => (pg_name (i := 8) nd rfl (Or.inl rfl))) (fun _ _ _ _ _ => (pts_one (pt_cmpR op_eq (pe_ix ix_tup (pv 8) pe_int (fun _ _ => rfl)) (pv 5) (nomark _)))) (fun _ _ _ _ _ => (pv 8))) pe_int (fun _ _ => rfl)) pa_nil)))))
  (pss_cons (ps_for PassesOwn.never rfl (pi_zip (by rfl) T.n_zip (pa_cons (pv 3) (pa_cons (pe_op op_cat (pe_slice sl_list (pv 3) (po_some pe_int) po_none) (pe_slice sl_list (pv 3) po_none (po_some pe_int))) pa_nil))) (pg_tup rfl (pgs_cons (pg_name (i := 6) nd rfl (Or.inl rfl)) (pgs_cons (pg_name (i := 7) nd rfl (Or.inl rfl)) pgs_nil))) (pss_one (ps_expr (pe_bm PySem.F.plainAttrs_list PySem.F.slot_list_extend PySem.F.type_list_extend mt_extend (pv 4) (pa_cons (pe_me F_Reading_way_within (pv 0) (hr.mono (by decide)) (pa_cons (pv 1) (pa_cons (pv 6) (pa_cons (pv 7) pa_nil)))) pa_nil)))))
  (pss_one (ps_ret (pe_join pe_str (pe_lc (g := (gTup _ 2 (gCons (gName 5) (gCons (gName 9) gNil)))) (tt := tYes) (te := (tOp rIxS (tVar 5) (tUn _ (tC _)))) (own := [("word", 5), ("many", 9)]) rfl nd (pi_list (pv 4)) (blkOk_by (own := [("word", 5), ("many", 9)]) (N := N_Reading_ring_round) (sc := (defScope s_Reading_ring_round)) (by decide +kernel)) (fun _ _ _ _ _ => (pg_tup rfl (pgs_cons (pg_name (i := 5) nd rfl (Or.inl rfl)) (pgs_cons (pg_name (i := 9) nd rfl (Or.inl rfl)) pgs_nil)))) (fun _ _ _ _ _ => pts_nil) (fun _ _ _ _ _ => (pe_ix ix_str (pv 5) (pe_un un_neg pe_int) (fun _ _ => rfl)))))))))), ?_⟩
  refine body_okG h fun gh ds mr hn hP B => ?_
  obtain ⟨W, k, V, S, ps, lv, n⟩ := gh
  obtain ⟨rfl, rfl, g, net, lo, hVW, hsz, hfull, hround⟩ := (show ds = [rD C W V S, levD ps lv, lD (lotOf ps lv n)] ∧ mr = [] ∧ GoodW W k ∧ Net V S ∧ LvOk V S ps lv ∧ (∀ p ∈ V, p.1 ∈ W) ∧ (V.length + 1) * W.length ≤ 1000 ∧ (∀ w ∈ W, ∃ p ∈ lotOf ps lv n, p.1 = w) ∧ roundB S lv (lotOf ps lv n) = true from hP)
  have ne1 := cl.no "every" (by decide)
  have few := g.few
  have fewV := net.few
  have lotV : ∀ p ∈ lotOf ps lv n, p ∈ V ∧ lv p = n := fun p hp => by
    obtain ⟨h1, h2⟩ := List.mem_filter.mp hp
    exact ⟨lo.perm.mem_iff.mp h1, by simpa using h2⟩
  have lotl : (lotOf ps lv n).length ≤ 33 := Nat.le_trans (List.length_filter_le _ _) (by rw [lo.perm.length_eq]; exact fewV)
  have rp : ∀ a ∈ lotOf ps lv n, ∀ c ∈ lotOf ps lv n, Rp S a c := fun a ha c hc => by
    obtain ⟨p, hp, h2⟩ := List.any_eq_true.mp hround
    obtain ⟨s, hs, h3⟩ := List.any_eq_true.mp h2
    simp only [decide_eq_true_eq] at h3
    obtain ⟨haV, hal⟩ := lotV a ha
    obtain ⟨hcV, hcl⟩ := lotV c hc
    obtain ⟨hpV, hpl⟩ := lotV p hp
    have hsV := net.cl p hpV s hs
    have h4 := ((lo.eq a haV p hpV).mp (hal.trans hpl.symm)).1
    have h5 := ((lo.eq s hsV c hcV).mp (h3.trans (hpl.trans hcl.symm))).1
    exact h4.rp ⟨s, hs, h5⟩
  refine sm_parX (P2 := fun b' ds => ∃ pg pf, ds = [.ref pg, .ref pf] ∧ pg ≠ pf ∧ (pg, M.lst []) ∈ b'.rt ∧ (pf, M.lst []) ∈ b'.rt) (xa_cons (P' := fun b' d => ∃ q, d = .ref q ∧ (q, M.lst []) ∈ b'.rt) (ex_new (evn_lst ea_nil (by decide)) fun q fq => ⟨q, rfl, mem_add⟩) fun b' d ⟨q, e, hq⟩ => xa_cons (P' := fun b1 d => ∃ pf, d = .ref pf ∧ q ≠ pf ∧ (q, M.lst []) ∈ b1.rt ∧ (pf, M.lst []) ∈ b1.rt) (ex_new (evn_lst ea_nil (by decide)) fun pf fp => ⟨pf, rfl, fp _ hq, mem_add_of hq, mem_add⟩) fun b1 d1 ⟨pf, e1, e2, e3, e4⟩ => xa_nil ⟨q, pf, by rw [e, e1], e2, e3, e4⟩) fun b' ds ⟨pg, pf, e, hne, hg, hf⟩ => ⟨_, _, e, ?_⟩
  refine sm_for (P2 := fun b1 ds => b1 = b' ∧ ds = W.map .str) (sx_pure (src_list (ev_fld (ev_var rfl) cl.cls ne1 rfl)) ⟨rfl, rfl⟩) fun b1 ds ⟨e1, e2⟩ => ?_
  subst e1 e2
  refine ⟨fun i b ρ => ∃ gs x, (pg, M.lst (gs.map pD)) ∈ b.rt ∧ (pf, M.lst []) ∈ b.rt ∧ gs.length = i ∧ (∀ p ∈ gs, p ∈ lotOf ps lv n) ∧ ρ = [some (rD C W V S), some (levD ps lv), some (lD (lotOf ps lv n)), some (.ref pg), some (.ref pf), x, none, none, none, none], ⟨[], none, hg, hf, rfl, (fun p hp => nomatch hp), rfl⟩, ?_, ?_⟩
  · rintro i b ρ ⟨gs, x, hg, hf, hgl, hgi, rfl⟩ d hd
    have hi : i < W.length := by
      have := (List.getElem?_eq_some_iff.mp hd).1
      simpa using this
    rw [List.getElem?_map, List.getElem?_eq_getElem hi] at hd
    cases hd
    have hw := List.getElem_mem hi
    generalize W[i] = z at hw ⊢
    obtain ⟨p0, hp0, e0⟩ := hfull z hw
    obtain ⟨a, rest, ea⟩ : ∃ a rest, (lotOf ps lv n).filter (fun p => decide (p.1 = z)) = a :: rest := by
      cases hc : (lotOf ps lv n).filter (fun p => decide (p.1 = z)) with
      | nil =>
        rw [List.filter_eq_nil_iff] at hc
        exact absurd (by simpa using e0) (hc p0 hp0)
      | cons a rest => exact ⟨a, rest, rfl⟩
    have haL : a ∈ lotOf ps lv n := (List.mem_filter.mp (by rw [ea]; exact List.mem_cons_self : a ∈ (lotOf ps lv n).filter _)).1
    refine ⟨_, _, tg_name (vs := [5]) (by decide), ?_⟩
    refine sm_last (sm_dropX (P1 := fun b1 d' => b1 = b.put pg (.lst (gs.map pD ++ [pD a]))) (ex_append (es := fun _ => True) (P1 := fun b1 d => b1 = b ∧ d = pD a) (ev_var rfl) (ex_pure (ev_op (EvN.ev (evn_lc (xs := lotOf ps lv n) (enc := pD) (c := fun p => decide (p.1 = z)) (f := pD) (src_list (ev_var rfl)) (by omega) fun p hp => lct (tg_name (by decide)) (et_test (ev_op (ev_op (ev_var rfl) ev_int rd_fst) (ev_var rfl) rd_eqS)) fun _ => ev_var rfl)) ev_int (rd_ixL (atI_nat (j := 0) (by rw [ea]; rfl)))) ⟨rfl, rfl⟩) (fun b1 d' ⟨e1, e2⟩ => by subst e1 e2; exact ⟨_, hg, by rw [List.length_map]; omega, rfl⟩) ⟨_, hg⟩) fun b1 d' e => ?_)
    subst e
    refine sm_next ⟨gs ++ [a], _, by rw [List.map_append]; exact mem_put hg, mem_put_ne hf (fun e => hne e.symm), by simp; omega, fun p hp => ?_, rfl⟩
    rcases List.mem_append.mp hp with h | h
    · exact hgi p h
    · rw [List.mem_singleton.mp h]; exact haL
  · rintro b ρ ⟨gs, x, hg, hf, hgl, hgi, rfl⟩
    rw [List.length_map] at hgl
    refine sm_frz (i := 3) hg rfl ?_
    have hf1 := mem_drop hf (fun e : pf = pg => hne e.symm)
    generalize b.drop pg = b0 at hf1 ⊢
    have rotl : (gs.drop 1 ++ gs.take 1).length = gs.length := by simp; omega
    refine sm_for (P2 := fun b1 ds => b1 = b0 ∧ ds = List.zipWith (fun x y => D.tup [x, y]) (gs.map pD) ((gs.drop 1 ++ gs.take 1).map pD)) (sx_pure (src_zip (ea_cons (ev_var rfl) (ea_cons (EvN.ev (EvN.is (evn_op (EvN.ev (EvN.is (evn_slL (ev_var rfl) (eo_some ev_int) eo_none) (cutD_tail _))) (EvN.ev (EvN.is (evn_slL (ev_var rfl) eo_none (eo_some ev_int)) (cutD_one _))) (rn_cat ?_)) ?_)) ea_nil))) ⟨rfl, rfl⟩) fun b1 ds ⟨e1, e2⟩ => ?_
    · simp; exact sizeOk (by omega)
    · rw [List.map_append, List.map_drop, List.map_take]
    subst e1 e2
    refine ⟨fun i b ρ => ∃ fo x y z, (pf, M.lst (fo.map pD)) ∈ b.rt ∧ fo.length ≤ i * (V.length + 1) ∧ (∀ p ∈ fo, p ∈ V) ∧ ρ = [some (rD C W V S), some (levD ps lv), some (lD (lotOf ps lv n)), some (lD gs), some (.ref pf), x, y, z, none, none], ⟨[], x, none, none, hf1, by simp, (fun p hp => nomatch hp), rfl⟩, ?_, ?_⟩
    · rintro i b ρ ⟨fo, x, y, z, hf, hfl, hfV, rfl⟩ d hd
      have hi : i < gs.length := by
        have := (List.getElem?_eq_some_iff.mp hd).1
        rw [List.length_zipWith, List.length_map, List.length_map, rotl] at this
        omega
      have hi2 : i < (gs.drop 1 ++ gs.take 1).length := by rw [rotl]; exact hi
      rw [List.getElem?_zipWith, List.getElem?_map, List.getElem?_map, List.getElem?_eq_getElem hi, List.getElem?_eq_getElem hi2] at hd
      cases hd
      have ha := hgi _ (List.getElem_mem hi)
      have hc : (gs.drop 1 ++ gs.take 1)[i] ∈ lotOf ps lv n := by
        refine hgi _ ?_
        rcases List.mem_append.mp (List.getElem_mem hi2) with h | h
        · exact List.mem_of_mem_drop h
        · exact List.mem_of_mem_take h
      generalize gs[i] = a at ha ⊢
      generalize (gs.drop 1 ++ gs.take 1)[i] = c at hc ⊢
      have hm : i * (V.length + 1) ≤ W.length * (V.length + 1) := Nat.mul_le_mul_right _ (by omega)
      have hm2 : W.length * (V.length + 1) = (V.length + 1) * W.length := Nat.mul_comm _ _
      refine ⟨_, _, tg_pair (vs := [6, 7]) (by decide) (by decide), ?_⟩
      refine sm_last (sm_dropX (P1 := fun b1 d' => ∃ way : List Pr, way.length ≤ V.length + 1 ∧ (∀ p ∈ way, p ∈ V) ∧ (pf, M.lst ((fo ++ way).map pD)) ∈ b1.rt) (ex_extendX (P1 := fun b1 d => ∃ way, d = lD way ∧ way.length ≤ V.length + 1 ∧ (∀ p ∈ way, p ∈ V) ∧ (pf, M.lst (fo.map pD)) ∈ b1.rt) (ev_var rfl) (ex_methG (P1 := fun b1 ds => b1 = b ∧ ds = [levD ps lv, pD a, pD c]) (ev_var rfl) rfl (xa_pure (ea_cons (ev_var rfl) (ea_cons (ev_var rfl) (ea_cons (ev_var rfl) ea_nil))) ⟨rfl, rfl⟩) ?m1) ?m2 ⟨_, hf⟩) ?m3)
      case m1 =>
        rintro b1 ds ⟨rfl, rfl⟩
        refine ⟨rfl, ⟨W, V, S, ps, lv, a, c⟩, [], (fun x hx => nomatch hx), ⟨rfl, rfl, net, lo, (lotV a ha).1, (lotV c hc).1, (lotV a ha).2.trans (lotV c hc).2.symm, rp a ha c hc⟩, (fun z => by cases z), fun d ms' b'' hp ek pu => ?_⟩
        obtain ⟨e0, way, e, h1, h2⟩ := hp
        subst e0
        exact ⟨way, e, h1, h2, pu.old _ hf (fun z => nomatch z)⟩
      case m2 =>
        rintro b1 d ⟨way, rfl, h1, h2, h3⟩
        exact ⟨_, _, rfl, h3, by simp; omega, way, h1, h2, by rw [List.map_append]; exact mem_put h3⟩
      case m3 =>
        rintro b1 d ⟨way, h1, h2, h3⟩
        refine sm_next ⟨fo ++ way, _, _, _, h3, ?_, fun p hp => ?_, rfl⟩
        · rw [List.length_append, Nat.succ_mul]; omega
        · rcases List.mem_append.mp hp with h | h
          · exact hfV p h
          · exact h2 p h
    · rintro b ρ ⟨fo, x, y, z, hf, hfl, hfV, rfl⟩
      rw [List.length_zipWith, List.length_map, List.length_map, rotl, Nat.min_self, hgl, Nat.mul_comm] at hfl
      refine sm_frz (i := 4) hf rfl ?_
      have hk : ∀ p ∈ fo, 1 ≤ p.1.length ∧ p.1.length ≤ 1000 := fun p hp => by
        have := g.len p.1 (hVW p (hfV p hp))
        have := g.size
        omega
      refine sm_ret (ev_join (ys := fo.map fun p => lastS p.1) ev_str (EvN.ev (EvN.is (evn_lcY (xs := fo) (enc := pD) (f := fun p => .str (lastS p.1)) (src_list (ev_var rfl)) (by omega) fun p hp => ?_) ?_)) ?_) ⟨[], ⟨rfl, _, rfl⟩, rfl, (fun x hx => nomatch hx)⟩
      · exact lct (tg_pair (by decide) (by decide)) et_yes fun _ => ev_last (ev_var rfl) (ev_un ev_int rfl) (hk p hp).1 (hk p hp).2
      · rw [List.map_map]; rfl
      · have h1 : ∀ z : Str, (lastS z).length ≤ 1 := fun z => by
          unfold lastS
          split
          · exact Nat.le_refl _
          · exact Nat.zero_le _
        have h2 : ((fo.map fun p => lastS p.1).map (·.length)).sum ≤ fo.length := by
          clear hf hk hfl hfV
          induction fo with
          | nil => exact Nat.le_refl _
          | cons p fo ih =>
            have := h1 p.1
            simp only [List.map_cons, List.sum_cons, List.length_cons]
            omega
        have h3 : (PySem.Str.ofString "").length = 0 := rfl
        rw [h3, Nat.mul_zero]
        omega
end
end Sh
set_option Elab.async false
set_option linter.all false
set_option maxRecDepth 100000
set_option maxHeartbeats 4000000
/-! WL: safe or not. -/
namespace Sh
open PySem L2
local macro_rules | `(tactic| walk_at "ev1") => `(tactic| first
  | (with_reducible apply ev_var); rfl
  | with_reducible exact ev_int
  | with_reducible exact ev_str
  | with_reducible exact ev_bl
  | with_reducible exact ev_non
  | with_reducible exact ev_ty
  | with_reducible apply ev_op
  | with_reducible apply ev_cb
  | with_reducible apply ea_cons
  | with_reducible exact ea_nil
  | with_reducible exact rd_I0 rfl
  | with_reducible exact rd_I0b rfl
  | with_reducible apply rd_I rfl
  | with_reducible exact rd_eqI
  | with_reducible exact rd_neI
  | with_reducible exact rd_eqS
  | with_reducible exact rd_neS
  | with_reducible exact rd_isN
  | with_reducible exact rd_notN
  | with_reducible exact rd_fst
  | with_reducible exact rd_snd
  | with_reducible exact rc_lenL
  | with_reducible exact rc_lenT
  | with_reducible apply rc_lenS
  | with_reducible exact rc_intB
  | with_reducible exact rc_min
  | with_reducible exact rc_all
  | with_reducible exact rc_any
  | with_reducible apply ev_slS
  | with_reducible exact eo_none
  | with_reducible apply eo_some
  | with_reducible apply et_test
  | with_reducible apply et_B
  | with_reducible apply et_not
  | with_reducible apply ev_notV
  | (with_reducible apply ev_un); rotate_left; rfl)
local macro_rules | `(tactic| walk_at "ev") => `(tactic| repeat' walk_at "ev1")
section
variable {B : Bs} {b : Bx} {ρ : Ro} {te to : TE} {ta : TA} {d : D} {ds : List D} {P : Po4} {lk : Bool} {n : Nat} {γ : Type} {Pre : γ → List D → List (Addr × M) → Prop} {Post : γ → D → List (Addr × M) → Prop} {tz : TS} {i : Nat}
theorem ev_makeG {E0 : XK} {C : Addr} {fs : List (Str × D)} (gh : Addr → γ) (ha : EvA b ta ρ ds) (hn : ds.length + 1 = n) (hl : lk = true → b.fl = true) (hR : ∀ x, Pre (gh x) (.ref x :: ds) [(x, .ins C [])]) (hP : ∀ x d ms', Post (gh x) d ms' → ms'.map (·.1) = [x] → d = .non ∧ ms' = [(x, .ins C fs)]) :
    Ev b (tMake C (MutG lk n Pre Post) [] E0 ta) ρ (.ins C fs) := fun σ G H l E s Q q =>
  ha σ G H l E s _ fun vs H1 G1 g1 r1 x dx hx hdx ne => by
    have l1 := l.gr g1
    have gx : G1 x = none := g1.sub.free hx
    have gdx : G1 dx = none := g1.sub.free hdx
    have hat : upd (upd H1 dx (.own x)) x (.ins C dx []) x = some (.ins C dx []) := upd_same
    have sub : Same G1 (upd (upd H1 dx (.own x)) x (.ins C dx [])) := fun a o e => by
      rw [upd_ne (ne_of_none e gx), upd_ne (ne_of_none e gdx)]
      exact g1.sub a o e
    refine ⟨by rw [List.append_nil, List.length_cons, ← r1.length, hn], G1, .ref x :: ds, [(x, .ins C [])], gh x, ⟨fun h => l1.fl (hl h), fun y hy => ?_⟩, sub, ⟨_, _, rfl, rfl, by rw [List.append_nil]; exact r1⟩, hR x, fun d ms' v H2 G2 hPo ek g2 r2 hr => ?_⟩
    · cases List.mem_singleton.mp hy
      exact ⟨gx, dx, [], hat, .nil⟩
    · obtain ⟨rfl, rfl⟩ := hP x d ms' hPo ek
      refine ⟨r2, ?_⟩
      have rt := hr _ (List.mem_singleton.mpr rfl)
      obtain ⟨dx', xs, e1, e2⟩ := rt.at'
      have g3 : Gr H1 G1 (minus (upd (upd H1 dx (.own x)) x (.ins C dx [])) [x]) G1 := by
        refine Gr.of g1.sub fun a o e => ?_
        have na : a ≠ x := ne_of_none e hx
        rw [minus_out (by simpa using na), upd_ne na, upd_ne (ne_of_none e hdx)]
        exact e
      have g4 := g3.trans g2
      exact q (.ref x) H2 (upd G2 x (.ins C dx' xs)) (g1.trans (g4.freeze hx e1 rt.gp)) ⟨x, dx', xs, rfl, upd_same, repF_iff.mpr (e2.mono (same_upd rt.gp))⟩
theorem sm_lockAsg (h : Stm B (tSeq (tAsg (tLockE te) (gName i)) tz) b ρ P) : Stm B (tSeq (tLock (tAsg te (gName i))) tz) b ρ P := h
end
/-- a part that goes round by all words -/
def UnsafeP (W : List Str) (V : List Pr) (S : Pr → List Pr) : Prop := ∃ x ∈ V, Rp S x x ∧ ∀ w ∈ W, ∃ p ∈ V, p.1 = w ∧ Rs S x p ∧ Rs S p x
theorem lackB_none {W : List Str} {lot : List Pr} : lackB W lot = none ↔ ∀ w ∈ W, ∃ p ∈ lot, p.1 = w := by
  unfold lackB
  rw [List.head?_eq_none_iff, List.filter_eq_nil_iff]
  refine ⟨fun h w hw => ?_, fun h w hw => ?_⟩
  · have := h w hw
    simp only [Bool.not_eq_true', Bool.not_eq_false] at this
    obtain ⟨p, hp, e⟩ := List.any_eq_true.mp this
    exact ⟨p, hp, by simpa using e⟩
  · obtain ⟨p, hp, e⟩ := h w hw
    simp only [Bool.not_eq_true', Bool.not_eq_false]
    exact List.any_eq_true.mpr ⟨p, hp, by simpa using e⟩
theorem unsafe_iff {W : List Str} {V : List Pr} {S : Pr → List Pr} {ps : List Pr} {lv : Pr → Int} {ns : List Int} (net : Net V S) (lo : LvOk V S ps lv) (lt : LotsOk ps lv ns) :
    (∃ n ∈ ns, lackB W (lotOf ps lv n) = none ∧ roundB S lv (lotOf ps lv n) = true) ↔ UnsafeP W V S := by
  have inl : ∀ {p : Pr} {n : Int}, p ∈ lotOf ps lv n ↔ p ∈ V ∧ lv p = n := fun {p n} => by
    unfold lotOf
    rw [List.mem_filter, lo.perm.mem_iff]
    simp
  constructor
  · rintro ⟨n, hn, h1, h2⟩
    obtain ⟨p, hp, h3⟩ := List.any_eq_true.mp h2
    obtain ⟨s, hs, h4⟩ := List.any_eq_true.mp h3
    simp only [decide_eq_true_eq] at h4
    obtain ⟨hpV, hpl⟩ := inl.mp hp
    have hsV := net.cl p hpV s hs
    refine ⟨p, hpV, ⟨s, hs, ((lo.eq s hsV p hpV).mp h4).1⟩, fun w hw => ?_⟩
    obtain ⟨q, hq, e⟩ := lackB_none.mp h1 w hw
    obtain ⟨hqV, hql⟩ := inl.mp hq
    have := (lo.eq p hpV q hqV).mp (hpl.trans hql.symm)
    exact ⟨q, hqV, e, this.1, this.2⟩
  · rintro ⟨x, hx, ⟨s, hs, hsx⟩, hw⟩
    have hsV := net.cl x hx s hs
    refine ⟨lv x, (lt.mem _).mpr (List.mem_map.mpr ⟨x, lo.perm.mem_iff.mpr hx, rfl⟩), lackB_none.mpr fun w h => ?_, ?_⟩
    · obtain ⟨p, hp, e, h1, h2⟩ := hw w h
      exact ⟨p, inl.mpr ⟨hp, (lo.eq p hp x hx).mpr ⟨h2, h1⟩⟩, e⟩
    · exact List.any_eq_true.mpr ⟨x, inl.mpr ⟨hx, rfl⟩, List.any_eq_true.mpr ⟨s, hs, by simpa using (lo.eq s hsV x hx).mpr ⟨hsx, .one hs⟩⟩⟩
theorem net_of {W ws : List Str} (hW : W.length ≤ 30) (nd : (pairsOf W ws).Nodup) (few : (pairsOf W ws).length ≤ 33) : Net (pairsOf W ws) (stepsOf W ws) := ⟨nd, few, fun p _ s hs => steps_pairs hs, fun p _ => Nat.le_trans steps_len hW⟩
section
variable {P : Program} {w : World} {K : PySem.W.Frag} {mg : Str → Option Value} {base : Heap}
/-! safe_or_not -/
abbrev s_safe_or_not : Stmt := (topS 33)
abbrev N_safe_or_not : List Str := ["graph", "row", "reading", "levels", "lots", "lacks", "level", "lot"]
theorem sc_safe_or_not : FnScope N_safe_or_not ["graph", "row"] (defScope s_safe_or_not) := ⟨rfl, rfl, rfl, by decide +kernel, rfl, by decide +kernel, by decide +kernel⟩
def Pre_safe (C' : Addr) : (List Str × Nat × Str) → List D → List (Addr × M) → Prop := fun (W, k, row) ds mr => ds = [gD C' W, .str row] ∧ mr = [] ∧ GoodW W k ∧ Conn W ∧ RowOk row ∧ k ≤ row.length ∧ row.length ≤ 900 ∧ (pairsOf W (wordsS row k)).Nodup ∧ (pairsOf W (wordsS row k)).length ≤ 33 ∧ ((pairsOf W (wordsS row k)).length + 1) * W.length ≤ 1000
def Post_safe : (List Str × Nat × Str) → D → List (Addr × M) → Prop := fun (W, k, row) d mr => mr = [] ∧ ∃ t y, d = .tup [.str t, y] ∧ ((t = "unsafe" ∧ UnsafeP W (pairsOf W (wordsS row k)) (stepsOf W (wordsS row k))) ∨ (t = "safe" ∧ ¬ UnsafeP W (pairsOf W (wordsS row k)) (stepsOf W (wordsS row k))))
theorem ok_safe_or_not {C C' : Addr} {f : Addr} {fd : FuncData} (F : Fun K "safe_or_not" "safe_or_not" s_safe_or_not f fd) (T : Bu K w mg) (F_need_asked : Fn P w K mg base 3 "need_asked" ["graph", "row"] (PureSp false 2 (R_need_asked C'))) (F_Reading : Mke P w K mg base 4 C "Reading" ["self", "graph", "row"] (MutG false 3 (Pre_Reading C C') (Post_Reading C)))
    (F_Reading_levels : Me P w K mg base 3 C "levels" ["self"] (MutG true 1 (Pre_gone_out C) Post_levels)) (F_Reading_lots : Me P w K mg base 1 C "lots" ["self", "levels"] (MutG true 2 (Pre_lots C) Post_lots)) (F_Reading_lack_of : Me P w K mg base 1 C "lack_of" ["self", "lot"] (PureSp false 2 (R_lack_of C))) (F_Reading_goes_round : Me P w K mg base 1 C "goes_round" ["self", "levels", "lot"] (PureSp false 3 (R_goes_round C))) (F_Reading_ring_round : Me P w K mg base 2 C "ring_round" ["self", "levels", "lot"] (MutG false 3 (Pre_ring C) Post_ring)) : FnOk P w K mg base CX0 6 f fd ["graph", "row"] (MutG true 2 (Pre_safe C') Post_safe) := by
  refine F.ok sc_safe_or_not (fun vs H Q E h => h.1) (fun cdv A outer s H vs Q E hr h => ?_)
  have nd := sc_safe_or_not.nd
  have hu := hu_of hr
  have hu0 := hr.units0
  refine ⟨_, (pss_cons (ps_expr (pe_fn F_need_asked (hr.mono (by decide)) rfl (pa_cons (pv 0) (pa_cons (pv 1) pa_nil))))
  (pss_cons (ps_set (i := 2) nd rfl (Or.inr rfl) (pe_mk F_Reading (hr.mono (by decide)) rfl (pa_cons (pv 0) (pa_cons (pv 1) pa_nil))))
  (pss_cons (ps_set (i := 3) nd rfl (Or.inl rfl) (pe_me0 F_Reading_levels (pv 2) (hr.mono (by decide))))
  (pss_cons (ps_set (i := 4) nd rfl (Or.inl rfl) (pe_me F_Reading_lots (pv 2) (hr.mono (by decide)) (pa_cons (pv 3) pa_nil)))
  (pss_cons (ps_lock (ps_setDc (i := 5) (g := (gTup _ 2 (gCons (gName 6) (gCons (gName 7) gNil)))) (tt := tYes) (tk := (tVar 6)) (tv := (tMeth _ _ _ _ _ (tVar 2) (tCons (tVar 7) tNil))) (own := [("level", 6), ("lot", 7)]) rfl nd rfl rfl (sw_trueD rfl rfl rfl (by decide +kernel)) (pi_items (pv 4)) (blkOk_by (own := [("level", 6), ("lot", 7)]) (N := N_safe_or_not) (sc := (defScope s_safe_or_not)) (by decide +kernel)) (fun _ _ _ _ _ => (pg_tup rfl (pgs_cons (pg_name (i := 6) nd rfl (Or.inl rfl)) (pgs_cons (pg_name (i := 7) nd rfl (Or.inl rfl)) pgs_nil)))) (fun _ _ _ _ _ => pts_nil) (fun _ _ _ _ _ => (pv 6)) (fun _ _ _ _ _ => (pe_me F_Reading_lack_of (pv 2) (hr.mono (by decide)) (pa_cons (pv 7) pa_nil)))))
  (pss_cons (ps_lock (ps_for PassesOwn.never rfl (pi_items (pv 4)) (pg_tup rfl (pgs_cons (pg_name (i := 6) nd rfl (Or.inl rfl)) (pgs_cons (pg_name (i := 7) nd rfl (Or.inl rfl)) pgs_nil))) (pss_one (ps_if (PW.pt (pw_and (pt_cmpR op_isN (pe_dget hu (pv 5) (pv 6) (fun _ _ => rfl)) pe_non (nomark _)) (pw_and1 (pt_val (pe_me F_Reading_goes_round (pv 2) (hr.mono (by decide)) (pa_cons (pv 3) (pa_cons (pv 7) pa_nil))))))) (pss_one (ps_ret (pe_tup (pa_cons pe_str (pa_cons (pe_me F_Reading_ring_round (pv 2) (hr.mono (by decide)) (pa_cons (pv 3) (pa_cons (pv 7) pa_nil))) pa_nil))))) pss_nil))))
  (pss_one (ps_ret (pe_tup (pa_cons pe_str (pa_cons (pe_tup (pa_cons (pv 3) (pa_cons (pv 5) pa_nil))) pa_nil))))))))))), ?_⟩
  refine body_okG h fun gh ds mr hn hP B => ?_
  obtain ⟨W, k, row⟩ := gh
  obtain ⟨rfl, rfl, g, hc, hrow, hk, hl, hnd, hfew, hsz⟩ := hP
  have few := g.few
  have net := net_of few hnd hfew
  have hVW : ∀ p ∈ pairsOf W (wordsS row k), p.1 ∈ W := fun p hp => (mem_pairsOf.mp hp).1
  refine sm_dropX (P1 := fun b' d' => b' = ⟨true, []⟩) (ex_pure (ev_call (ea_cons (ev_var rfl) (ea_cons (ev_var rfl) ea_nil)) rfl ⟨W, k, row, rfl, g, hc, hrow, hk, hl, rfl⟩ (fun z => by cases z)) rfl) fun b' d' e => ?_
  subst e
  refine sm_set (d := rD C W (pairsOf W (wordsS row k)) (stepsOf W (wordsS row k))) (ev_makeG (fun x => (x, W, k, row)) (ea_cons (ev_var rfl) (ea_cons (ev_var rfl) ea_nil)) rfl (fun z => by cases z) (fun x => ⟨rfl, rfl, g, hk, hl, hnd, by omega⟩) fun x d ms' hp _ => hp) ?_
  suffices key : ∀ V S, V = pairsOf W (wordsS row k) → S = stepsOf W (wordsS row k) → Stm B _ ⟨true, []⟩ (List.set (ro0 N_safe_or_not [gD C' W, .str row]) 2 (some (rD C W V S))) (PoM (Post_safe (W, k, row)) []) from key _ _ rfl rfl
  intro V S eV eS
  rw [← eV] at hVW hsz hfew hnd
  rw [← eV, ← eS] at net
  have post : ∀ (t : Str) (y : D), ((t = "unsafe" ∧ UnsafeP W V S) ∨ (t = "safe" ∧ ¬ UnsafeP W V S)) → Post_safe (W, k, row) (.tup [.str t, y]) [] := fun t y h => ⟨rfl, t, y, rfl, by rw [← eV, ← eS]; exact h⟩
  refine sm_setX (P1 := fun b' d' => b' = ⟨true, []⟩ ∧ ∃ ps lv, d' = levD ps lv ∧ LvOk V S ps lv) (ex_methG (P1 := fun b1 ds => b1 = ⟨true, []⟩ ∧ ds = []) (ev_var rfl) rfl (xa_nil ⟨rfl, rfl⟩) ?m1) ?k1
  case m1 =>
    rintro b1 ds ⟨rfl, rfl⟩
    refine ⟨rfl, ⟨W, V, S⟩, [], (fun x hx => nomatch hx), ⟨rfl, rfl, net⟩, (fun _ => rfl), fun d ms' b'' hp ek pu => ?_⟩
    obtain ⟨e0, ps, lv, e, h⟩ := hp
    subst e0
    exact ⟨puts_nil pu, ps, lv, e, h⟩
  case k1 =>
    rintro b' d' ⟨rfl, ps, lv, rfl, lo⟩
    have psl : ps.length ≤ 33 := by rw [lo.perm.length_eq]; exact hfew
    refine sm_setX (P1 := fun b' d' => b' = ⟨true, []⟩ ∧ ∃ ns, d' = lotsD ns ps lv ∧ LotsOk ps lv ns) (ex_methG (P1 := fun b1 ds => b1 = ⟨true, []⟩ ∧ ds = [levD ps lv]) (ev_var rfl) rfl (xa_pure (ea_cons (ev_var rfl) ea_nil) ⟨rfl, rfl⟩) ?m2) ?k2
    case m2 =>
      rintro b1 ds ⟨rfl, rfl⟩
      refine ⟨rfl, ⟨W, V, S, ps, lv⟩, [], (fun x hx => nomatch hx), ⟨rfl, rfl, psl⟩, (fun _ => rfl), fun d ms' b'' hp ek pu => ?_⟩
      obtain ⟨e0, ns, e, h⟩ := hp
      subst e0
      exact ⟨puts_nil pu, ns, e, h⟩
    case k2 =>
      rintro b' d' ⟨rfl, ns, rfl, lt⟩
      have nsl : ns.length ≤ 33 := by
        have := nodup_le (l := ns) (m := ps.map lv) lt.nd fun n hn => (lt.mem n).mp hn
        rw [List.length_map] at this
        omega
      have lotl : ∀ n, (lotOf ps lv n).length ≤ 33 := fun n => Nat.le_trans (List.length_filter_le _ _) psl
      have lotV : ∀ n, ∀ p ∈ lotOf ps lv n, p ∈ V := fun n p hp => lo.perm.mem_iff.mp (List.mem_filter.mp hp).1
      refine sm_lockAsg (sm_set (d := lkD ns fun n => lackB W (lotOf ps lv n)) (Ev.is (ev_dcKL (xs := ns) (enc := fun n => .tup [.int n, lD (lotOf ps lv n)]) (k := Sum.inl) (f := fun n => oD (lackB W (lotOf ps lv n))) (SrcL.is (sl_itemsK rfl (kn_var rfl)) (by rw [List.map_map]; rfl)) (by omega) fun n hn => dct (tg_pair (by decide) (by decide)) (ev_var rfl) (ev_meth (ev_var rfl) rfl (ea_cons (ev_var rfl) ea_nil) rfl ⟨W, V, S, lotOf ps lv n, rfl, few, by have := lotl n; omega, rfl⟩ (fun z => by cases z))) (by rw [mkD_map inl_inj' lt.nd]; rfl)) ?_)
      refine sm_forL (ds := ns.map fun n => .tup [.int n, lD (lotOf ps lv n)]) rfl (SrcL.is (sl_itemsK rfl (kn_var rfl)) (by rw [List.map_map]; rfl)) (fun i b ρ => ∃ x y, (∀ n ∈ ns.take i, ¬ (lackB W (lotOf ps lv n) = none ∧ roundB S lv (lotOf ps lv n) = true)) ∧ ρ = [some (gD C' W), some (.str row), some (rD C W V S), some (levD ps lv), some (lotsD ns ps lv), some (lkD ns fun n => lackB W (lotOf ps lv n)), x, y]) ⟨none, none, (fun n hn => by simp at hn), rfl⟩ ?t ?f
      case t =>
        rintro B' i b ρ ⟨x, y, hno, rfl⟩ d hd
        have hi : i < ns.length := by
          have := (List.getElem?_eq_some_iff.mp hd).1
          simpa using this
        rw [List.getElem?_map, List.getElem?_eq_getElem hi] at hd
        cases hd
        have ht : ns.take (i + 1) = ns.take i ++ [ns[i]] := by rw [List.take_add_one, List.getElem?_eq_getElem hi]; rfl
        have hn := List.getElem_mem hi
        generalize ns[i] = n at hn ht ⊢
        refine ⟨_, _, tg_pair (vs := [6, 7]) (by decide) (by decide), ?_⟩
        refine sm_last (sm_if (et_and (c1 := isNonD (oD (lackB W (lotOf ps lv n)))) (c2 := roundB S lv (lotOf ps lv n)) (et_test (ev_op (ev_dgetK (k := Sum.inl n) (ev_var rfl) (ev_var rfl) (valD_map inl_inj' hn)) ev_non rd_isN)) fun _ => et_test (ev_meth (ev_var rfl) rfl (ea_cons (ev_var rfl) (ea_cons (ev_var rfl) ea_nil)) rfl ⟨W, V, S, ps, lv, lotOf ps lv n, rfl, net, lo.perm, lotV n, lotl n, rfl⟩ (fun z => by cases z))) (fun hcc => ?_) fun hcc => ?_)
        · rw [Bool.and_eq_true] at hcc
          have hnone : lackB W (lotOf ps lv n) = none := by
            cases hlk : lackB W (lotOf ps lv n) with
            | none => rfl
            | some z => rw [hlk] at hcc; cases hcc.1
          refine sm_retS (sm_retX (ex_tup (P1 := fun b1 ds => ∃ z, ds = [.str "unsafe", .str z]) (xa_cons (P' := fun b1 d => b1 = b ∧ d = .str "unsafe") (ex_pure ev_str ⟨rfl, rfl⟩) ?m3) ?m4))
          case m3 =>
            rintro b1 d ⟨rfl, rfl⟩
            refine xa_cons (P' := fun b1 d => ∃ z, d = .str z) (ex_methG (P1 := fun b1 ds => ds = [levD ps lv, lD (lotOf ps lv n)]) (ev_var rfl) rfl (xa_pure (ea_cons (ev_var rfl) (ea_cons (ev_var rfl) ea_nil)) rfl) ?_) fun b1 d ⟨z, e⟩ => xa_nil ⟨z, by rw [e]⟩
            rintro b1 ds rfl
            refine ⟨rfl, ⟨W, k, V, S, ps, lv, n⟩, [], (fun x hx => nomatch hx), ⟨rfl, rfl, g, net, lo, hVW, hsz, lackB_none.mp hnone, hcc.2⟩, (fun z => by cases z), fun d ms' b'' hp ek pu => hp.2⟩
          case m4 =>
            rintro b1 ds ⟨z, rfl⟩
            exact ⟨by simp, [], post _ _ (.inl ⟨rfl, (unsafe_iff net lo lt).mp ⟨n, hn, hnone, hcc.2⟩⟩), rfl, (fun x hx => nomatch hx)⟩
        · refine sm_unit (sm_next ⟨_, _, fun m hm => ?_, rfl⟩)
          rw [ht] at hm
          rcases List.mem_append.mp hm with h | h
          · exact hno m h
          · rw [List.mem_singleton.mp h]
            rintro ⟨h1, h2⟩
            rw [h1, h2] at hcc
            cases hcc
      case f =>
        rintro b ρ ⟨x, y, hno, rfl⟩
        rw [List.length_map, List.take_length] at hno
        refine sm_ret (ev_tup (ea_cons ev_str (ea_cons (ev_tup (ea_cons (ev_var rfl) (ea_cons (ev_var rfl) ea_nil)) (by simp)) ea_nil)) (by simp)) ⟨[], post _ _ (.inr ⟨rfl, fun hu => ?_⟩), rfl, (fun x hx => nomatch hx)⟩
        obtain ⟨n, hn, h⟩ := (unsafe_iff net lo lt).mpr hu
        exact hno n hn h
end
end Sh
set_option Elab.async false
set_option linter.all false
set_option maxRecDepth 100000
set_option maxHeartbeats 4000000
/-! WM: the law's defs that change nothing. -/
namespace Sh
open PySem L2
local macro_rules | `(tactic| walk_at "ev1") => `(tactic| first
  | (with_reducible apply ev_var); rfl
  | with_reducible exact ev_int
  | with_reducible exact ev_str
  | with_reducible exact ev_bl
  | with_reducible exact ev_non
  | with_reducible exact ev_ty
  | with_reducible apply ev_op
  | with_reducible apply ev_cb
  | with_reducible apply ea_cons
  | with_reducible exact ea_nil
  | with_reducible exact rd_I0 rfl
  | with_reducible exact rd_I0b rfl
  | with_reducible apply rd_I rfl
  | with_reducible exact rd_eqI
  | with_reducible exact rd_neI
  | with_reducible exact rd_eqS
  | with_reducible exact rd_neS
  | with_reducible exact rd_isN
  | with_reducible exact rd_notN
  | with_reducible exact rd_fst
  | with_reducible exact rd_snd
  | with_reducible exact rc_lenL
  | with_reducible exact rc_lenT
  | with_reducible apply rc_lenS
  | with_reducible exact rc_intB
  | with_reducible exact rc_min
  | with_reducible exact rc_all
  | with_reducible exact rc_any
  | with_reducible apply ev_slS
  | with_reducible exact eo_none
  | with_reducible apply eo_some
  | with_reducible apply et_test
  | with_reducible apply et_B
  | with_reducible apply et_not
  | with_reducible apply ev_notV
  | (with_reducible apply ev_un); rotate_left; rfl)
local macro_rules | `(tactic| walk_at "ev") => `(tactic| repeat' walk_at "ev1")
theorem cutD_take (ds : List D) (n : Nat) : cutD ds none (some (n : Int)) = ds.take n := by
  unfold cutD
  rw [HT.sIx_none, HT.sIx_nat, List.drop_zero, Nat.sub_zero]
  by_cases h : n ≤ ds.length
  · rw [Nat.min_eq_left h]
  · rw [Nat.min_eq_right (by omega), List.take_of_length_le (Nat.le_refl _), List.take_of_length_le (by omega)]
theorem cutD_drop (ds : List D) (n : Nat) : cutD ds (some (n : Int)) none = ds.drop n := by
  unfold cutD
  rw [HT.sIx_none, HT.sIx_nat]
  by_cases h : n ≤ ds.length
  · rw [Nat.min_eq_left h, List.take_of_length_le (by rw [List.length_drop]; exact Nat.le_refl _)]
  · rw [Nat.min_eq_right (by omega), List.drop_of_length_le (by omega), List.drop_of_length_le (by omega)]
    simp
def reachD (ps : List Pr) (R : Pr → List Pr) : D := .dT (ps.map fun p => (pK p, .dT (metD (R p))))
def lackL (W : List Str) (lot : List Pr) (R : Pr → List Pr) : List (Option Str) := (W.filter fun w => !(lot.any fun p => decide (p.1 = w))).map some ++ List.replicate (if lot.any (fun p => decide (p ∈ R p)) then 0 else 1) none
/-- how far the beginning is read, sizes to i -/
def foTo {α : Type} [DecidableEq α] (ws : List α) (m : Nat) (w : α) (i : Nat) : Nat := (((List.range i).filter fun s => decide (On ws m w s)).getLast?.map (· + 1)).getD 0
theorem foTo_succ {α : Type} [DecidableEq α] (ws : List α) (m : Nat) (w : α) (i : Nat) : foTo ws m w (i + 1) = if On ws m w i then i + 1 else foTo ws m w i := by
  unfold foTo
  rw [List.range_succ, List.filter_append]
  by_cases c : On ws m w i
  · rw [if_pos c, List.filter_cons, if_pos (by simpa using c)]; simp
  · rw [if_neg c, List.filter_cons, if_neg (by simpa using c)]; simp
section
variable {P : Program} {w : World} {K : PySem.W.Frag} {mg : Str → Option Value} {base : Heap}
/-! _law_behind -/
abbrev s_L_behind : Stmt := (topS 41)
abbrev N_L_behind : List Str := ["_law_words", "_law_word", "_law_other"]
theorem sc_L_behind : FnScope N_L_behind ["_law_words", "_law_word"] (defScope s_L_behind) := ⟨rfl, rfl, rfl, by decide +kernel, rfl, by decide +kernel, by decide +kernel⟩
def R_L_behind : List D → D → Prop := fun ds d => ∃ W z, ds = [sD W, .str z] ∧ (∀ w ∈ W, w.length ≤ 1000) ∧ z.length ≤ 1000 ∧ W.length ≤ 900 ∧ d = sD (nexts W z)
theorem ok_L_behind {f : Addr} {fd : FuncData} (F : Fun K "_law_behind" "_law_behind" s_L_behind f fd) (T : Bu K w mg) : FnOk P w K mg base CX0 1 f fd ["_law_words", "_law_word"] (PureSp false 2 R_L_behind) := by
  refine F.ok sc_L_behind (fun vs H Q E h => h.1) (fun cdv A outer s H vs Q E hr h => ?_)
  have nd := sc_L_behind.nd
  refine ⟨_, (pss_one (ps_ret (pe_lc (g := (gName 2)) (tt := (tTest (tOp _ (tSl rSlS (tVar 2) tNoPart (tPart (tUn _ (tC _)))) (tSl rSlS (tVar 1) (tPart (tC _)) tNoPart)))) (te := (tVar 2)) (own := [("_law_other", 2)]) rfl nd (pi_list (pv 0)) (blkOk_by (own := [("_law_other", 2)]) (N := N_L_behind) (sc := (defScope s_L_behind)) (by decide +kernel)) (fun _ _ _ _ _ => (pg_name (i := 2) nd rfl (Or.inl rfl))) (fun _ _ _ _ _ => (pts_one (pt_cmpR op_eq (pe_slice sl_str (pv 2) po_none (po_some (pe_un un_neg pe_int))) (pe_slice sl_str (pv 1) (po_some pe_int) po_none) (nomark _)))) (fun _ _ _ _ _ => (pv 2))))), ?_⟩
  refine body_ok h fun ds d hn hR => ?_
  obtain ⟨W, z, rfl, h1, h2, h3, rfl⟩ := hR
  refine st_ret (EvN.ev (evn_lc (xs := W) (enc := .str) (c := fun o => decide (it1 o = tl1 z)) (f := .str) (src_list (ev_var rfl)) (by omega) fun o ho => ?_))
  exact lct (tg_name (by decide)) (et_test (ev_op (ev_slS (ev_var rfl) eo_none (eo_some (ev_un ev_int rfl)) (sizeOk (h1 o ho))) (ev_slS (ev_var rfl) (eo_some ev_int) eo_none (sizeOk h2)) rd_eqS)) fun _ => ev_var rfl
/-! _law_so_far -/
abbrev s_L_so_far : Stmt := (topS 43)
abbrev N_L_so_far : List Str := ["_law_parts", "_law_many", "_law_word", "_law_line", "_law_found", "_law_size"]
theorem sc_L_so_far : FnScope N_L_so_far ["_law_parts", "_law_many", "_law_word"] (defScope s_L_so_far) := ⟨rfl, rfl, rfl, by decide +kernel, rfl, by decide +kernel, by decide +kernel⟩
def R_L_so_far : List D → D → Prop := fun ds d => ∃ (ws : List Str) (m : Nat) (z : Str), ds = [sD ws, .int m, .str z] ∧ m < ws.length ∧ ws.length ≤ 900 ∧ d = .int (soFar ws m z : Nat)
theorem ok_L_so_far {f : Addr} {fd : FuncData} (F : Fun K "_law_so_far" "_law_so_far" s_L_so_far f fd) (T : Bu K w mg) : FnOk P w K mg base CX0 1 f fd ["_law_parts", "_law_many", "_law_word"] (PureSp false 3 R_L_so_far) := by
  refine F.ok sc_L_so_far (fun vs H Q E h => h.1) (fun cdv A outer s H vs Q E hr h => ?_)
  have nd := sc_L_so_far.nd
  have hu := hu_of hr
  have hu0 := hr.units0
  refine ⟨_, (pss_cons (ps_par (i := 3) (j := 4) rfl nd rfl rfl (by decide) rfl rfl (pa_cons (pe_op op_cat (pe_slice sl_list (pv 0) po_none (po_some (pv 1))) (pe_lst (pa_cons (pv 2) pa_nil))) (pa_cons pe_int pa_nil)) (by rfl))
  (pss_cons (ps_for PassesOwn.never rfl (pi_range2 (by rfl) T.n_range (pa_cons pe_int (pa_cons (pe_op op_add (pe_callB (call_min2 rfl) (by rfl) T.n_min (by decide +kernel) (pa_cons (pe_callB call_len_seq (by rfl) T.n_len (by decide +kernel) (pa_cons (pv 0) pa_nil)) (pa_cons (pe_op op_add (pv 1) pe_int) pa_nil))) pe_int) pa_nil))) (pg_name (i := 5) nd rfl (Or.inl rfl)) (pss_one (ps_if (pt_cmpR (op_eqStrs hu0) (pe_slice sl_list (pv 0) po_none (po_some (pv 5))) (pe_slice sl_list (pv 3) (po_some (pe_op op_sub (pe_callB call_len_seq (by rfl) T.n_len (by decide +kernel) (pa_cons (pv 3) pa_nil)) (pv 5))) po_none) (nomark _)) (pss_one (ps_set (i := 4) nd rfl (Or.inl rfl) (pv 5))) pss_nil)))
  (pss_one (ps_ret (pv 4))))), ?_⟩
  refine body_okP h fun ds d hn hR B => ?_
  obtain ⟨ws, m, z, rfl, hm, hl, rfl⟩ := hR
  refine sm_parX (P2 := fun b' ds => b' = ⟨false, []⟩ ∧ ds = [sD (ws.take m ++ [z]), .int (0 : Nat)]) (xa_pure (ea_cons (EvN.ev (EvN.is (evn_op (EvN.ev (EvN.is (evn_slL (ev_var rfl) eo_none (eo_some (ev_var rfl))) (cutD_take _ _))) (EvN.ev (evn_lst (ea_cons (ev_var rfl) ea_nil) (by simp))) (rn_cat ?_)) ?_)) (ea_cons ev_int ea_nil)) ⟨rfl, rfl⟩) fun b' ds ⟨e1, e2⟩ => ⟨_, _, e2, ?_⟩
  · simp; exact sizeOk (by omega)
  · simp [List.map_take]
  subst e1
  have hml : (ws.take m ++ [z]).length = m + 1 := by simp; omega
  refine sm_for (P2 := fun b' ds => b' = ⟨false, []⟩ ∧ ds = ((List.range (m + 1)).map fun (i : Nat) => D.int (1 + (i : Int)))) (sx_pure (Src.is (src_rng2 (lo := 1) (n := ((m + 1 : Nat) : Int) + 1) (ea_cons ev_int (ea_cons (ev_op (Ev.is (ev_cb (ea_cons (ev_cb (ea_cons (ev_var rfl) ea_nil) rc_lenQ) (ea_cons (ev_op (ev_var rfl) ev_int (rd_I0 rfl)) ea_nil)) rc_min) ?_) ev_int (rd_I0 rfl)) ea_nil)) (by omega)) (by congr 2; omega)) ⟨rfl, rfl⟩) fun b1 ds ⟨e1, e2⟩ => ?_
  · congr 1
    rw [List.length_map]
    split <;> omega
  subst e1 e2
  refine ⟨fun i b ρ => ∃ x, b.fl = false ∧ ρ = [some (sD ws), some (.int m), some (.str z), some (sD (ws.take m ++ [z])), some (.int (foTo ws m z i : Nat)), x], ⟨none, rfl, rfl⟩, ?_, ?_⟩
  · rintro i b ρ ⟨x, hfl, rfl⟩ d hd
    have hi : i < m + 1 := by
      have := (List.getElem?_eq_some_iff.mp hd).1
      simpa using this
    have hd' : d = .int ((i + 1 : Nat) : Int) := by
      rw [List.getElem?_map, List.getElem?_range hi] at hd
      cases hd
      show D.int (1 + (i : Int)) = _
      rw [show (1 + (i : Int)) = ((i + 1 : Nat) : Int) by omega]
    subst hd'
    refine ⟨_, _, tg_name (vs := [5]) (by decide), ?_⟩
    refine sm_last (sm_if (cc := decide (On ws m z i)) (EvT.is (et_test (ev_op (EvN.ev (EvN.is (evn_slL (ev_var rfl) eo_none (eo_some (ev_var rfl))) (es := (ws.take (i + 1)).map .str) ?_)) (EvN.ev (EvN.is (evn_slL (ev_var rfl) (eo_some (ev_op (ev_cb (ea_cons (ev_var rfl) ea_nil) rc_lenQ) (ev_var rfl) (rd_I0 (k := ((m + 1 - (i + 1) : Nat) : Int)) ?_))) eo_none) (es := ((ws.take m ++ [z]).drop (m + 1 - (i + 1))).map .str) ?_)) rd_eqStrs)) ?_) (fun hc => ?_) fun hc => ?_)
    · rw [cutD_take, List.map_take]
    · show V.int _ = V.int _
      congr 1
      rw [List.length_map, hml]
      omega
    · rw [cutD_drop, List.map_drop]
    · congr 1
      exact propext (take_on (by omega) (by omega) (by omega))
    · simp only [decide_eq_true_eq] at hc
      refine sm_set (d := .int ((i + 1 : Nat) : Int)) (ev_var rfl) (sm_next ⟨some (.int ((i + 1 : Nat) : Int)), hfl, ?_⟩)
      rw [foTo_succ, if_pos hc]
      rfl
    · simp only [decide_eq_false_iff_not] at hc
      refine sm_unit (sm_next ⟨some (.int ((i + 1 : Nat) : Int)), hfl, ?_⟩)
      rw [foTo_succ, if_neg hc]
      rfl
  · rintro b ρ ⟨x, hfl, rfl⟩
    refine sm_ret (ev_var rfl) ?_
    simp [foTo, soFar]
/-! _law_steps -/
abbrev s_L_steps : Stmt := (topS 44)
abbrev N_L_steps : List Str := ["_law_words", "_law_parts", "_law_pair", "_law_some", "_law_word", "_law_one"]
theorem sc_L_steps : FnScope N_L_steps ["_law_words", "_law_parts", "_law_pair"] (defScope s_L_steps) := ⟨rfl, rfl, rfl, by decide +kernel, rfl, by decide +kernel, by decide +kernel⟩
def R_L_steps : List D → D → Prop := fun ds d => ∃ W ws p, ds = [sD W, sD ws, pD p] ∧ (∀ w ∈ W, w.length ≤ 1000) ∧ p.1.length ≤ 1000 ∧ W.length ≤ 900 ∧ p.2 < ws.length ∧ ws.length ≤ 900 ∧ d = lD (stepsOf W ws p)
theorem ok_L_steps {f : Addr} {fd : FuncData} (F : Fun K "_law_steps" "_law_steps" s_L_steps f fd) (T : Bu K w mg) (F_L_behind : Fn P w K mg base 1 "_law_behind" ["_law_words", "_law_word"] (PureSp false 2 R_L_behind)) (F_L_so_far : Fn P w K mg base 1 "_law_so_far" ["_law_parts", "_law_many", "_law_word"] (PureSp false 3 R_L_so_far)) : FnOk P w K mg base CX0 2 f fd ["_law_words", "_law_parts", "_law_pair"] (PureSp false 3 R_L_steps) := by
  refine F.ok sc_L_steps (fun vs H Q E h => h.1) (fun cdv A outer s H vs Q E hr h => ?_)
  have nd := sc_L_steps.nd
  refine ⟨_, (pss_cons (ps_setLc (i := 3) (g := (gName 4)) (tt := tYes) (te := (tTup (tCons (tVar 4) (tCons (tCall _ _ _ (tCons (tVar 1) (tCons (tOp (rIxT _) (tVar 2) (tC _)) (tCons (tVar 4) tNil)))) tNil)))) (own := [("_law_word", 4)]) rfl nd rfl rfl (sw_true rfl rfl rfl (by decide +kernel)) (pi_list (pe_fn F_L_behind (hr.mono (by decide)) rfl (pa_cons (pv 0) (pa_cons (pe_ix ix_tup (pv 2) pe_int (fun _ _ => rfl)) pa_nil)))) (blkOk_by (own := [("_law_word", 4)]) (N := N_L_steps) (sc := (defScope s_L_steps)) (by decide +kernel)) (fun _ _ _ _ _ => (pg_name (i := 4) nd rfl (Or.inl rfl))) (fun _ _ _ _ _ => pts_nil) (fun _ _ _ _ _ => (pe_tup (pa_cons (pv 4) (pa_cons (pe_fn F_L_so_far (hr.mono (by decide)) rfl (pa_cons (pv 1) (pa_cons (pe_ix ix_tup (pv 2) pe_int (fun _ _ => rfl)) (pa_cons (pv 4) pa_nil)))) pa_nil)))))
  (pss_one (ps_ret (pe_lc (g := (gName 5)) (tt := (tTest (tOp _ (tOp (rIxT _) (tVar 5) (tC _)) (tCB (rLenQ _) (tCons (tVar 1) tNil))))) (te := (tVar 5)) (own := [("_law_one", 5)]) rfl nd (pi_list (pv 3)) (blkOk_by (own := [("_law_one", 5)]) (N := N_L_steps) (sc := (defScope s_L_steps)) (by decide +kernel)) (fun _ _ _ _ _ => (pg_name (i := 5) nd rfl (Or.inl rfl))) (fun _ _ _ _ _ => (pts_one (pt_cmpR op_lt (pe_ix ix_tup (pv 5) pe_int (fun _ _ => rfl)) (pe_callB call_len_seq (by rfl) T.n_len (by decide +kernel) (pa_cons (pv 1) pa_nil)) (nomark _)))) (fun _ _ _ _ _ => (pv 5)))))), ?_⟩
  refine body_ok h fun ds d hn hR => ?_
  obtain ⟨W, ws, p, rfl, h1, h2, h3, h4, h5, rfl⟩ := hR
  have hnl := nexts_len W p.1
  refine st_set (x := lD ((nexts W p.1).map fun o => (o, soFar ws p.2 o))) (Ev.is (EvN.ev (evn_lcY (xs := nexts W p.1) (enc := .str) (f := fun o => pD (o, soFar ws p.2 o)) (src_list (ev_call (ea_cons (ev_var rfl) (ea_cons (ev_op (ev_var rfl) ev_int rd_fst) ea_nil)) rfl ⟨W, p.1, rfl, h1, h2, h3, rfl⟩ (fun z => by cases z))) (by omega) fun o ho => ?_)) ?_) ?_
  · exact lct (tg_name (by decide)) et_yes fun _ => ev_tup (ea_cons (ev_var rfl) (ea_cons (ev_call (ea_cons (ev_var rfl) (ea_cons (ev_op (ev_var rfl) ev_int rd_snd) (ea_cons (ev_var rfl) ea_nil))) rfl ⟨ws, p.2, o, rfl, h4, h5, rfl⟩ (fun z => by cases z)) ea_nil)) (by simp)
  · simp [lD, Function.comp_def]
  · refine st_ret (EvN.ev (evn_lc (xs := (nexts W p.1).map fun o => (o, soFar ws p.2 o)) (enc := pD) (c := fun q => decide (q.2 < ws.length)) (f := pD) (src_list (ev_var rfl)) (by simp; omega) fun q hq => ?_))
    exact lct (tg_name (by decide)) (EvT.is (et_test (ev_op (ev_op (ev_var rfl) ev_int rd_snd) (ev_cb (ea_cons (ev_var rfl) ea_nil) rc_lenQ) (rd_I0b rfl))) (by simp [sD])) fun _ => ev_var rfl
/-! _law_pairs -/
abbrev s_L_pairs : Stmt := (topS 45)
abbrev N_L_pairs : List Str := ["_law_words", "_law_parts", "_law_found", "_law_word", "_law_at"]
theorem sc_L_pairs : FnScope N_L_pairs ["_law_words", "_law_parts"] (defScope s_L_pairs) := ⟨rfl, rfl, rfl, by decide +kernel, rfl, by decide +kernel, by decide +kernel⟩
def R_L_pairs : List D → D → Prop := fun ds d => ∃ W ws, ds = [sD W, sD ws] ∧ W.length ≤ 900 ∧ 1 ≤ ws.length ∧ ws.length ≤ 90 ∧ d = lD (pairsOf W ws)
theorem ok_L_pairs {f : Addr} {fd : FuncData} (F : Fun K "_law_pairs" "_law_pairs" s_L_pairs f fd) (T : Bu K w mg) : FnOk P w K mg base CX0 1 f fd ["_law_words", "_law_parts"] (PureSp false 2 R_L_pairs) := by
  refine F.ok sc_L_pairs (fun vs H Q E h => h.1) (fun cdv A outer s H vs Q E hr h => ?_)
  have nd := sc_L_pairs.nd
  refine ⟨_, (pss_cons (ps_setLc (i := 2) (g := (gName 3)) (tt := tYes) (te := (tTup (tCons (tVar 3) (tCons (tC _) tNil)))) (own := [("_law_word", 3)]) rfl nd rfl rfl (sw_true rfl rfl rfl (by decide +kernel)) (pi_list (pv 0)) (blkOk_by (own := [("_law_word", 3)]) (N := N_L_pairs) (sc := (defScope s_L_pairs)) (by decide +kernel)) (fun _ _ _ _ _ => (pg_name (i := 3) nd rfl (Or.inl rfl))) (fun _ _ _ _ _ => pts_nil) (fun _ _ _ _ _ => (pe_tup (pa_cons (pv 3) (pa_cons pe_int pa_nil)))))
  (pss_one (ps_ret (pe_op op_cat (pv 2) (pe_lc (g := (gName 4)) (tt := (tTest (tOp (rIn _ false) (tOp (rIxL _) (tVar 1) (tOp _ (tVar 4) (tC _))) (tVar 0)))) (te := (tTup (tCons (tOp (rIxL _) (tVar 1) (tOp _ (tVar 4) (tC _))) (tCons (tVar 4) tNil)))) (own := [("_law_at", 4)]) rfl nd (pi_range2 (by rfl) T.n_range (pa_cons pe_int (pa_cons (pe_callB call_len_seq (by rfl) T.n_len (by decide +kernel) (pa_cons (pv 1) pa_nil)) pa_nil))) (blkOk_by (own := [("_law_at", 4)]) (N := N_L_pairs) (sc := (defScope s_L_pairs)) (by decide +kernel)) (fun _ _ _ _ _ => (pg_name (i := 4) nd rfl (Or.inl rfl))) (fun _ _ _ _ _ => (pts_one (pt_cmpR op_in_seq (pe_ix ix_list (pv 1) (pe_op op_sub (pv 4) pe_int) (fun _ _ => rfl)) (pv 0) rfl))) (fun _ _ _ _ _ => (pe_tup (pa_cons (pe_ix ix_list (pv 1) (pe_op op_sub (pv 4) pe_int) (fun _ _ => rfl)) (pa_cons (pv 4) pa_nil))))))))), ?_⟩
  refine body_ok h fun ds d hn hR => ?_
  obtain ⟨W, ws, rfl, h1, h0, h2, rfl⟩ := hR
  refine st_set (x := lD (W.map fun w => (w, 0))) (Ev.is (EvN.ev (evn_lcY (xs := W) (enc := .str) (f := fun w => pD (w, 0)) (src_list (ev_var rfl)) (by omega) fun o ho => ?_)) ?_) ?_
  · exact lct (tg_name (by decide)) et_yes fun _ => ev_tup (ea_cons (ev_var rfl) (ea_cons ev_int ea_nil)) (by simp)
  · simp [lD, Function.comp_def]
  · have hget : ∀ q ∈ ws.dropLast.zipIdx, L2.atI (ws.map D.str) (q.2 : Nat) = some (.str q.1) := fun q hq => by
      have h3 := List.mem_zipIdx_iff_getElem?.mp hq
      rw [List.dropLast_eq_take, List.getElem?_take] at h3
      split at h3
      · exact sD_at h3
      · cases h3
    refine st_ret (EvN.ev (EvN.is (evn_op (ev_var rfl) (EvN.ev (evn_lc (xs := ws.dropLast.zipIdx) (enc := fun q => .int (1 + (q.2 : Int))) (c := fun q => decide (q.1 ∈ W)) (f := fun q => pD (q.1, q.2 + 1)) (Src.is (src_rng2 (lo := 1) (n := (ws.length : Nat)) (ea_cons ev_int (ea_cons (Ev.is (ev_cb (ea_cons (ev_var rfl) ea_nil) rc_lenQ) (by simp)) ea_nil)) (by omega)) ?_) (by simp; omega) fun q hq => ?_)) (rn_cat ?_)) ?_))
    · refine List.ext_getElem? fun i => ?_
      rw [List.getElem?_map, List.getElem?_map, List.getElem?_zipIdx]
      by_cases c : i < ws.length - 1
      · rw [List.getElem?_range (by omega), List.getElem?_eq_getElem (by simpa using c)]
        simp
      · rw [List.getElem?_eq_none (by simp; omega), List.getElem?_eq_none (by simp; omega)]
        rfl
    · have ix : ∀ {b : Bx} {ρ : Ro} {ti : TE}, ρ[1]? = some (some (sD ws)) → Ev b ti ρ (.int (q.2 : Nat)) → Ev b (tOp (rIxL K) (tVar 1) ti) ρ (.str q.1) := fun h0 h2 => ev_op (ev_var h0) h2 (rd_ixL (hget q hq))
      have e1 : (1 + (q.2 : Int)) - 1 = ((q.2 : Nat) : Int) := by omega
      refine lct (tg_name (by decide)) (et_test (ev_op (ix rfl (ev_op (ev_var rfl) ev_int (rd_I0 (by rw [e1])))) (ev_var rfl) rd_inS)) fun _ => ?_
      refine Ev.is (ev_tup (ea_cons (ix rfl (ev_op (ev_var rfl) ev_int (rd_I0 (by rw [e1])))) (ea_cons (ev_var rfl) ea_nil)) (by simp)) ?_
      simp [pD]
      omega
    · have := List.length_filter_le (fun q => decide (q.1 ∈ W)) ws.dropLast.zipIdx
      simp at this ⊢
      exact Nat.le_of_lt (small1000 (by omega))
    · simp [pairsOf, lD, List.map_append, Function.comp_def]
end
end Sh
set_option Elab.async false
set_option linter.all false
set_option maxRecDepth 100000
set_option maxHeartbeats 4000000
/-! WN: the law's reach. -/
namespace Sh
open PySem L2
local macro_rules | `(tactic| walk_at "ev1") => `(tactic| first
  | (with_reducible apply ev_var); rfl
  | with_reducible exact ev_int
  | with_reducible exact ev_str
  | with_reducible exact ev_bl
  | with_reducible exact ev_non
  | with_reducible exact ev_ty
  | with_reducible apply ev_op
  | with_reducible apply ev_cb
  | with_reducible apply ea_cons
  | with_reducible exact ea_nil
  | with_reducible exact rd_I0 rfl
  | with_reducible exact rd_I0b rfl
  | with_reducible apply rd_I rfl
  | with_reducible exact rd_eqI
  | with_reducible exact rd_neI
  | with_reducible exact rd_eqS
  | with_reducible exact rd_neS
  | with_reducible exact rd_isN
  | with_reducible exact rd_notN
  | with_reducible exact rd_fst
  | with_reducible exact rd_snd
  | with_reducible exact rc_lenL
  | with_reducible exact rc_lenT
  | with_reducible apply rc_lenS
  | with_reducible exact rc_intB
  | with_reducible exact rc_min
  | with_reducible exact rc_all
  | with_reducible exact rc_any
  | with_reducible apply ev_slS
  | with_reducible exact eo_none
  | with_reducible apply eo_some
  | with_reducible apply et_test
  | with_reducible apply et_B
  | with_reducible apply et_not
  | with_reducible apply ev_notV
  | (with_reducible apply ev_un); rotate_left; rfl)
local macro_rules | `(tactic| walk_at "ev") => `(tactic| repeat' walk_at "ev1")
theorem filter_empty {α : Type} (l : List α) (c : α → Bool) : (l.filter c).isEmpty = !(l.any c) := by
  induction l with
  | nil => rfl
  | cons a l ih =>
    rw [List.filter_cons, List.any_cons]
    by_cases h : c a = true
    · rw [if_pos h, h]; rfl
    · rw [if_neg h, ih, (Bool.not_eq_true _).mp h, Bool.false_or]
section
variable {P : Program} {w : World} {K : PySem.W.Frag} {mg : Str → Option Value} {base : Heap}
/-! _law_both -/
abbrev s_L_both : Stmt := (topS 47)
abbrev N_L_both : List Str := ["_law_reach", "_law_one", "_law_other"]
theorem sc_L_both : FnScope N_L_both ["_law_reach", "_law_one", "_law_other"] (defScope s_L_both) := ⟨rfl, rfl, rfl, by decide +kernel, rfl, by decide +kernel, by decide +kernel⟩
def R_L_both : List D → D → Prop := fun ds d => ∃ ps R a c, ds = [reachD ps R, pD a, pD c] ∧ a ∈ ps ∧ c ∈ ps ∧ d = .bl (decide (c ∈ R a) && decide (a ∈ R c))
theorem ok_L_both {f : Addr} {fd : FuncData} (F : Fun K "_law_both" "_law_both" s_L_both f fd) (T : Bu K w mg) : FnOk P w K mg base CX0 1 f fd ["_law_reach", "_law_one", "_law_other"] (PureSp false 3 R_L_both) := by
  refine F.ok sc_L_both (fun vs H Q E h => h.1) (fun cdv A outer s H vs Q E hr h => ?_)
  have nd := sc_L_both.nd
  have hu := hu_of hr
  refine ⟨_, (pss_one (ps_ret (pe_and (pe_cmp (pc_din hu (pv 2) (pe_dget hu (pv 0) (pv 1) (fun _ _ => rfl)))) (pe_one (pe_cmp (pc_din hu (pv 1) (pe_dget hu (pv 0) (pv 2) (fun _ _ => rfl)))))))), ?_⟩
  refine body_ok h fun ds d hn hR => ?_
  obtain ⟨ps, R, a, c, rfl, ha, hc, rfl⟩ := hR
  exact st_ret (ev_andV (ev_inT (p := c) (ev_var rfl) (ev_dgetT (ev_var rfl) (ev_var rfl) (valD_map pK_inj' ha)) metD_is) fun _ => ev_inT (p := a) (ev_var rfl) (ev_dgetT (ev_var rfl) (ev_var rfl) (valD_map pK_inj' hc)) metD_is)
/-! _law_lacking -/
abbrev s_L_lacking : Stmt := (topS 49)
abbrev N_L_lacking : List Str := ["_law_words", "_law_lot", "_law_reach", "_law_found", "_law_word", "_law_pair"]
theorem sc_L_lacking : FnScope N_L_lacking ["_law_words", "_law_lot", "_law_reach"] (defScope s_L_lacking) := ⟨rfl, rfl, rfl, by decide +kernel, rfl, by decide +kernel, by decide +kernel⟩
def R_L_lacking : List D → D → Prop := fun ds d => ∃ W lot ps R, ds = [sD W, lD lot, reachD ps R] ∧ W.length ≤ 90 ∧ lot.length ≤ 90 ∧ (∀ p ∈ lot, p ∈ ps) ∧ d = .lst ((lackL W lot R).map oD)
theorem ok_L_lacking {f : Addr} {fd : FuncData} (F : Fun K "_law_lacking" "_law_lacking" s_L_lacking f fd) (T : Bu K w mg) : FnOk P w K mg base CX0 1 f fd ["_law_words", "_law_lot", "_law_reach"] (PureSp false 3 R_L_lacking) := by
  refine F.ok sc_L_lacking (fun vs H Q E h => h.1) (fun cdv A outer s H vs Q E hr h => ?_)
  have nd := sc_L_lacking.nd
  have hu := hu_of hr
  have hu0 := hr.units0
  refine ⟨_, (pss_cons (ps_setLc (i := 3) (g := (gName 4)) (tt := (tTest (tOp (rNil false _) (tLc (iList _ (tVar 1)) (gName 5) (tTest (tOp _ (tOp (rIxT _) (tVar 5) (tC _)) (tVar 4))) (tVar 5) _) (tLst tNil)))) (te := (tVar 4)) (own := [("_law_word", 4)]) rfl nd rfl rfl (sw_true rfl rfl rfl (by decide +kernel)) (pi_list (pv 0)) (blkOk_by (own := [("_law_word", 4)]) (N := N_L_lacking) (sc := (defScope s_L_lacking)) (by decide +kernel)) (fun _ _ _ _ _ => (pg_name (i := 4) nd rfl (Or.inr rfl))) (fun _ _ _ _ _ => (pts_one (pt_cmpR (op_eqNil hu0) (pe_lc (g := (gName 5)) (tt := (tTest (tOp _ (tOp (rIxT _) (tVar 5) (tC _)) (tVar 4)))) (te := (tVar 5)) (own := [("_law_pair", 5)]) rfl nd (pi_list (pv 1)) (blkOk_by (own := [("_law_pair", 5)]) (N := N_L_lacking) (sc := (relS _ (defScope s_L_lacking))) (by decide +kernel)) (fun _ _ _ _ _ => (pg_name (i := 5) nd rfl (Or.inl rfl))) (fun _ _ _ _ _ => (pts_one (pt_cmpR op_eq (pe_ix ix_tup (pv 5) pe_int (fun _ _ => rfl)) (pv 4) (nomark _)))) (fun _ _ _ _ _ => (pv 5))) (pe_lst pa_nil) (nomark _)))) (fun _ _ _ _ _ => (pv 4)))
  (pss_one (ps_ret (pe_op op_cat (pv 3) (pe_op op_rep (pe_lst (pa_cons pe_non pa_nil)) (pe_callTy call_int1 (by rfl) T.n_int (by decide +kernel) (pa_cons (pe_cmpR (op_eqNil hu0) (pe_lc (g := (gName 5)) (tt := (tB (tDIn (tVar 5) (tDGet (tVar 2) (tVar 5))))) (te := (tVar 5)) (own := [("_law_pair", 5)]) rfl nd (pi_list (pv 1)) (blkOk_by (own := [("_law_pair", 5)]) (N := N_L_lacking) (sc := (defScope s_L_lacking)) (by decide +kernel)) (fun _ _ _ _ _ => (pg_name (i := 5) nd rfl (Or.inl rfl))) (fun _ _ _ _ _ => (pts_one (pt_cmp (pc_din hu (pv 5) (pe_dget hu (pv 2) (pv 5) (fun _ _ => rfl)))))) (fun _ _ _ _ _ => (pv 5))) (pe_lst pa_nil) (nomark _)) pa_nil))))))), ?_⟩
  refine body_ok h fun ds d hn hR => ?_
  obtain ⟨W, lot, ps, R, rfl, hW, hl, hlp, rfl⟩ := hR
  refine st_set (x := sD (W.filter fun w => !(lot.any fun p => decide (p.1 = w)))) (EvN.ev (evn_lc (xs := W) (enc := .str) (c := fun w => !(lot.any fun p => decide (p.1 = w))) (f := .str) (src_list (ev_var rfl)) (by omega) fun z hz => lct (tg_name (by decide)) (EvT.is (et_test (ev_op (EvN.ev (evn_lc (xs := lot) (enc := pD) (c := fun p => decide (p.1 = z)) (f := pD) (src_list (ev_var rfl)) (by omega) fun p hp => lct (tg_name (by decide)) (et_test (ev_op (ev_op (ev_var rfl) ev_int rd_fst) (ev_var rfl) rd_eqS)) fun _ => ev_var rfl)) (EvN.ev (evn_lst ea_nil (by decide))) rd_nil)) ?_) fun _ => ev_var rfl)) ?_
  · simp only [Bool.false_eq_true, if_false, List.isEmpty_map]
    exact filter_empty lot _
  · have hfl := List.length_filter_le (fun w => !(lot.any fun p => decide (p.1 = w))) W
    have hemp : (((lot.filter fun p => decide (p ∈ R p)).map pD).isEmpty) = !(lot.any fun p => decide (p ∈ R p)) := by rw [List.isEmpty_map]; exact filter_empty lot _
    refine st_ret (EvN.ev (EvN.is (evn_op (ev_var rfl) (EvN.ev (evn_op (EvN.ev (evn_lst (ea_cons ev_non ea_nil) (by simp))) (Ev.is (ev_cb (ea_cons (ev_op (EvN.ev (evn_lc (xs := lot) (enc := pD) (c := fun p => decide (p ∈ R p)) (f := pD) (src_list (ev_var rfl)) (by omega) fun p hp => lct (tg_name (by decide)) (et_B (ev_inT (p := p) (ev_var rfl) (ev_dgetT (ev_var rfl) (ev_var rfl) (valD_map pK_inj' (hlp p hp))) metD_is)) fun _ => ev_var rfl)) (EvN.ev (evn_lst ea_nil (by decide))) rd_nil) ea_nil) rc_intB) (d' := .int ((if lot.any (fun p => decide (p ∈ R p)) then 0 else 1 : Nat) : Int)) ?_) (rn_rep ?_ ?_))) (rn_cat ?_)) ?_))
    · simp only [Bool.false_eq_true, if_false, hemp]
      cases lot.any (fun p => decide (p ∈ R p)) <;> rfl
    · simp; split <;> omega
    · split <;> omega
    · simp
      refine Nat.le_of_lt (small1000 ?_)
      split <;> omega
    · unfold lackL
      rw [List.map_append, List.map_map, List.map_replicate]
      congr 1
      split <;> simp [oD]
/-! _law_reached -/
abbrev s_L_reached : Stmt := (topS 46)
abbrev N_L_reached : List Str := ["_law_steps_here", "_law_pair", "_law_met", "_law_line", "_law_one"]
theorem sc_L_reached : FnScope N_L_reached ["_law_steps_here", "_law_pair"] (defScope s_L_reached) := ⟨rfl, rfl, rfl, by decide +kernel, rfl, by decide +kernel, by decide +kernel⟩
def Pre_reached : (List Pr × (Pr → List Pr) × Pr) → List D → List (Addr × M) → Prop := fun (V, S, p) ds mr => ds = [SD V S, pD p] ∧ mr = [] ∧ Net V S ∧ p ∈ V
def Post_reached : (List Pr × (Pr → List Pr) × Pr) → D → List (Addr × M) → Prop := fun (V, S, p) d mr => mr = [] ∧ ∃ ms : List Pr, d = .dT (metD ms) ∧ ms.Nodup ∧ ∀ q, q ∈ ms ↔ Rp S p q
structure Rch2 (V : List Pr) (S : Pr → List Pr) (p : Pr) (ms L : List Pr) : Prop where
  nd : ms.Nodup
  sub : ∀ m ∈ ms, m ∈ V ∧ Rp S p m
  sub2 : ∀ m ∈ L, m ∈ V ∧ Rp S p m
  beg : ∀ s ∈ S p, s ∈ ms ∨ s ∈ L
  clo : ∀ m ∈ ms, ∀ s ∈ S m, s ∈ ms ∨ s ∈ L
  len : L.length ≤ 30 * (ms.length + 1)
theorem ok_L_reached {f : Addr} {fd : FuncData} (F : Fun K "_law_reached" "_law_reached" s_L_reached f fd) (T : Bu K w mg) : FnOk P w K mg base CX0 1 f fd ["_law_steps_here", "_law_pair"] (MutG false 2 Pre_reached Post_reached) := by
  refine F.ok sc_L_reached (fun vs H Q E h => h.1) (fun cdv A outer s H vs Q E hr h => ?_)
  have nd := sc_L_reached.nd
  have hu := hu_of hr
  have hu0 := hr.units0
  refine ⟨_, (pss_cons (ps_par (i := 2) (j := 3) rfl nd rfl rfl (by decide) rfl rfl (pa_cons pe_dnewT (pa_cons (pe_callTy call_list_of (by rfl) T.n_list (by decide +kernel) (pa_cons (pe_dget hu (pv 0) (pv 1) (fun _ _ => rfl)) pa_nil)) pa_nil)) (by rfl))
  (pss_cons (ps_while PassesOwn.never (pt_cmpR (op_neNil hu0) (pv 3) (pe_lst pa_nil) (nomark _)) (pss_cons (ps_set (i := 4) nd rfl (Or.inl rfl) (pe_bm0 PySem.F.plainAttrs_list PySem.F.slot_list_pop PySem.F.type_list_pop mt_pop (pv 3)))
  (pss_one (ps_if (pt_cmp (pc_dnotin hu (pv 4) (pv 2))) (pss_cons (ps_dput hu (pv 2) (pv 4) pe_bl rfl)
  (pss_one (ps_set (i := 3) nd rfl (Or.inl rfl) (pe_op op_cat (pv 3) (pe_dget hu (pv 0) (pv 4) (fun _ _ => rfl)))))) pss_nil))))
  (pss_one (ps_ret (pv 2))))), ?_⟩
  refine body_okG h fun gh ds mr hn hP B => ?_
  obtain ⟨V, S, p⟩ := gh
  obtain ⟨rfl, rfl, net, hp⟩ := hP
  have few := net.few
  have hout := net.out p hp
  refine sm_parX (P2 := fun b' ds => ∃ pm q, ds = [.ref pm, .ref q] ∧ pm ≠ q ∧ (pm, M.dT (metD [])) ∈ b'.rt ∧ (q, M.lst ((S p).map pD)) ∈ b'.rt) (xa_cons (P' := fun b' d => ∃ pm, d = .ref pm ∧ (pm, M.dT (metD [])) ∈ b'.rt) (ex_dnewT fun pm _ => ⟨pm, rfl, mem_add⟩) fun b' d ⟨pm, e, hm⟩ => xa_cons (P' := fun b1 d => ∃ q, d = .ref q ∧ pm ≠ q ∧ (pm, M.dT (metD [])) ∈ b1.rt ∧ (q, M.lst ((S p).map pD)) ∈ b1.rt) (ex_new (evn_cb (ea_cons (ev_dgetT (ev_var rfl) (ev_var rfl) (valD_map pK_inj' hp)) ea_nil) rcn_listL) fun q fq => ⟨q, rfl, fq _ hm, mem_add_of hm, mem_add⟩) fun b1 d1 ⟨q, e1, e2, e3, e4⟩ => xa_nil ⟨pm, q, by rw [e, e1], e2, e3, e4⟩) fun b' ds ⟨pm, q, e, hne, hm, hq⟩ => ⟨_, _, e, ?_⟩
  refine sm_while (fun m b ρ => ∃ ms L q x, m = (V.length - ms.length) * 31 + L.length ∧ pm ≠ q ∧ (pm, M.dT (metD ms)) ∈ b.rt ∧ (q, M.lst (L.map pD)) ∈ b.rt ∧ Rch2 V S p ms L ∧ ρ = [some (SD V S), some (pD p), some (.ref pm), some (.ref q), x]) _ ⟨[], S p, q, none, rfl, hne, hm, hq, ⟨List.nodup_nil, (fun m hm => nomatch hm), fun m hm => ⟨net.cl p hp m hm, m, hm, .refl m⟩, fun s hs => .inr hs, (fun m hm => nomatch hm), by simpa using hout⟩, rfl⟩ ?_
  rintro m b ρ ⟨ms, L, q, x, rfl, hne, hm, hq, rc, rfl⟩
  refine ⟨_, et_test (ev_op (ev_var rfl) (EvN.ev (evn_lst ea_nil (by decide))) (rd_nilR hq)), fun hcc => ?_, fun hcc => ?_⟩
  · obtain ⟨L', o, rfl⟩ : ∃ L' o, L = L' ++ [o] := by
      rcases List.eq_nil_or_concat L with e | ⟨L', o, e⟩
      · subst e; simp at hcc
      · exact ⟨L', o, by simpa using e⟩
    rw [List.map_append] at hq
    obtain ⟨hoV, hor⟩ := rc.sub2 o (by simp)
    refine sm_setX (P1 := fun b' d' => b' = b.put q (.lst (L'.map pD)) ∧ d' = pD o) (ex_pop (ev_var rfl) hq ⟨rfl, rfl⟩) fun b' d' ⟨e1, e2⟩ => ?_
    subst e1 e2
    have hm1 := mem_put_ne (m' := .lst (L'.map pD)) hm hne
    have hq1 : (q, M.lst (L'.map pD)) ∈ (b.put q (.lst (L'.map pD))).rt := mem_put hq
    generalize b.put q (.lst (L'.map pD)) = b1 at hm1 hq1 ⊢
    by_cases hin : o ∈ ms
    · refine sm_last (sm_if (cc := false) (et_test (ev_ninTR (k := o) (ev_var rfl) (ev_var rfl) hm1 (by rw [metD_in hin]; rfl))) (fun z => by cases z) fun _ => sm_unit (sm_next ?_))
      have keep : ∀ {s : Pr}, s ∈ ms ∨ s ∈ L' ++ [o] → s ∈ ms ∨ s ∈ L' := fun h => by
        rcases h with h | h
        · exact .inl h
        · rcases List.mem_append.mp h with h | h
          · exact .inr h
          · rw [List.mem_singleton.mp h]; exact .inl hin
      refine ⟨_, by simp, ms, L', q, some (pD o), rfl, hne, hm1, hq1, ⟨rc.nd, rc.sub, fun m hm => rc.sub2 m (by simp [hm]), fun s hs => keep (rc.beg s hs), fun m hm s hs => keep (rc.clo m hm s hs), ?_⟩, rfl⟩
      have := rc.len
      simp at this
      omega
    · refine sm_last (sm_if (cc := true) (et_test (ev_ninTR (k := o) (ev_var rfl) (ev_var rfl) hm1 (by rw [metD_out hin]; rfl))) (fun _ => ?_) (fun z => by cases z))
      have hml : ms.length + 1 ≤ V.length := by
        have := nodup_le (l := o :: ms) (m := V) (List.nodup_cons.mpr ⟨hin, rc.nd⟩) fun y hy => by
          rcases List.mem_cons.mp hy with rfl | hy
          · exact hoV
          · exact (rc.sub y hy).1
        simpa using this
      have hLl := rc.len
      rw [List.length_append, List.length_singleton] at hLl
      have ho := net.out o hoV
      refine sm_assoc (sm_dputT (k := o) (P1 := fun b' d' => b' = b1 ∧ d' = .bl true) (ex_pure ev_bl ⟨rfl, rfl⟩) fun b' x' ⟨e1, e2⟩ => ?_)
      subst e1 e2
      refine ⟨pm, _, ev_var rfl, ev_var rfl, hm1, by simp [metD]; omega, ?_⟩
      rw [metD_put hin]
      have hm2 := mem_put (m' := .dT (metD (ms ++ [o]))) hm1
      have hq2 := mem_put_ne (m' := .dT (metD (ms ++ [o]))) hq1 (fun e => hne e.symm)
      generalize b'.put pm (.dT (metD (ms ++ [o]))) = b2 at hm2 hq2 ⊢
      refine sm_setN (ds := (L' ++ S o).map pD) (EvN.is (evn_op (ev_var rfl) (ev_dgetT (ev_var rfl) (ev_var rfl) (valD_map pK_inj' hoV)) (rn_catR hq2 ?_)) (by rw [List.map_append])) fun q2 fq => ?_
      · simp; exact Nat.le_trans (by omega : _ ≤ 2000) (by rw [PySem.sizeLine_eq]; decide)
      refine sm_unit (sm_next ⟨_, ?_, ms ++ [o], L' ++ S o, q2, some (pD o), rfl, fq _ hm2, mem_add_of hm2, mem_add, ⟨?_, ?_, ?_, ?_, ?_, ?_⟩, rfl⟩)
      · simp; omega
      · rw [List.nodup_append]
        exact ⟨rc.nd, by simp, fun a ha c hc e => hin (by simp at hc; rw [← hc, ← e]; exact ha)⟩
      · intro m hm
        rcases List.mem_append.mp hm with h | h
        · exact rc.sub m h
        · rw [List.mem_singleton.mp h]; exact ⟨hoV, hor⟩
      · intro m hm
        rcases List.mem_append.mp hm with h | h
        · exact rc.sub2 m (by simp [h])
        · exact ⟨net.cl o hoV m h, hor.rs_ (.one h)⟩
      · intro s hs
        rcases rc.beg s hs with h | h
        · exact .inl (List.mem_append_left _ h)
        · rcases List.mem_append.mp h with h | h
          · exact .inr (List.mem_append_left _ h)
          · rw [List.mem_singleton.mp h]; exact .inl (by simp)
      · intro m hm s hs
        rcases List.mem_append.mp hm with hm | hm
        · rcases rc.clo m hm s hs with h | h
          · exact .inl (List.mem_append_left _ h)
          · rcases List.mem_append.mp h with h | h
            · exact .inr (List.mem_append_left _ h)
            · rw [List.mem_singleton.mp h]; exact .inl (by simp)
        · rw [List.mem_singleton.mp hm] at hs
          exact .inr (List.mem_append_right _ hs)
      · simp; omega
  · have e : L = [] := by
      cases L with
      | nil => rfl
      | cons => simp at hcc
    subst e
    refine sm_frz (i := 2) hm rfl (sm_ret (ev_var rfl) ⟨[], ⟨rfl, ms, rfl, rc.nd, fun t => ⟨fun ht => (rc.sub t ht).2, ?_⟩⟩, rfl, (fun x hx => nomatch hx)⟩)
    rintro ⟨s, hs, hst⟩
    have hs2 := (rc.beg s hs).resolve_right (fun z => nomatch z)
    clear hs
    induction hst with
    | refl => exact hs2
    | step h _ ih => exact ih ((rc.clo _ hs2 _ h).resolve_right (fun z => nomatch z))
end
end Sh
set_option Elab.async false
set_option linter.all false
set_option maxRecDepth 100000
set_option maxHeartbeats 4000000
/-! WO: the law's state. -/
namespace Sh
open PySem L2
local macro_rules | `(tactic| walk_at "ev1") => `(tactic| first
  | (with_reducible apply ev_var); rfl
  | with_reducible exact ev_int
  | with_reducible exact ev_str
  | with_reducible exact ev_bl
  | with_reducible exact ev_non
  | with_reducible exact ev_ty
  | with_reducible apply ev_op
  | with_reducible apply ev_cb
  | with_reducible apply ea_cons
  | with_reducible exact ea_nil
  | with_reducible exact rd_I0 rfl
  | with_reducible exact rd_I0b rfl
  | with_reducible apply rd_I rfl
  | with_reducible exact rd_eqI
  | with_reducible exact rd_neI
  | with_reducible exact rd_eqS
  | with_reducible exact rd_neS
  | with_reducible exact rd_isN
  | with_reducible exact rd_notN
  | with_reducible exact rd_fst
  | with_reducible exact rd_snd
  | with_reducible exact rc_lenL
  | with_reducible exact rc_lenT
  | with_reducible apply rc_lenS
  | with_reducible exact rc_intB
  | with_reducible exact rc_min
  | with_reducible exact rc_all
  | with_reducible exact rc_any
  | with_reducible apply ev_slS
  | with_reducible exact eo_none
  | with_reducible apply eo_some
  | with_reducible apply et_test
  | with_reducible apply et_B
  | with_reducible apply et_not
  | with_reducible apply ev_notV
  | (with_reducible apply ev_un); rotate_left; rfl)
local macro_rules | `(tactic| walk_at "ev") => `(tactic| repeat' walk_at "ev1")
section
variable {B : Bs} {b : Bx} {ρ : Ro} {P : Po4} {ts tz : TS}
/-- one behind another, joined -/
theorem sm_seqJ (J : Bx → Ro → Prop) (h : Stm B ts b ρ ⟨J, P.rt, P.bk, P.ct⟩) (k : ∀ b' ρ', J b' ρ' → Stm B tz b' ρ' P) : Stm B (tSeq ts tz) b ρ P := fun σ G H D o n r kk c =>
  h σ G H { D with nx := fun σ' H' => tz D σ' H' } o (fun b1 ρ1 σ1 G1 H1 q1 s o1 => k b1 ρ1 q1 σ1 G1 H1 D o1 (fun b2 ρ2 σ2 G2 H2 q2 s2 => n b2 ρ2 σ2 G2 H2 q2 (s.trans s2)) (fun b2 d2 v2 σ2 ρ2 G2 H2 q2 s2 => r b2 d2 v2 σ2 ρ2 G2 H2 q2 (s.trans s2)) (fun b2 ρ2 σ2 G2 H2 q2 s2 => kk b2 ρ2 σ2 G2 H2 q2 (s.trans s2)) (fun b2 ρ2 σ2 G2 H2 q2 s2 => c b2 ρ2 σ2 G2 H2 q2 (s.trans s2))) r kk c
end
def intsD (cs : List Int) : D := .lst (cs.map .int)
def stK (pg : Addr) (r t s : Int) (cs : List Int) : List (Key × D) := [(Sum.inr "great", .ref pg), (Sum.inr "rest", .int r), (Sum.inr "turn", .int t), (Sum.inr "seed", .int s), (Sum.inr "cells", intsD cs)]
structure StOk (T : Nat) (gs : List Int) (r t s : Int) (cs : List Int) : Prop where
  gp : ∀ x ∈ gs, 0 ≤ x
  gl : gs.length ≤ 900
  r : 0 ≤ r
  t : 0 ≤ t ∧ t ≤ T
  s : 0 ≤ s ∧ s < 2147483647
  cn : cs ≠ []
  cl : cs.length ≤ 900
  cp : ∀ c ∈ cs, 0 ≤ c ∧ c < 2147483629
def StAt (ps pg : Addr) (T : Nat) (mr : List (Addr × M)) : Prop := ps ≠ pg ∧ ∃ gs r t s cs, mr = [(ps, .dK (stK pg r t s cs)), (pg, .lst (gs.map .int))] ∧ StOk T gs r t s cs
def StIn (ps pg : Addr) (T : Nat) (b : Bx) : Prop := ∃ mr, StAt ps pg T mr ∧ ∀ x ∈ mr, x ∈ b.rt
theorem StAt.keys {ps pg : Addr} {T : Nat} {mr : List (Addr × M)} (h : StAt ps pg T mr) : mr.map (·.1) = [ps, pg] := by obtain ⟨_, gs, r, t, s, cs, e, _⟩ := h; rw [e]; rfl
theorem StIn.puts {ps pg : Addr} {T : Nat} {ms' : List (Addr × M)} {b b' : Bx} (h : StAt ps pg T ms') (pu : Puts b ms' b') : StIn ps pg T b' := ⟨ms', h, pu.new⟩
theorem st_great {pg : Addr} {r t s : Int} {cs : List Int} : valD (stK pg r t s cs) (Sum.inr "great") = some (.ref pg) := by rfl
theorem st_rest {pg : Addr} {r t s : Int} {cs : List Int} : valD (stK pg r t s cs) (Sum.inr "rest") = some (.int r) := by rfl
theorem st_turn {pg : Addr} {r t s : Int} {cs : List Int} : valD (stK pg r t s cs) (Sum.inr "turn") = some (.int t) := by rfl
theorem st_seed {pg : Addr} {r t s : Int} {cs : List Int} : valD (stK pg r t s cs) (Sum.inr "seed") = some (.int s) := by rfl
theorem st_cells {pg : Addr} {r t s : Int} {cs : List Int} : valD (stK pg r t s cs) (Sum.inr "cells") = some (intsD cs) := by rfl
theorem st_rest' {pg : Addr} {r t s r' : Int} {cs : List Int} : putD (stK pg r t s cs) (Sum.inr "rest") (.int r') = stK pg r' t s cs := by rfl
theorem st_turn' {pg : Addr} {r t s t' : Int} {cs : List Int} : putD (stK pg r t s cs) (Sum.inr "turn") (.int t') = stK pg r t' s cs := by rfl
theorem st_seed' {pg : Addr} {r t s s' : Int} {cs : List Int} : putD (stK pg r t s cs) (Sum.inr "seed") (.int s') = stK pg r t s' cs := by rfl
section
variable {P : Program} {w : World} {K : PySem.W.Frag} {mg : Str → Option Value} {base : Heap}
/-! _law_take -/
abbrev s_L_take : Stmt := (topS 36)
abbrev N_L_take : List Str := ["_law_state", "_law_many", "_law_found", "_law_turn", "_law_cell", "_law_seed", "_law_mixed"]
theorem sc_L_take : FnScope N_L_take ["_law_state", "_law_many"] (defScope s_L_take) := ⟨rfl, rfl, rfl, by decide +kernel, rfl, by decide +kernel, by decide +kernel⟩
structure GSt where
  ps : Addr
  pg : Addr
  T : Nat
def Pre_take : (GSt × Nat) → List D → List (Addr × M) → Prop := fun (g, n) ds mr => ds = [.ref g.ps, .int (n : Nat)] ∧ StAt g.ps g.pg g.T mr ∧ 1 ≤ n ∧ n ≤ 1000 ∧ g.T ≤ 1000000
def Post_take : (GSt × Nat) → D → List (Addr × M) → Prop := fun (g, n) d mr => StAt g.ps g.pg (g.T + 1) mr ∧ ∃ k : Nat, k < n ∧ d = .int (k : Nat)
theorem ok_L_take {f : Addr} {fd : FuncData} (F : Fun K "_law_take" "_law_take" s_L_take f fd) (T : Bu K w mg) : FnOk P w K mg base CX0 1 f fd ["_law_state", "_law_many"] (MutG false 2 Pre_take Post_take) := by
  refine F.ok sc_L_take (fun vs H Q E h => h.1) (fun cdv A outer s H vs Q E hr h => ?_)
  have nd := sc_L_take.nd
  have hu := hu_of hr
  have hu0 := hr.units0
  refine ⟨_, (pss_cons (ps_if (PW.pt (pw_and (pt_cmpR op_eq (pe_dget hu (pv 0) pe_str (fun _ _ => rfl)) pe_int (nomark _)) (pw_and1 (pt_cmpR (op_neNil hu0) (pe_dget hu (pv 0) pe_str (fun _ _ => rfl)) (pe_lst pa_nil) (nomark _))))) (pss_one (ps_dput hu (pv 0) pe_str (pe_bm PySem.F.plainAttrs_list PySem.F.slot_list_pop PySem.F.type_list_pop mt_popAt (pe_dget hu (pv 0) pe_str (fun _ _ => rfl)) (pa_cons pe_int pa_nil)) rfl)) pss_nil)
  (pss_cons (ps_if (pt_cmpR op_gt (pe_dget hu (pv 0) pe_str (fun _ _ => rfl)) pe_int (nomark _)) (pss_cons (ps_set (i := 2) nd rfl (Or.inl rfl) (pe_op op_mod (pe_dget hu (pv 0) pe_str (fun _ _ => rfl)) (pv 1)))
  (pss_cons (ps_dput hu (pv 0) pe_str (pe_op op_fdiv (pe_dget hu (pv 0) pe_str (fun _ _ => rfl)) (pv 1)) rfl)
  (pss_one (ps_ret (pv 2))))) pss_nil)
  (pss_cons (ps_set (i := 3) nd rfl (Or.inl rfl) (pe_dget hu (pv 0) pe_str (fun _ _ => rfl)))
  (pss_cons (ps_dput hu (pv 0) pe_str (pe_op op_add (pv 3) pe_int) rfl)
  (pss_cons (ps_set (i := 4) nd rfl (Or.inl rfl) (pe_ix ix_list (pe_dget hu (pv 0) pe_str (fun _ _ => rfl)) (pe_op op_mod (pv 3) (pe_callB call_len_seq (by rfl) T.n_len (by decide +kernel) (pa_cons (pe_dget hu (pv 0) pe_str (fun _ _ => rfl)) pa_nil))) (fun _ _ => rfl)))
  (pss_cons (ps_set (i := 5) nd rfl (Or.inl rfl) (pe_op op_mod (pe_op op_add (pe_op op_add (pe_op op_mul (pe_dget hu (pv 0) pe_str (fun _ _ => rfl)) pe_int) (pe_op op_mul (pv 4) (pe_op op_add (pe_op op_mul pe_int (pv 3)) pe_int))) (pe_op op_pow (pv 3) pe_int)) pe_int))
  (pss_cons (ps_dput hu (pv 0) pe_str (pv 5) rfl)
  (pss_cons (ps_set (i := 6) nd rfl (Or.inl rfl) (pe_op op_add (pe_op op_mul (pe_op op_mod (pe_op op_pow (pv 5) pe_int) pe_int) pe_int) (pe_op op_mod (pe_op op_pow (pv 5) pe_int) pe_int)))
  (pss_one (ps_ret (pe_op op_mod (pe_op op_fdiv (pv 6) pe_int) (pv 1)))))))))))), ?_⟩
  refine body_okG h fun gh ds mr hn hP B => ?_
  obtain ⟨⟨ps, pg, T⟩, n⟩ := gh
  obtain ⟨rfl, ⟨hne, gs, r, t, s, cs, rfl, st⟩, h1, h2, hT⟩ := (show ds = [.ref ps, .int (n : Nat)] ∧ StAt ps pg T mr ∧ 1 ≤ n ∧ n ≤ 1000 ∧ T ≤ 1000000 from hP)
  refine sm_seqJ (fun b ρ => ∃ gs r, StOk T gs r t s cs ∧ (ps, M.dK (stK pg r t s cs)) ∈ b.rt ∧ (pg, M.lst (gs.map .int)) ∈ b.rt ∧ ρ = [some (.ref ps), some (.int (n : Nat)), none, none, none, none, none]) (sm_last (sm_if (cc := decide (r = 0) && !gs.isEmpty) ?t1 (fun hc => ?a1) fun hc => ?a2)) ?k1
  case t1 =>
    refine et_and (c1 := decide (r = 0)) (c2 := !gs.isEmpty) (et_test (ev_op (ev_dgetKR (k := Sum.inr "rest") (ev_var rfl) ev_str List.mem_cons_self st_rest) ev_int rd_eqI)) fun _ => EvT.is (et_test (ev_op (ev_dgetKR (k := Sum.inr "great") (ev_var rfl) ev_str List.mem_cons_self st_great) (EvN.ev (evn_lst ea_nil (by decide))) (rd_nilR (p := pg) (ds := gs.map .int) (List.mem_cons_of_mem _ List.mem_cons_self)))) (by simp)
  case a2 => exact sm_unit (sm_next ⟨gs, r, st, List.mem_cons_self, List.mem_cons_of_mem _ List.mem_cons_self, rfl⟩)
  case a1 =>
    cases gs with
    | nil => simp at hc
    | cons x gs =>
      refine sm_dputK (k := Sum.inr "rest") (P1 := fun b' d' => b' = Bx.put ⟨false, [(ps, .dK (stK pg r t s cs)), (pg, .lst ((x :: gs).map .int))]⟩ pg (.lst (gs.map .int)) ∧ d' = .int x) (ex_pop0 (es := gs.map .int) (ev_dgetKR (k := Sum.inr "great") (ev_var rfl) ev_str List.mem_cons_self st_great) (List.mem_cons_of_mem _ List.mem_cons_self) (ea_cons ev_int ea_nil) (by have := st.gl; simp at this ⊢; omega) ⟨rfl, rfl⟩) fun b' x' ⟨e1, e2⟩ => ?_
      subst e1 e2
      have m1 : (ps, M.dK (stK pg r t s cs)) ∈ (Bx.put ⟨false, [(ps, .dK (stK pg r t s cs)), (pg, .lst ((x :: gs).map .int))]⟩ pg (.lst (gs.map .int))).rt := mem_put_ne List.mem_cons_self hne
      have m2 : (pg, M.lst (gs.map .int)) ∈ (Bx.put ⟨false, [(ps, .dK (stK pg r t s cs)), (pg, .lst ((x :: gs).map .int))]⟩ pg (.lst (gs.map .int))).rt := mem_put (m := .lst ((x :: gs).map .int)) (List.mem_cons_of_mem _ List.mem_cons_self)
      generalize Bx.put ⟨false, [(ps, .dK (stK pg r t s cs)), (pg, .lst ((x :: gs).map .int))]⟩ pg (.lst (gs.map .int)) = b1 at m1 m2 ⊢
      refine ⟨ps, _, ev_var rfl, ev_str, m1, by simp [stK], sm_next ⟨gs, x, ⟨fun y hy => st.gp y (List.mem_cons_of_mem _ hy), by have := st.gl; simp at this; omega, st.gp x List.mem_cons_self, st.t, st.s, st.cn, st.cl, st.cp⟩, ?_, mem_put_ne m2 (fun e => hne e.symm), rfl⟩⟩
      rw [st_rest']
      exact mem_put m1
  case k1 =>
    rintro b ρ ⟨gs, r, st, m1, m2, rfl⟩
    refine sm_if (cc := decide (0 < r)) (et_test (ev_op (ev_dgetKR (k := Sum.inr "rest") (ev_var rfl) ev_str m1 st_rest) ev_int (rd_I0b rfl))) (fun hc => ?_) fun hc => sm_unit ?_
    · have hn0 : (0 : Int) < (n : Nat) := by omega
      have hr0 := Int.emod_nonneg r (by omega : ((n : Nat) : Int) ≠ 0)
      have hr1 := Int.emod_lt_of_pos r hn0
      refine sm_assoc (sm_set (d := .int (r % (n : Nat))) (ev_op (ev_dgetKR (k := Sum.inr "rest") (ev_var rfl) ev_str m1 st_rest) (ev_var rfl) (rd_I rfl hn0)) ?_)
      refine sm_assoc (sm_dputK (k := Sum.inr "rest") (P1 := fun b' d' => b' = b ∧ d' = .int (r / (n : Nat))) (ex_pure (ev_op (ev_dgetKR (k := Sum.inr "rest") (ev_var rfl) ev_str m1 st_rest) (ev_var rfl) (rd_I rfl ⟨hn0, by omega⟩)) ⟨rfl, rfl⟩) fun b' x' ⟨e1, e2⟩ => ?_)
      subst e1 e2
      refine ⟨ps, _, ev_var rfl, ev_str, m1, by simp [stK], ?_⟩
      rw [st_rest']
      refine sm_retS (sm_ret (ev_var rfl) ⟨[(ps, .dK (stK pg (r / (n : Nat)) t s cs)), (pg, .lst (gs.map .int))], ⟨⟨hne, gs, _, t, s, cs, rfl, ⟨st.gp, st.gl, Int.ediv_nonneg st.r (by omega), ⟨st.t.1, by have := st.t.2; show t ≤ ((T + 1 : Nat) : Int); omega⟩, st.s, st.cn, st.cl, st.cp⟩⟩, (r % (n : Nat)).toNat, by omega, ?_⟩, rfl, fun x hx => ?_⟩)
      · rw [Int.toNat_of_nonneg hr0]
      · rcases List.mem_cons.mp hx with rfl | hx
        · exact mem_put m1
        · rw [List.mem_singleton.mp hx]
          exact mem_put_ne m2 (fun e => hne e.symm)
    · have ht := st.t
      have hcl : 0 < cs.length := List.length_pos_iff.mpr st.cn
      refine sm_set (d := .int t) (ev_dgetKR (k := Sum.inr "turn") (ev_var rfl) ev_str m1 st_turn) ?_
      refine sm_dputK (k := Sum.inr "turn") (P1 := fun b' d' => b' = b ∧ d' = .int (t + 1)) (ex_pure (ev_op (ev_var rfl) ev_int (rd_I0 rfl)) ⟨rfl, rfl⟩) fun b' x' ⟨e1, e2⟩ => ?_
      subst e1 e2
      refine ⟨ps, _, ev_var rfl, ev_str, m1, by simp [stK], ?_⟩
      rw [st_turn']
      have n1 := mem_put (m' := .dK (stK pg r (t + 1) s cs)) m1
      have n2 := mem_put_ne (m' := .dK (stK pg r (t + 1) s cs)) m2 (fun e => hne e.symm)
      generalize b'.put ps (.dK (stK pg r (t + 1) s cs)) = b1 at n1 n2 ⊢
      have hi0 := Int.emod_nonneg t (by omega : ((cs.length : Nat) : Int) ≠ 0)
      have hi1 := Int.emod_lt_of_pos t (by omega : (0 : Int) < ((cs.length : Nat) : Int))
      obtain ⟨i, hi⟩ : ∃ i : Nat, t % ((cs.length : Nat) : Int) = (i : Int) := ⟨(t % ((cs.length : Nat) : Int)).toNat, (Int.toNat_of_nonneg hi0).symm⟩
      have hil : i < cs.length := by omega
      have hc := st.cp _ (List.getElem_mem hil)
      refine sm_set (d := .int cs[i]) (ev_op (ev_dgetKR (k := Sum.inr "cells") (ev_var rfl) ev_str n1 st_cells) (ev_op (ev_var rfl) (Ev.is (ev_cb (ea_cons (ev_dgetKR (k := Sum.inr "cells") (ev_var rfl) ev_str n1 st_cells) ea_nil) rc_lenQ) (by rw [List.length_map])) (rd_I (k := i) (by rw [hi]) (by omega))) (rd_ixL (atI_nat (by rw [List.getElem?_map, List.getElem?_eq_getElem hil]; rfl)))) ?_
      generalize cs[i] = c at hc ⊢
      have hs := st.s
      have sq : ∀ z : Int, 0 ≤ z ∧ z < 2147483647 → 0 ≤ z % 2147483629 ∧ z % 2147483629 < 2147483629 := fun z _ => ⟨Int.emod_nonneg _ (by decide), Int.emod_lt_of_pos _ (by decide)⟩
      refine sm_set (d := .int ((s * 48271 + c * (2 * t + 3) + t ^ 3) % 2147483647)) (ev_op (ev_op (ev_op (ev_op (ev_dgetKR (k := Sum.inr "seed") (ev_var rfl) ev_str n1 st_seed) ev_int (rd_I rfl (.inl (by omega)))) (ev_op (ev_var rfl) (ev_op (ev_op ev_int (ev_var rfl) (rd_I rfl (.inl (by decide)))) ev_int (rd_I0 rfl)) (rd_I rfl (.inl (by omega)))) (rd_I0 rfl)) (ev_op (ev_var rfl) ev_int (rd_I rfl ⟨by decide, by decide, by omega⟩)) (rd_I0 rfl)) ev_int (rd_I rfl (by decide))) ?_
      have hs1 : 0 ≤ (s * 48271 + c * (2 * t + 3) + t ^ 3) % 2147483647 ∧ (s * 48271 + c * (2 * t + 3) + t ^ 3) % 2147483647 < 2147483647 := ⟨Int.emod_nonneg _ (by decide), Int.emod_lt_of_pos _ (by decide)⟩
      generalize (s * 48271 + c * (2 * t + 3) + t ^ 3) % 2147483647 = z at hs1 ⊢
      refine sm_dputK (k := Sum.inr "seed") (P1 := fun b' d' => b' = b1 ∧ d' = .int z) (ex_pure (ev_var rfl) ⟨rfl, rfl⟩) fun b' x' ⟨e1, e2⟩ => ?_
      subst e1 e2
      refine ⟨ps, _, ev_var rfl, ev_str, n1, by simp [stK], ?_⟩
      rw [st_seed']
      refine sm_set (d := .int (z ^ 2 % 2147483629 * 2147483587 + z ^ 3 % 2147483579)) (ev_op (ev_op (ev_op (ev_op (ev_var rfl) ev_int (rd_I rfl ⟨by decide, by decide, by omega⟩)) ev_int (rd_I rfl (by decide))) ev_int (rd_I rfl (.inr (by decide)))) (ev_op (ev_op (ev_var rfl) ev_int (rd_I rfl ⟨by decide, by decide, by omega⟩)) ev_int (rd_I rfl (by decide))) (rd_I0 rfl)) ?_
      generalize z ^ 2 % 2147483629 * 2147483587 + z ^ 3 % 2147483579 = y
      have hr0 := Int.emod_nonneg (y / 7) (by omega : ((n : Nat) : Int) ≠ 0)
      have hr1 := Int.emod_lt_of_pos (y / 7) (by omega : (0 : Int) < ((n : Nat) : Int))
      refine sm_ret (ev_op (ev_op (ev_var rfl) ev_int (rd_I rfl ⟨by decide, by decide⟩)) (ev_var rfl) (rd_I rfl (by omega))) ⟨[(ps, .dK (stK pg r (t + 1) z cs)), (pg, .lst (gs.map .int))], ⟨⟨hne, gs, r, t + 1, z, cs, rfl, ⟨st.gp, st.gl, st.r, ⟨by omega, by show t + 1 ≤ ((T + 1 : Nat) : Int); omega⟩, hs1, st.cn, st.cl, st.cp⟩⟩, (y / 7 % (n : Nat)).toNat, by omega, ?_⟩, rfl, fun x hx => ?_⟩
      · rw [Int.toNat_of_nonneg hr0]
      · rcases List.mem_cons.mp hx with rfl | hx
        · exact mem_put n1
        · rw [List.mem_singleton.mp hx]
          exact mem_put_ne n2 (fun e => hne e.symm)
end
end Sh
set_option Elab.async false
set_option linter.all false
set_option maxRecDepth 100000
set_option maxHeartbeats 4000000
/-! WP: picks, signs, walks. -/
namespace Sh
open PySem L2
local macro_rules | `(tactic| walk_at "ev1") => `(tactic| first
  | (with_reducible apply ev_var); rfl
  | with_reducible exact ev_int
  | with_reducible exact ev_str
  | with_reducible exact ev_bl
  | with_reducible exact ev_non
  | with_reducible exact ev_ty
  | with_reducible apply ev_op
  | with_reducible apply ev_cb
  | with_reducible apply ea_cons
  | with_reducible exact ea_nil
  | with_reducible exact rd_I0 rfl
  | with_reducible exact rd_I0b rfl
  | with_reducible apply rd_I rfl
  | with_reducible exact rd_eqI
  | with_reducible exact rd_neI
  | with_reducible exact rd_eqS
  | with_reducible exact rd_neS
  | with_reducible exact rd_isN
  | with_reducible exact rd_notN
  | with_reducible exact rd_fst
  | with_reducible exact rd_snd
  | with_reducible exact rc_lenL
  | with_reducible exact rc_lenT
  | with_reducible apply rc_lenS
  | with_reducible exact rc_intB
  | with_reducible exact rc_min
  | with_reducible exact rc_all
  | with_reducible exact rc_any
  | with_reducible apply ev_slS
  | with_reducible exact eo_none
  | with_reducible apply eo_some
  | with_reducible apply et_test
  | with_reducible apply et_B
  | with_reducible apply et_not
  | with_reducible apply ev_notV
  | (with_reducible apply ev_un); rotate_left; rfl)
local macro_rules | `(tactic| walk_at "ev") => `(tactic| repeat' walk_at "ev1")
theorem chars_len (z : Str) : (chars z).length = z.length := by simp [chars, PySem.Str.length]
def Some (d : D) (els : List D) : Prop := d = .lst els ∨ ∃ z : Str, d = .str z ∧ els = (chars z).map .str
theorem rc_lenV {b : Bx} {K : PySem.W.Frag} {d : D} {els : List D} (h : Some d els) (hl : els.length ≤ 1000) : RC b (fun xs H Q => ∃ x n, xs = [x] ∧ LenV K x H n ∧ Q (.int n) H) [d] (.int els.length) := fun G H us l s r Q q => by
  obtain ⟨v, rfl, r1⟩ := r.one'
  rcases h with rfl | ⟨z, rfl, rfl⟩
  · obtain ⟨a, xs, rfl, h2, h3⟩ := r1
    exact ⟨_, xs.length, rfl, .inl ⟨xs, SqL.of (s _ _ h2), rfl⟩, by rw [← h3.length]; exact q _ H G (.refl s) rfl⟩
  · cases (show v = V.str z from r1)
    rw [List.length_map, chars_len] at hl
    exact ⟨_, z.length, rfl, ⟨sizeOk hl, rfl⟩, q _ H G (.refl s) (by rw [List.length_map, chars_len]; rfl)⟩
theorem rd_some {b : Bx} {K : PySem.W.Frag} {d x : D} {els : List D} {i : Nat} (h : Some d els) (hl : els.length ≤ 1000) (e : els[i]? = some x) : RD b (rIx K) d (.int (i : Nat)) x := by
  rcases h with rfl | ⟨z, rfl, rfl⟩
  · exact rd_ixQL (atI_nat e)
  · rw [List.length_map, chars_len] at hl
    unfold chars at e
    rw [List.map_map, List.getElem?_map] at e
    cases hc : z.cps.toList[i]? with
    | none => rw [hc] at e; cases e
    | some c =>
      rw [hc] at e
      cases e
      exact rd_ixQS (sizeOk hl) (atI_nat hc)
section
variable {P : Program} {w : World} {K : PySem.W.Frag} {mg : Str → Option Value} {base : Heap}
/-! _law_pick -/
abbrev s_L_pick : Stmt := (topS 37)
abbrev N_L_pick : List Str := ["_law_state", "_law_some"]
theorem sc_L_pick : FnScope N_L_pick ["_law_state", "_law_some"] (defScope s_L_pick) := ⟨rfl, rfl, rfl, by decide +kernel, rfl, by decide +kernel, by decide +kernel⟩
def Pre_pick : (GSt × D × List D) → List D → List (Addr × M) → Prop := fun (g, s, els) ds mr => ds = [.ref g.ps, s] ∧ StAt g.ps g.pg g.T mr ∧ Some s els ∧ 1 ≤ els.length ∧ els.length ≤ 1000 ∧ g.T ≤ 1000000
def Post_pick : (GSt × D × List D) → D → List (Addr × M) → Prop := fun (g, s, els) d mr => StAt g.ps g.pg (g.T + 1) mr ∧ d ∈ els
theorem ok_L_pick {f : Addr} {fd : FuncData} (F : Fun K "_law_pick" "_law_pick" s_L_pick f fd) (T : Bu K w mg) (F_L_take : Fn P w K mg base 1 "_law_take" ["_law_state", "_law_many"] (MutG false 2 Pre_take Post_take)) : FnOk P w K mg base CX0 2 f fd ["_law_state", "_law_some"] (MutG false 2 Pre_pick Post_pick) := by
  refine F.ok sc_L_pick (fun vs H Q E h => h.1) (fun cdv A outer s H vs Q E hr h => ?_)
  have nd := sc_L_pick.nd
  refine ⟨_, (pss_one (ps_ret (pe_ix ix_seq (pv 1) (pe_fn F_L_take (hr.mono (by decide)) rfl (pa_cons (pv 0) (pa_cons (pe_callB call_len (by rfl) T.n_len (by decide +kernel) (pa_cons (pv 1) pa_nil)) pa_nil))) (fun _ _ => rfl)))), ?_⟩
  refine body_okG h fun gh ds mr hn hP B => ?_
  obtain ⟨⟨ps, pg, T⟩, sm, els⟩ := gh
  obtain ⟨rfl, hst, hs, h1, h2, hT⟩ := (show ds = [.ref ps, sm] ∧ StAt ps pg T mr ∧ Some sm els ∧ 1 ≤ els.length ∧ els.length ≤ 1000 ∧ T ≤ 1000000 from hP)
  refine sm_retX (ex_opR (x := sm) (ev_var rfl) (EvX.mono (ex_callG (P := fun b' d => (∃ mr', StAt ps pg (T + 1) mr' ∧ ∀ x ∈ mr', x ∈ b'.rt) ∧ ∃ k : Nat, k < els.length ∧ d = .int (k : Nat)) (P1 := fun b' ds => b' = ⟨false, mr⟩ ∧ ds = [.ref ps, .int (els.length : Nat)]) (xa_pure (ea_cons (ev_var rfl) (ea_cons (ev_cb (ea_cons (ev_var rfl) ea_nil) (rc_lenV hs h2)) ea_nil)) ⟨rfl, rfl⟩) ?m) ?k))
  case m =>
    rintro b' ds ⟨rfl, rfl⟩
    exact ⟨rfl, (⟨ps, pg, T⟩, els.length), mr, (fun x hx => hx), ⟨rfl, hst, h1, h2, hT⟩, (fun z => by cases z), fun d ms' b'' hp ek pu => ⟨⟨ms', hp.1, pu.new⟩, hp.2⟩⟩
  case k =>
    rintro b' d ⟨⟨mr', hst', hin⟩, k, hk, rfl⟩
    exact ⟨els[k], rd_some hs h2 (List.getElem?_eq_getElem hk), mr', ⟨hst', List.getElem_mem hk⟩, by rw [hst'.keys, hst.keys], hin⟩
end
end Sh
set_option Elab.async false
set_option linter.all false
set_option maxRecDepth 100000
/-! Me: texts as lists of signs. -/
namespace Sh
open PySem L2
def cl (z : Str) : List Nat := z.cps.toList
theorem cl_len (z : Str) : (cl z).length = z.length := by simp [cl, PySem.Str.length]
theorem cl_inj {a c : Str} (h : cl a = cl c) : a = c := by
  obtain ⟨⟨x⟩⟩ := a
  obtain ⟨⟨y⟩⟩ := c
  cases h
  rfl
theorem chars_cl (z : Str) : chars z = (cl z).map fun c => ⟨#[c]⟩ := rfl
theorem cl_app (a c : Str) : cl (a ++ c) = cl a ++ cl c := by
  show (a ++ c).cps.toList = _
  exact Array.toList_append
theorem cl_cut (z : Str) (lo hi : Option Int) : cl (cutS z lo hi) = (cl z |>.drop (HT.sIx z.length 0 lo)).take (HT.sIx z.length z.length hi - HT.sIx z.length 0 lo) := rfl
theorem cl_sjoin : ∀ ys : List Str, cl (Str.join "" ys) = (ys.map cl).flatten
  | [] => rfl
  | [y] => by simp [Str.join]
  | x :: z :: r => by
    have e : Str.join "" (x :: z :: r) = x ++ "" ++ Str.join "" (z :: r) := rfl
    rw [e, cl_app, cl_app, cl_sjoin (z :: r)]
    have e2 : cl "" = [] := rfl
    rw [e2, List.append_nil]
    rfl
theorem cl_join (ys : List Str) : cl (Txt.join "" ys) = (ys.map cl).flatten := by rw [TL.join_eq, cl_sjoin]
end Sh
set_option Elab.async false
set_option linter.all false
/-! Mg: lots, their order, papers by lots, plain. -/
namespace Sh
section
variable {α : Type} [DecidableEq α] {S : α → List α} {V vs : List α} {Ls A B : List (List α)} {l : List α} {x h : α}
/-- lots, built over a beginning -/
structure LotI (S : α → List α) (vs : List α) (Ls : List (List α)) : Prop where
  perm : Ls.flatten.Perm vs
  ne : ∀ l ∈ Ls, l ≠ []
  same : ∀ l ∈ Ls, ∀ a ∈ l, ∀ b ∈ l, Rs S a b
  apart : Ls.Pairwise fun l m => ∀ a ∈ l, ∀ b ∈ m, ¬ (Rs S a b ∧ Rs S b a)
theorem LotI.nil : LotI S [] [] := ⟨.refl _, (fun _ h => nomatch h), (fun _ h => nomatch h), .nil⟩
theorem LotI.new (L : LotI S vs Ls) (hx : ∀ l ∈ Ls, ∀ a ∈ l, ¬ (Rs S a x ∧ Rs S x a)) : LotI S (vs ++ [x]) (Ls ++ [[x]]) := by
  refine ⟨?_, fun l hl => ?_, fun l hl a ha b hb => ?_, ?_⟩
  · rw [List.flatten_append]
    exact L.perm.append (by simp)
  · rcases List.mem_append.mp hl with h | h
    · exact L.ne l h
    · rw [List.mem_singleton.mp h]; simp
  · rcases List.mem_append.mp hl with h | h
    · exact L.same l h a ha b hb
    · rw [List.mem_singleton.mp h] at ha hb
      rw [List.mem_singleton.mp ha, List.mem_singleton.mp hb]
      exact .refl _
  · rw [List.pairwise_append]
    refine ⟨L.apart, by simp, fun l hl m hm a ha b hb => ?_⟩
    rw [List.mem_singleton.mp hm] at hb
    rw [List.mem_singleton.mp hb]
    exact hx l hl a ha
theorem LotI.add (L : LotI S vs (A ++ (h :: l) :: B)) (h1 : Rs S h x) (h2 : Rs S x h) : LotI S (vs ++ [x]) (A ++ (h :: (l ++ [x])) :: B) := by
  have hin : (h :: l) ∈ A ++ (h :: l) :: B := by simp
  have old : ∀ a ∈ h :: (l ++ [x]), ∃ c ∈ h :: l, Rs S a c ∧ Rs S c a := fun a ha => by
    rw [← List.cons_append] at ha
    rcases List.mem_append.mp ha with h | h
    · exact ⟨a, h, .refl _, .refl _⟩
    · rw [List.mem_singleton.mp h]; exact ⟨_, List.mem_cons_self, h2, h1⟩
  refine ⟨?_, fun m hm => ?_, fun m hm a ha b hb => ?_, ?_⟩
  · have e1 : (A ++ (h :: (l ++ [x])) :: B).flatten = (A.flatten ++ (h :: l)) ++ ([x] ++ B.flatten) := by simp
    have e2 : (A ++ (h :: l) :: B).flatten = (A.flatten ++ (h :: l)) ++ B.flatten := by simp
    have p := L.perm
    rw [e2] at p
    rw [e1]
    refine .trans ?_ (p.append_right [x])
    rw [List.append_assoc _ B.flatten]
    exact List.Perm.append_left _ List.perm_append_comm
  · rcases List.mem_append.mp hm with h | h
    · exact L.ne m (List.mem_append_left _ h)
    · rcases List.mem_cons.mp h with rfl | h
      · simp
      · exact L.ne m (by simp [h])
  · have : (m ∈ A ++ (h :: l) :: B) ∨ m = h :: (l ++ [x]) := by
      rcases List.mem_append.mp hm with h | h
      · exact .inl (List.mem_append_left _ h)
      · rcases List.mem_cons.mp h with rfl | h
        · exact .inr rfl
        · exact .inl (by simp [h])
    rcases this with hm | rfl
    · exact L.same m hm a ha b hb
    · obtain ⟨c, hc, ac, _⟩ := old a ha
      obtain ⟨d, hd, _, bd⟩ := old b hb
      exact (ac.trans (L.same _ hin c hc d hd)).trans bd
  · have p := L.apart
    rw [List.pairwise_append, List.pairwise_cons] at p ⊢
    obtain ⟨p1, ⟨p2, p3⟩, p4⟩ := p
    refine ⟨p1, ⟨fun m hm a ha b hb => ?_, p3⟩, fun k hk m hm a ha b hb => ?_⟩
    · obtain ⟨c, hc, ac, ca⟩ := old a ha
      exact fun ⟨q1, q2⟩ => p2 m hm c hc b hb ⟨ca.trans q1, q2.trans ac⟩
    · rcases List.mem_cons.mp hm with rfl | hm
      · obtain ⟨c, hc, bc, cb⟩ := old b hb
        exact fun ⟨q1, q2⟩ => p4 k hk (h :: l) List.mem_cons_self a ha c hc ⟨q1.trans bc, cb.trans q2⟩
      · exact p4 k hk m (List.mem_cons_of_mem _ hm) a ha b hb
/-- how many lead to a lot from without -/
def rankL (V : List α) (R : α → List α) (l : List α) : Nat := (V.filter fun a => (l.head?.any fun h => decide (h ∈ R a)) && !decide (a ∈ l)).length
/-- lots in order -/
structure Lots (V : List α) (S : α → List α) (Ms : List (List α)) : Prop extends LotI S V Ms where
  up : Ms.Pairwise fun l m => ∀ a ∈ l, ∀ b ∈ m, ¬ Rs S b a
theorem filter_lt {p q : α → Bool} {l : List α} (h : ∀ a ∈ l, p a = true → q a = true) (hx : x ∈ l) (h1 : p x = false) (h2 : q x = true) : (l.filter p).length < (l.filter q).length := by
  induction l with
  | nil => cases hx
  | cons a l ih =>
    have le : (l.filter p).length ≤ (l.filter q).length := by
      clear ih hx
      induction l with
      | nil => exact Nat.le_refl _
      | cons c l ih =>
        have := ih fun a ha => h a (by
          rcases List.mem_cons.mp ha with rfl | ha
          · exact List.mem_cons_self
          · exact List.mem_cons_of_mem _ (List.mem_cons_of_mem _ ha))
        rw [List.filter_cons, List.filter_cons]
        by_cases c1 : p c = true
        · rw [if_pos c1, if_pos (h c (by simp) c1)]; simp only [List.length_cons]; omega
        · rw [if_neg c1]; split <;> (try simp only [List.length_cons]) <;> omega
    rcases List.mem_cons.mp hx with rfl | hx
    · rw [List.filter_cons, List.filter_cons, if_neg (by simp [h1]), if_pos h2]; simp only [List.length_cons]; omega
    · have := ih (fun a ha => h a (List.mem_cons_of_mem _ ha)) hx
      rw [List.filter_cons, List.filter_cons]
      by_cases c1 : p a = true
      · rw [if_pos c1, if_pos (h a List.mem_cons_self c1)]; simp only [List.length_cons]; omega
      · rw [if_neg c1]; split <;> (try simp only [List.length_cons]) <;> omega
section
variable {R : α → List α}
/-- a lot that another leads to has the higher rank -/
theorem rank_lt (nd : V.Nodup) (hR : ∀ a ∈ V, ∀ b, b ∈ R a ↔ Rp S a b) (L : LotI S V Ls) {l m : List α} (hl : l ∈ Ls) (hm : m ∈ Ls) {a b : α} (ha : a ∈ l) (hb : b ∈ m) (h : Rs S b a) (hn : ¬ Rs S a b) : rankL V R m < rankL V R l := by
  have sub : ∀ l ∈ Ls, ∀ a ∈ l, a ∈ V := fun l hl a ha => L.perm.mem_iff.mp (List.mem_flatten.mpr ⟨l, hl, ha⟩)
  cases l with
  | nil => cases ha
  | cons l0 l =>
    cases m with
    | nil => cases hb
    | cons m0 m =>
      have la := L.same _ hl l0 List.mem_cons_self a ha
      have al := L.same _ hl a ha l0 List.mem_cons_self
      have mb := L.same _ hm m0 List.mem_cons_self b hb
      have bm := L.same _ hm b hb m0 List.mem_cons_self
      have hbl : b ∉ l0 :: l := fun z => hn (L.same _ hl a ha b z)
      unfold rankL
      refine filter_lt (x := b) (fun c hc e => ?_) (sub _ hm b hb) ?_ ?_
      · simp only [List.head?_cons, Option.any_some, Bool.and_eq_true, decide_eq_true_eq, Bool.not_eq_true', decide_eq_false_iff_not] at e ⊢
        have r := (hR c hc m0).mp e.1
        refine ⟨(hR c hc l0).mpr (r.rs_ ((mb.trans h).trans al)), fun z => ?_⟩
        exact hn ((L.same _ hl a ha c z).trans (r.rs.trans mb))
      · simp [hb]
      · simp only [List.head?_cons, Option.any_some, Bool.and_eq_true, decide_eq_true_eq, Bool.not_eq_true', decide_eq_false_iff_not]
        refine ⟨(hR b (sub _ hm b hb) l0).mpr ?_, hbl⟩
        have h' := h.trans al
        cases h' with
        | refl => exact absurd List.mem_cons_self hbl
        | step s1 s2 => exact ⟨_, s1, s2⟩
theorem LotI.perm' {Ms : List (List α)} (L : LotI S V Ls) (p : Ms.Perm Ls) : LotI S V Ms := by
  refine ⟨p.flatten.trans L.perm, fun l hl => L.ne l (p.mem_iff.mp hl), fun l hl => L.same l (p.mem_iff.mp hl), ?_⟩
  refine (p.pairwise_iff ?_).mpr L.apart
  intro l m h a ha b hb ⟨q1, q2⟩
  exact h b hb a ha ⟨q2, q1⟩
/-- in order of ranks -/
theorem lots_of {Ms : List (List α)} (nd : V.Nodup) (hR : ∀ a ∈ V, ∀ b, b ∈ R a ↔ Rp S a b) (L : LotI S V Ls) (p : Ms.Perm Ls) (ord : Ms.Pairwise fun l m => rankL V R l ≤ rankL V R m) : Lots V S Ms := by
  have L' := L.perm' p
  refine ⟨L', ?_⟩
  have both := List.Pairwise.and L'.apart ord
  refine List.Pairwise.imp_of_mem ?_ both
  intro l m hl hm h a ha b hb z
  have hn : ¬ Rs S a b := fun q => h.1 a ha b hb ⟨q, z⟩
  have := rank_lt nd hR L (p.mem_iff.mp hl) (p.mem_iff.mp hm) ha hb z hn
  omega
end
/-- the place of the lot that has a -/
def ixOf (Ms : List (List α)) (a : α) : Nat := Ms.findIdx fun l => decide (a ∈ l)
theorem ix_lt {Ms : List (List α)} (L : Lots V S Ms) {a : α} (ha : a ∈ V) : ixOf Ms a < Ms.length ∧ ∃ l, Ms[ixOf Ms a]? = some l ∧ a ∈ l := by
  have : a ∈ Ms.flatten := L.perm.mem_iff.mpr ha
  obtain ⟨l, hl, hal⟩ := List.mem_flatten.mp this
  have lt : Ms.findIdx (fun l => decide (a ∈ l)) < Ms.length := List.findIdx_lt_length_of_exists ⟨l, hl, by simpa using hal⟩
  refine ⟨lt, Ms[ixOf Ms a]'lt, List.getElem?_eq_getElem _, ?_⟩
  have := List.findIdx_getElem (w := lt)
  exact of_decide_eq_true this
theorem ix_is {Ms : List (List α)} (L : Lots V S Ms) {a : α} {i : Nat} {l : List α} (h : Ms[i]? = some l) (ha : a ∈ l) : ixOf Ms a = i := by
  have hi : i < Ms.length := (List.getElem?_eq_some_iff.mp h).1
  have aV : a ∈ V := L.perm.mem_iff.mp (List.mem_flatten.mpr ⟨l, List.mem_of_getElem? h, ha⟩)
  obtain ⟨hj, m, h2, ham⟩ := ix_lt L aV
  have e1 := (List.getElem?_eq_some_iff.mp h).2
  have e2 := (List.getElem?_eq_some_iff.mp h2).2
  have ap := List.pairwise_iff_getElem.mp L.apart
  rcases Nat.lt_trichotomy (ixOf Ms a) i with c | c | c
  · exact absurd ⟨.refl a, .refl a⟩ (ap _ _ hj hi c a (by rw [e2]; exact ham) a (by rw [e1]; exact ha))
  · exact c
  · exact absurd ⟨.refl a, .refl a⟩ (ap _ _ hi hj c a (by rw [e1]; exact ha) a (by rw [e2]; exact ham))
theorem ix_eq {Ms : List (List α)} (L : Lots V S Ms) {a b : α} (ha : a ∈ V) (hb : b ∈ V) : ixOf Ms a = ixOf Ms b ↔ Rs S a b ∧ Rs S b a := by
  obtain ⟨h1, l, e1, al⟩ := ix_lt L ha
  obtain ⟨h2, m, e2, bm⟩ := ix_lt L hb
  constructor
  · intro e
    rw [← e, e1] at e2
    cases e2
    have := L.same l (List.mem_of_getElem? e1)
    exact ⟨this a al b bm, this b bm a al⟩
  · intro q
    have ap := List.pairwise_iff_getElem.mp L.apart
    have g1 := (List.getElem?_eq_some_iff.mp e1).2
    have g2 := (List.getElem?_eq_some_iff.mp e2).2
    rcases Nat.lt_trichotomy (ixOf Ms a) (ixOf Ms b) with c | c | c
    · exact absurd q (ap _ _ h1 h2 c a (by rw [g1]; exact al) b (by rw [g2]; exact bm))
    · exact c
    · exact absurd ⟨q.2, q.1⟩ (ap _ _ h2 h1 c b (by rw [g2]; exact bm) a (by rw [g1]; exact al))
theorem ix_le {Ms : List (List α)} (L : Lots V S Ms) {a b : α} (ha : a ∈ V) (hb : b ∈ V) (h : Rs S a b) : ixOf Ms a ≤ ixOf Ms b := by
  obtain ⟨h1, l, e1, al⟩ := ix_lt L ha
  obtain ⟨h2, m, e2, bm⟩ := ix_lt L hb
  have g1 := (List.getElem?_eq_some_iff.mp e1).2
  have g2 := (List.getElem?_eq_some_iff.mp e2).2
  have up := List.pairwise_iff_getElem.mp L.up
  rcases Nat.lt_or_ge (ixOf Ms b) (ixOf Ms a) with c | c
  · exact absurd h (up _ _ h2 h1 c b (by rw [g2]; exact bm) a (by rw [g1]; exact al))
  · exact c
end
end Sh
set_option Elab.async false
set_option linter.all false
/-! Mh: papers by lots, plain. -/
namespace Sh
section
variable {α ω : Type} [DecidableEq α] [DecidableEq ω] {S R : α → List α} {V : List α} {Ms : List (List α)} {W : List ω} {wd : α → ω}
def rightG (wd : α → ω) (lv : α → Int) (lk : Int → Option ω) (p : α) (ss : List α) : Bool :=
  if ss.any (fun s => decide (lv s < lv p)) then false else match lk (lv p) with
    | none => ss.all fun s => decide (lv s ≠ lv p)
    | some w => decide (wd p ≠ w)
def lackG (wd : α → ω) (W : List ω) (l : List α) (R : α → List α) : List (Option ω) := (W.filter fun w => !(l.any fun p => decide (wd p = w))).map some ++ List.replicate (if l.any (fun p => decide (p ∈ R p)) then 0 else 1) none
def numL (Ms : List (List α)) (by' : Int) (p : α) : Int := (ixOf Ms p : Int) * by' - 7
theorem lackG_some {l : List α} {w : ω} (h : some w ∈ lackG wd W l R) : w ∈ W ∧ ∀ p ∈ l, wd p ≠ w := by
  unfold lackG at h
  rcases List.mem_append.mp h with h | h
  · obtain ⟨v, hv, e⟩ := List.mem_map.mp h
    cases e
    obtain ⟨h1, h2⟩ := List.mem_filter.mp hv
    refine ⟨h1, fun p hp e => ?_⟩
    simp only [Bool.not_eq_true', List.any_eq_false, decide_eq_true_eq] at h2
    exact h2 p hp e
  · have := (List.mem_replicate.mp h).2
    cases this
theorem lackG_none {l : List α} (h : none ∈ lackG wd W l R) : ∀ p ∈ l, p ∉ R p := by
  unfold lackG at h
  rcases List.mem_append.mp h with h | h
  · obtain ⟨v, hv, e⟩ := List.mem_map.mp h
    cases e
  · have h1 := (List.mem_replicate.mp h).1
    split at h1
    · exact absurd rfl h1
    · rename_i c
      intro p hp hpr
      exact c (List.any_eq_true.mpr ⟨p, hp, by simpa using hpr⟩)
theorem lackG_nil {l : List α} : lackG wd W l R = [] ↔ (∀ w ∈ W, ∃ p ∈ l, wd p = w) ∧ ∃ p ∈ l, p ∈ R p := by
  unfold lackG
  rw [List.append_eq_nil_iff, List.map_eq_nil_iff, List.filter_eq_nil_iff, List.replicate_eq_nil_iff]
  constructor
  · rintro ⟨h1, h2⟩
    refine ⟨fun w hw => ?_, ?_⟩
    · have := h1 w hw
      simp only [Bool.not_eq_true', Bool.not_eq_false, List.any_eq_true, decide_eq_true_eq] at this
      exact this
    · split at h2
      · rename_i c
        obtain ⟨p, hp, e⟩ := List.any_eq_true.mp c
        exact ⟨p, hp, by simpa using e⟩
      · cases h2
  · rintro ⟨h1, p, hp, hr⟩
    refine ⟨fun w hw => ?_, ?_⟩
    · obtain ⟨q, hq, e⟩ := h1 w hw
      simp only [Bool.not_eq_true', Bool.not_eq_false, List.any_eq_true, decide_eq_true_eq]
      exact ⟨q, hq, e⟩
    · rw [if_pos (List.any_eq_true.mpr ⟨p, hp, by simpa using hr⟩)]
theorem num_eq (L : Lots V S Ms) {k : Int} (hk : 1 ≤ k) {a b : α} (ha : a ∈ V) (hb : b ∈ V) : numL Ms k a = numL Ms k b ↔ Rs S a b ∧ Rs S b a := by
  rw [← ix_eq L ha hb]
  unfold numL
  constructor
  · intro e
    have e1 : (ixOf Ms a : Int) * k = (ixOf Ms b : Int) * k := by omega
    have := Int.eq_of_mul_eq_mul_right (by omega : k ≠ 0) e1
    omega
  · intro e; rw [e]
theorem num_le (L : Lots V S Ms) {k : Int} (hk : 1 ≤ k) {a b : α} (ha : a ∈ V) (hb : b ∈ V) (h : Rs S a b) : numL Ms k a ≤ numL Ms k b := by
  have := ix_le L ha hb h
  unfold numL
  have e1 : (ixOf Ms a : Int) * k ≤ (ixOf Ms b : Int) * k := Int.mul_le_mul_of_nonneg_right (by omega) (by omega)
  omega
/-- the paper is let by just where no lot is full -/
theorem right_all (L : Lots V S Ms) (hR : ∀ a ∈ V, ∀ b, b ∈ R a ↔ Rp S a b) (cl : ∀ p ∈ V, ∀ s ∈ S p, s ∈ V) {k : Int} (hk : 1 ≤ k) {lk : Int → Option ω}
    (hc : ∀ (i : Nat) (l : List α), Ms[i]? = some l → lk ((i : Int) * k - 7) ∈ (if lackG wd W l R = [] then W.map some ++ [none] else lackG wd W l R)) :
    (Ms.flatten.all fun p => rightG wd (numL Ms k) lk p (S p)) = decide (∀ l ∈ Ms, lackG wd W l R ≠ []) := by
  have inV : ∀ p, p ∈ Ms.flatten ↔ p ∈ V := fun p => L.perm.mem_iff
  have noless : ∀ p ∈ V, (S p).any (fun s => decide (numL Ms k s < numL Ms k p)) = false := fun p hp => by
    rw [List.any_eq_false]
    intro s hs
    have := num_le L hk hp (cl p hp s hs) (.one hs)
    simp only [decide_eq_true_eq]
    omega
  have at' : ∀ p ∈ V, ∃ (i : Nat) (l : List α), Ms[i]? = some l ∧ p ∈ l ∧ numL Ms k p = (i : Int) * k - 7 := fun p hp => by
    obtain ⟨_, l, h1, h2⟩ := ix_lt L hp
    exact ⟨_, l, h1, h2, rfl⟩
  by_cases full : ∀ l ∈ Ms, lackG wd W l R ≠ []
  · rw [decide_eq_true full, List.all_eq_true]
    intro p hp
    rw [inV] at hp
    obtain ⟨i, l, h1, h2, h3⟩ := at' p hp
    have hl := hc i l h1
    rw [if_neg (full l (List.mem_of_getElem? h1))] at hl
    unfold rightG
    rw [noless p hp, if_neg (by simp), h3]
    cases e : lk ((i : Int) * k - 7) with
    | none =>
      rw [e] at hl
      have := lackG_none hl p h2
      simp only [List.all_eq_true, decide_eq_true_eq]
      intro s hs es
      rw [← h3] at es
      exact this ((hR p hp p).mpr ⟨s, hs, ((num_eq L hk (cl p hp s hs) hp).mp es).1⟩)
    | some w =>
      rw [e] at hl
      simpa using (lackG_some hl).2 p h2
  · rw [decide_eq_false full, List.all_eq_false]
    simp only [ne_eq, Classical.not_forall, Classical.not_not] at full
    obtain ⟨l, hl, e⟩ := full
    have e' := e
    rw [lackG_nil] at e'
    obtain ⟨h1, q, hq, hr⟩ := e'
    obtain ⟨i, hi, ei⟩ := List.getElem_of_mem hl
    have gi : Ms[i]? = some l := by rw [List.getElem?_eq_getElem hi, ei]
    have hc' := hc i l gi
    rw [if_pos e] at hc'
    have num : ∀ p ∈ l, numL Ms k p = (i : Int) * k - 7 := fun p hp => by unfold numL; rw [ix_is L gi hp]
    have lV : ∀ p ∈ l, p ∈ V := fun p hp => (inV p).mp (List.mem_flatten.mpr ⟨l, hl, hp⟩)
    cases ek : lk ((i : Int) * k - 7) with
    | none =>
      refine ⟨q, (inV q).mpr (lV q hq), ?_⟩
      unfold rightG
      rw [noless q (lV q hq), if_neg (by simp), num q hq, ek]
      obtain ⟨s, hs, hsq⟩ := (hR q (lV q hq) q).mp hr
      intro z
      simp only [List.all_eq_true, decide_eq_true_eq] at z
      refine z s hs ?_
      rw [← num q hq]
      exact (num_eq L hk (cl q (lV q hq) s hs) (lV q hq)).mpr ⟨hsq, .one hs⟩
    | some w =>
      rw [ek] at hc'
      have hw : w ∈ W := by
        rcases List.mem_append.mp hc' with h | h
        · obtain ⟨v, hv, ev⟩ := List.mem_map.mp h
          cases ev; exact hv
        · rw [List.mem_singleton] at h; cases h
      obtain ⟨p, hp, ep⟩ := h1 w hw
      refine ⟨p, (inV p).mpr (lV p hp), ?_⟩
      unfold rightG
      rw [noless p (lV p hp), if_neg (by simp), num p hp, ek]
      simp [ep]
/-- a lot is full just where a ring without the row is there -/
theorem full_iff (L : Lots V S Ms) (hR : ∀ a ∈ V, ∀ b, b ∈ R a ↔ Rp S a b) : (∃ l ∈ Ms, lackG wd W l R = []) ↔ ∃ x ∈ V, Rp S x x ∧ ∀ w ∈ W, ∃ p ∈ V, wd p = w ∧ Rs S x p ∧ Rs S p x := by
  have inV : ∀ p, p ∈ Ms.flatten ↔ p ∈ V := fun p => L.perm.mem_iff
  constructor
  · rintro ⟨l, hl, e⟩
    obtain ⟨h1, q, hq, hr⟩ := lackG_nil.mp e
    have lV : ∀ p ∈ l, p ∈ V := fun p hp => (inV p).mp (List.mem_flatten.mpr ⟨l, hl, hp⟩)
    refine ⟨q, lV q hq, (hR q (lV q hq) q).mp hr, fun w hw => ?_⟩
    obtain ⟨p, hp, ep⟩ := h1 w hw
    exact ⟨p, lV p hp, ep, L.same l hl q hq p hp, L.same l hl p hp q hq⟩
  · rintro ⟨x, hx, hr, h⟩
    obtain ⟨_, l, h1, h2⟩ := ix_lt L hx
    have hl := List.mem_of_getElem? h1
    refine ⟨l, hl, lackG_nil.mpr ⟨fun w hw => ?_, x, h2, (hR x hx x).mpr hr⟩⟩
    obtain ⟨p, hp, ep, q1, q2⟩ := h w hw
    refine ⟨p, ?_, ep⟩
    have e := (ix_eq L hx hp).mpr ⟨q1, q2⟩
    obtain ⟨_, m, g1, g2⟩ := ix_lt L hp
    rw [← e, h1] at g1
    cases g1
    exact g2
end
end Sh
set_option Elab.async false
set_option linter.all false
/-! Mi: words of a ring, plain. -/
namespace Sh
/-- the signs from i on, k of them, of c written again and again -/
def wordL (c : List Nat) (k i : Nat) : List Nat := ((List.replicate (k + 1) c).flatten.drop i).take k
section
variable {c : List Nat} {k i : Nat}
theorem rep_len : (List.replicate k c).flatten.length = k * c.length := by rw [List.length_flatten, List.map_replicate, List.sum_replicate_nat]
theorem rep_comm (k : Nat) : (List.replicate (k + 1) c).flatten = (List.replicate k c).flatten ++ c := by
  rw [List.replicate_succ', List.flatten_append]
  simp
theorem wordL_len (hi : i < c.length) : (wordL c k i).length = k := by
  unfold wordL
  rw [List.length_take, List.length_drop, rep_len]
  have : (k + 1) * c.length = k * c.length + c.length := Nat.succ_mul _ _
  have h2 : k * 1 ≤ k * c.length := Nat.mul_le_mul_left k (by omega)
  omega
theorem wordL_mem {x : Nat} (h : x ∈ wordL c k i) : x ∈ c := by
  have := List.mem_of_mem_drop (List.mem_of_mem_take h)
  obtain ⟨l, hl, hx⟩ := List.mem_flatten.mp this
  rw [(List.mem_replicate.mp hl).2] at hx
  exact hx
theorem take_drop1 {l : List Nat} (hk : 1 ≤ k) : ((l.drop i).take k).drop 1 = (l.drop (i + 1)).take (k - 1) := by
  rw [List.drop_take, List.drop_drop]
theorem take_take1 {l : List Nat} (hk : 1 ≤ k) : (l.take k).take (k - 1) = l.take (k - 1) := by
  rw [List.take_take]
  congr 1
  omega
theorem wordL_step (hk : 1 ≤ k) : (wordL c k (i + 1)).take (k - 1) = (wordL c k i).drop 1 := by
  unfold wordL
  rw [take_drop1 hk, take_take1 hk]
theorem wordL_wrap (hk : 1 ≤ k) (hc : 1 ≤ c.length) (hi : i + 1 = c.length) : (wordL c k 0).take (k - 1) = (wordL c k i).drop 1 := by
  unfold wordL
  rw [take_drop1 hk, take_take1 hk, List.drop_zero, hi]
  have e1 : (List.replicate (k + 1) c).flatten.drop c.length = (List.replicate k c).flatten := by rw [List.replicate_succ, List.flatten_cons, List.drop_left]
  rw [e1, rep_comm, List.take_append_of_le_length]
  rw [rep_len]
  have h2 : k * 1 ≤ k * c.length := Nat.mul_le_mul_left k hc
  omega
/-- the next place -/
def nxt (n i : Nat) : Nat := (i + 1) % n
theorem wordL_nxt (hk : 1 ≤ k) (hi : i < c.length) : (wordL c k (nxt c.length i)).take (k - 1) = (wordL c k i).drop 1 := by
  unfold nxt
  by_cases h : i + 1 < c.length
  · rw [Nat.mod_eq_of_lt h]; exact wordL_step hk
  · have e : i + 1 = c.length := by omega
    rw [e, Nat.mod_self]
    exact wordL_wrap hk (by omega) e
theorem nxt_lt {n : Nat} (h : i < n) : nxt n i < n := Nat.mod_lt _ (by omega)
/-- from each place one comes to each, by one step or more -/
theorem go_round {n : Nat} (Q : Nat → Nat → Prop) (one : ∀ i, i < n → Q i (nxt n i)) (more : ∀ i j, i < n → j < n → Q i j → Q i (nxt n j)) {i j : Nat} (hi : i < n) (hj : j < n) : Q i j := by
  have key : ∀ m, Q i ((i + 1 + m) % n) := by
    intro m
    induction m with
    | zero => exact one i hi
    | succ m ih =>
      have := more i _ hi (Nat.mod_lt _ (by omega)) ih
      unfold nxt at this
      rw [Nat.mod_add_mod] at this
      exact this
  have := key (n + j - i - 1)
  rw [show i + 1 + (n + j - i - 1) = j + n by omega, Nat.add_mod_right, Nat.mod_eq_of_lt hj] at this
  exact this
end
end Sh
set_option Elab.async false
set_option linter.all false
/-! Mj: the first lot; pairs of a row that is read along words, plain. -/
namespace Sh
section
variable {α : Type} [DecidableEq α] {S : α → List α} {V : List α} {Ms : List (List α)} {x : α}
theorem rs_last {a b : α} (h : Rs S a b) (cl : ∀ p ∈ V, ∀ s ∈ S p, s ∈ V) (ha : a ∈ V) : a = b ∨ ∃ c ∈ V, b ∈ S c := by
  induction h with
  | refl => exact .inl rfl
  | step h1 h2 ih =>
    rcases ih (cl _ ha _ h1) with e | e
    · subst e; exact .inr ⟨_, ha, h1⟩
    · exact .inr e
theorem first_lot (L : Lots V S Ms) (nd : V.Nodup) (cl : ∀ p ∈ V, ∀ s ∈ S p, s ∈ V) (hx : x ∈ V) (no : ∀ p ∈ V, x ∉ S p) (all : ∀ q ∈ V, q ≠ x → Rs S x q) : Ms[0]? = some [x] := by
  obtain ⟨hi, l, e, hl⟩ := ix_lt L hx
  have inV : ∀ p, p ∈ Ms.flatten ↔ p ∈ V := fun p => L.perm.mem_iff
  have g := (List.getElem?_eq_some_iff.mp e).2
  have only : ∀ b ∈ l, b = x := fun b hb => by
    have r := L.same l (List.mem_of_getElem? e) b hb x hl
    rcases rs_last r cl ((inV b).mp (List.mem_flatten.mpr ⟨l, List.mem_of_getElem? e, hb⟩)) with h | ⟨c, hc, h⟩
    · exact h
    · exact absurd h (no c hc)
  have lnd : l.Nodup := by
    have : Ms.flatten.Nodup := L.perm.nodup_iff.mpr nd
    exact List.Pairwise.sublist (List.sublist_flatten_of_mem (List.mem_of_getElem? e)) this
  have l1 : l = [x] := by
    cases l with
    | nil => cases hl
    | cons a l =>
      have ea := only a List.mem_cons_self
      subst ea
      cases l with
      | nil => rfl
      | cons b l =>
        have eb := only b (by simp)
        subst eb
        simp at lnd
  subst l1
  rcases Nat.eq_zero_or_pos (ixOf Ms x) with z | z
  · rw [z] at e; exact e
  · exfalso
    have h0 : 0 < Ms.length := by omega
    have ne := L.ne _ (List.getElem_mem h0)
    obtain ⟨b, hb⟩ := List.exists_mem_of_ne_nil _ ne
    have hbV := (inV b).mp (List.mem_flatten.mpr ⟨_, List.getElem_mem h0, hb⟩)
    have up := List.pairwise_iff_getElem.mp L.up 0 _ h0 hi z b hb x (by rw [g]; exact hl)
    by_cases c : b = x
    · subst c; exact up (.refl _)
    · exact up (all b hbV c)
end
section
variable {β : Type} [DecidableEq β] {ws : List β} {m : Nat} {w w0 : β}
theorem soFar_first (h0 : ws[0]? = some w0) : 1 ≤ soFar ws m w0 := by
  rcases soFar_cases ws m w0 with ⟨s, e, _⟩ | ⟨_, n⟩
  · omega
  · exact absurd ⟨.zero, h0⟩ (n 0)
theorem soFar_zero (h0 : ws[0]? = some w0) (hw : w ≠ w0) : soFar ws 0 w = 0 := by
  rcases soFar_cases ws 0 w with ⟨s, e, o, _⟩ | ⟨e, _⟩
  · have := o.1.1
    have e0 : s = 0 := by omega
    subst e0
    have := o.2
    rw [h0] at this
    cases this
    exact absurd rfl hw
  · exact e
theorem soFar_on (h : ws[m]? = some w) : soFar ws m w = m + 1 := soFar_is ⟨.self, h⟩ fun t o => o.1.1
end
end Sh
set_option Elab.async false
set_option linter.all false
set_option maxRecDepth 100000
/-! Mk: rings' words and rows read along words, as texts. -/
namespace Sh
open PySem L2
theorem cl_cutn (z : Str) (i k : Nat) : cl (cutS z (some (i : Int)) (some ((i : Int) + k))) = ((cl z).drop i).take k := by
  rw [cl_cut, show ((i : Int) + (k : Int)) = ((i + k : Nat) : Int) by omega, HT.sIx_nat, HT.sIx_nat]
  have e := cl_len z
  by_cases h : i ≤ z.length
  · rw [Nat.min_eq_left h]
    by_cases h2 : i + k ≤ z.length
    · rw [Nat.min_eq_left h2, show i + k - i = k by omega]
    · rw [Nat.min_eq_right (by omega), List.take_of_length_le (by rw [List.length_drop]; omega), List.take_of_length_le (by rw [List.length_drop]; omega)]
  · rw [Nat.min_eq_right (by omega : z.length ≤ i), List.drop_of_length_le (by omega), List.drop_of_length_le (by omega)]
    simp
theorem cl_tl1 (w : Str) : cl (tl1 w) = (cl w).drop 1 := by
  unfold tl1
  rw [cl_cut, HT.sIx_none, show (1 : Int) = ((1 : Nat) : Int) from rfl, HT.sIx_nat]
  have e := cl_len w
  by_cases h : 1 ≤ w.length
  · rw [Nat.min_eq_left h, List.take_of_length_le (by rw [List.length_drop]; omega)]
  · rw [Nat.min_eq_right (by omega), List.drop_of_length_le (by omega), List.drop_of_length_le (by omega)]
    simp
theorem cl_it1 (w : Str) : cl (it1 w) = (cl w).take (w.length - 1) := by
  unfold it1
  rw [cl_cut, HT.sIx_none, List.drop_zero, Nat.sub_zero]
  congr 1
  show (if (-1 : Int) < 0 then ((-1 : Int) + (w.length : Int)).toNat else min (-1 : Int).toNat w.length) = _
  rw [if_pos (by decide)]
  omega
theorem cl_mul (z : Str) (n : Nat) : cl (Txt.mul z (n : Int)) = (List.replicate n (cl z)).flatten := by
  have key : ∀ (m : Nat) (acc : Array Nat), ((List.replicate m z.cps).foldl (· ++ ·) acc).toList = acc.toList ++ (List.replicate m z.cps.toList).flatten := by
    intro m
    induction m with
    | zero => intro acc; simp
    | succ m ih => intro acc; rw [List.replicate_succ, List.foldl_cons, ih, List.replicate_succ, List.flatten_cons, Array.toList_append, List.append_assoc]
  unfold Txt.mul cl
  by_cases h : (n : Int) < 1
  · rw [if_pos h, show n = 0 by omega]; rfl
  · rw [if_neg h]
    split
    · rename_i hc
      rw [Bool.or_eq_true, beq_iff_eq, beq_iff_eq] at hc
      rcases hc with hc | hc
      · rw [show n = 1 by omega]; simp
      · have : z.cps.toList = [] := List.eq_nil_of_length_eq_zero (by have := cl_len z; unfold cl at this; omega)
        rw [this]; simp
    · rw [Int.toNat_natCast]
      have := key n #[]
      simpa using this
theorem rowOk_iff (z : Str) : RowOk z ↔ ∀ c ∈ cl z, (⟨#[c]⟩ : Str) ∈ signs := by
  unfold RowOk
  rw [chars_cl]
  constructor
  · intro h c hc
    exact h _ (List.mem_map.mpr ⟨c, hc, rfl⟩)
  · intro h c hc
    obtain ⟨d, hd, rfl⟩ := List.mem_map.mp hc
    exact h d hd
theorem rowOk_sub {z y : Str} (h : RowOk z) (s : ∀ c ∈ cl y, c ∈ cl z) : RowOk y := (rowOk_iff y).mpr fun c hc => (rowOk_iff z).mp h c (s c hc)
/-! sorted texts -/
theorem pw_of_rising : ∀ (r : List Str) (p : Str), PyProof.Rows.risingS p r = true → (p :: r).Pairwise fun a b => cl a ≤ cl b
  | [], p, _ => by simp
  | x :: r, p, h => by
    unfold PyProof.Rows.risingS at h
    rw [Bool.and_eq_true] at h
    have ih := pw_of_rising r x h.2
    have le : cl p ≤ cl x := by
      have := h.1
      rw [PyProof.Rows.ltCps_eq] at this
      simp only [Bool.not_eq_true', decide_eq_false_iff_not] at this
      exact this
    refine List.pairwise_cons.mpr ⟨fun y hy => ?_, ih⟩
    rcases List.mem_cons.mp hy with rfl | hy
    · exact le
    · exact List.le_trans le ((List.pairwise_cons.mp ih).1 y hy)
theorem pw_of_sorted {r : List Str} (h : PyProof.Rows.sortedS r = true) : r.Pairwise fun a b => cl a ≤ cl b := by
  cases r with
  | nil => exact .nil
  | cons x r => exact pw_of_rising r x h
theorem sortedU_of {W : List Str} (h : PyProof.Rows.sortedS W = true) : SortedU W := fun ys p hs =>
  p.eq_of_pairwise (le := fun a b => cl a ≤ cl b) (fun a b _ _ h1 h2 => cl_inj (List.le_antisymm h1 h2)) (pw_of_sorted hs) (pw_of_sorted h)
/-! words of a ring -/
def ringS (z : Str) (k i : Nat) : Str := cutS (Txt.mul z ((k : Int) + 1)) (some (i : Int)) (some ((i : Int) + k))
theorem cl_ringS (z : Str) (k i : Nat) : cl (ringS z k i) = wordL (cl z) k i := by
  unfold ringS wordL
  rw [cl_cutn, show ((k : Int) + 1) = ((k + 1 : Nat) : Int) by omega, cl_mul]
structure Ringy (W : List Str) (k : Nat) : Prop where
  good : GoodW W k
  conn : Conn W
  su : SortedU W
  few : W.length ≤ 21
theorem ring_next {z : Str} {k i : Nat} {W : List Str} (hk : 1 ≤ k) (hi : i < z.length) (hW : ∀ w, w ∈ W ↔ w ∈ (List.range z.length).map (ringS z k)) : ringS z k (nxt z.length i) ∈ nexts W (ringS z k i) := by
  have e := cl_len z
  refine List.mem_filter.mpr ⟨(hW _).mpr (List.mem_map.mpr ⟨_, List.mem_range.mpr (nxt_lt hi), rfl⟩), ?_⟩
  simp only [decide_eq_true_eq]
  refine cl_inj ?_
  have hl : (ringS z k (nxt z.length i)).length = k := by rw [← cl_len, cl_ringS, wordL_len (by rw [e]; exact nxt_lt hi)]
  rw [cl_it1, cl_tl1, hl, cl_ringS, cl_ringS, ← e]
  exact wordL_nxt hk (by omega)
theorem ringy_of {z : Str} {k : Nat} {W : List Str} (h1 : 1 ≤ z.length) (h2 : z.length ≤ 21) (hr : RowOk z) (hk : k = 3 ∨ k = 5 ∨ k = 7) (hs : PyProof.Rows.sortedS W = true) (nd : W.Nodup) (hW : ∀ w, w ∈ W ↔ w ∈ (List.range z.length).map (ringS z k)) (hl : W.length ≤ z.length) : Ringy W k := by
  have e := cl_len z
  have at' : ∀ w ∈ W, ∃ i, i < z.length ∧ ringS z k i = w := fun w hw => by
    obtain ⟨i, hi, e⟩ := List.mem_map.mp ((hW w).mp hw)
    exact ⟨i, List.mem_range.mp hi, e⟩
  refine ⟨⟨?_, nd, fun w hw => ?_, fun w hw => ?_, hk, by omega⟩, fun a ha b hb => ?_, sortedU_of hs, by omega⟩
  · have : ringS z k 0 ∈ W := (hW _).mpr (List.mem_map.mpr ⟨0, List.mem_range.mpr (by omega), rfl⟩)
    exact List.ne_nil_of_mem this
  · obtain ⟨i, hi, rfl⟩ := at' w hw
    refine rowOk_sub hr fun c hc => ?_
    rw [cl_ringS] at hc
    exact wordL_mem hc
  · obtain ⟨i, hi, rfl⟩ := at' w hw
    rw [← cl_len, cl_ringS, wordL_len (by omega)]
  · obtain ⟨i, hi, rfl⟩ := at' a ha
    obtain ⟨j, hj, rfl⟩ := at' b hb
    have hk1 : 1 ≤ k := by omega
    exact go_round (fun i j => Rch W (ringS z k i) (ringS z k j)) (fun i hi => .one (ring_next hk1 hi hW)) (fun i j _ hj r => .more r (ring_next hk1 hj hW)) hi hj
/-! rows read along words -/
/-- a row of the words us, each behind the one ahead -/
structure Along (W : List Str) (k : Nat) (row : Str) (us : List Str) : Prop where
  words : wordsS row k = us
  len : row.length + 1 = us.length + k
  ne : us ≠ []
  inW : ∀ u ∈ us, u ∈ W
  nx : ∀ (j : Nat) (a b : Str), us[j]? = some a → us[j + 1]? = some b → b ∈ nexts W a
theorem wordsS_get {row : Str} {k i : Nat} (h : i + k ≤ row.length) : (wordsS row k)[i]? = some (cutS row (some (i : Int)) (some ((i : Int) + k))) := by
  unfold wordsS
  rw [List.getElem?_map, List.getElem?_range (by omega)]
  rfl
theorem along_one {W : List Str} {k : Nat} {u : Str} (hu : u ∈ W) (hk : u.length = k) : Along W k u [u] := by
  refine ⟨?_, by simp; omega, by simp, by simpa using hu, fun j a b _ hb => ?_⟩
  · unfold wordsS
    rw [show u.length + 1 - k = 1 by omega]
    show [cutS u (some ((0 : Nat) : Int)) (some (((0 : Nat) : Int) + k))] = [u]
    congr 1
    refine cl_inj ?_
    rw [cl_cutn, List.drop_zero, List.take_of_length_le (by rw [cl_len]; omega)]
  · simp at hb
theorem along_more {W : List Str} {k : Nat} {row x c : Str} {us : List Str} {u : Str} (A : Along W k row (us ++ [u])) (hW : ∀ w ∈ W, w.length = k) (hk : 1 ≤ k) (hx : x ∈ nexts W u) (hc : cl c = (cl x).drop (k - 1)) : Along W k (row ++ c) (us ++ [u] ++ [x]) := by
  obtain ⟨hxW, hxe⟩ := List.mem_filter.mp hx
  simp only [decide_eq_true_eq] at hxe
  have hxl := hW x hxW
  have huW : u ∈ W := A.inW u (by simp)
  have hul := hW u huW
  have hcl : (cl c).length = 1 := by rw [hc, List.length_drop, cl_len]; omega
  have hrl : (row ++ c).length = row.length + 1 := by rw [← cl_len, cl_app, List.length_append, cl_len, hcl]
  have len := A.len
  rw [List.length_append, List.length_singleton] at len
  have hlast : (cl row).drop us.length = cl u := by
    have g := wordsS_get (row := row) (k := k) (i := us.length) (by omega)
    rw [A.words] at g
    have : (us ++ [u])[us.length]? = some u := by simp
    rw [this] at g
    injection g with g
    rw [g, cl_cutn, List.take_of_length_le (by rw [List.length_drop, cl_len]; omega)]
  have xe : cl x = (cl u).drop 1 ++ cl c := by
    have h := congrArg cl hxe
    rw [cl_it1, cl_tl1, hxl] at h
    rw [← h, hc, List.take_append_drop]
  refine ⟨?_, by rw [hrl]; simp; omega, by simp, fun v hv => ?_, fun j a b ha hb => ?_⟩
  · have w1 := A.words
    have e1 : (row ++ c).length + 1 - k = (us ++ [u]).length + 1 := by rw [hrl]; simp; omega
    have e2 : row.length + 1 - k = (us ++ [u]).length := by simp; omega
    unfold wordsS at w1 ⊢
    rw [e1, List.range_succ, List.map_append, List.map_singleton]
    rw [e2] at w1
    congr 1
    · refine Eq.trans (List.map_congr_left fun i hi => ?_) w1
      have hi := List.mem_range.mp hi
      rw [List.length_append, List.length_singleton] at hi
      refine cl_inj ?_
      rw [cl_cutn, cl_cutn, cl_app, List.drop_append_of_le_length (by rw [cl_len]; omega), List.take_append_of_le_length (by rw [List.length_drop, cl_len]; omega)]
    · congr 1
      refine cl_inj ?_
      rw [cl_cutn, cl_app, xe, List.length_append, List.length_singleton, List.drop_append_of_le_length (by rw [cl_len]; omega), ← List.drop_drop, hlast, List.take_of_length_le]
      rw [List.length_append, List.length_drop, cl_len, hcl]
      omega
  · rcases List.mem_append.mp hv with h | h
    · exact A.inW v h
    · rw [List.mem_singleton.mp h]; exact hxW
  · by_cases hj : j + 1 < (us ++ [u]).length
    · rw [List.getElem?_append_left (by omega)] at ha
      rw [List.getElem?_append_left hj] at hb
      exact A.nx j a b ha hb
    · have : j + 1 = (us ++ [u]).length := by
        have := (List.getElem?_eq_some_iff.mp hb).1
        simp at this hj ⊢
        omega
      have ej : j = us.length := by simp at this; omega
      subst ej
      have h1 : (us ++ [u] ++ [x])[us.length]? = some u := by simp
      have h2 : (us ++ [u] ++ [x])[us.length + 1]? = some x := by simp
      rw [h1] at ha
      rw [h2] at hb
      cases ha; cases hb
      exact hx
/-! pairs of such a row -/
theorem pairs_nodup {W ws : List Str} (nd : W.Nodup) : (pairsOf W ws).Nodup := by
  unfold pairsOf
  rw [List.nodup_append]
  refine ⟨?_, ?_, ?_⟩
  · refine List.pairwise_map.mpr (List.Pairwise.imp ?_ nd)
    intro a b h e
    exact h (Prod.mk.inj e).1
  · have key : ∀ (l : List Str) (n : Nat), ((l.zipIdx n).map fun q => (q.1, q.2 + 1)).Nodup := by
      intro l n
      refine List.pairwise_map.mpr ?_
      have : ((l.zipIdx n).map (·.2)).Nodup := by
        rw [List.zipIdx_map_snd]
        exact List.nodup_range'
      refine List.Pairwise.imp ?_ (List.pairwise_map.mp this)
      intro a b h e
      have := (Prod.mk.inj e).2
      exact h (by omega)
    exact List.Pairwise.sublist (List.Sublist.map _ List.filter_sublist) (key _ 0)
  · intro a ha b hb e
    subst e
    obtain ⟨z, _, e1⟩ := List.mem_map.mp ha
    obtain ⟨z', _, e2⟩ := List.mem_map.mp hb
    have h1 := congrArg (·.2) e1
    have h2 := congrArg (·.2) e2
    simp at h1 h2
    omega
theorem pairs_len {W ws : List Str} (h : 1 ≤ ws.length) : (pairsOf W ws).length + 1 ≤ W.length + ws.length := by
  unfold pairsOf
  rw [List.length_append, List.length_map, List.length_map]
  have := List.length_filter_le (fun q : Str × Nat => decide (q.1 ∈ W)) ws.dropLast.zipIdx
  simp at this
  omega
section
variable {W ws : List Str} {w0 : Str}
theorem mem_steps {p q : Pr} : q ∈ stepsOf W ws p ↔ q.1 ∈ nexts W p.1 ∧ q.2 = soFar ws p.2 q.1 ∧ q.2 < ws.length := by
  unfold stepsOf
  rw [List.mem_filter, List.mem_map]
  simp only [decide_eq_true_eq]
  constructor
  · rintro ⟨⟨o, ho, rfl⟩, h⟩
    exact ⟨ho, rfl, h⟩
  · rintro ⟨h1, h2, h3⟩
    exact ⟨⟨q.1, h1, by rw [← h2]⟩, h3⟩
theorem first_no (h0 : ws[0]? = some w0) (p : Pr) : (w0, 0) ∉ stepsOf W ws p := fun h => by
  have := (mem_steps.mp h).2.1
  have h1 := soFar_first (m := p.2) h0
  simp at this
  omega
theorem rch_last {a b : Str} (h : Rch W a b) : ∃ c, (c = a ∨ Rch W a c) ∧ b ∈ nexts W c := by
  cases h with
  | one h => exact ⟨a, .inl rfl, h⟩
  | more h k => exact ⟨_, .inr h, k⟩
theorem first_zero (h0 : ws[0]? = some w0) {x : Str} (h : Rch W w0 x) : x = w0 ∨ Rs (stepsOf W ws) (w0, 0) (x, 0) := by
  have hl : 0 < ws.length := (List.getElem?_eq_some_iff.mp h0).1
  have one : ∀ {a b : Str}, b ∈ nexts W a → b ≠ w0 → ((b, 0) : Pr) ∈ stepsOf W ws (a, 0) := fun {a b} hb ne => mem_steps.mpr ⟨hb, (soFar_zero h0 ne).symm, hl⟩
  induction h with
  | @one b hb =>
    by_cases e : b = w0
    · exact .inl e
    · exact .inr (.one (one hb e))
  | @more b c hr hc ih =>
    by_cases e : c = w0
    · exact .inl e
    · rcases ih with e2 | r
      · subst e2; exact .inr (.one (one hc e))
      · exact .inr (r.snoc (one hc e))
theorem first_all (conn : Conn W) (hin : ∀ u ∈ ws, u ∈ W) (nx : ∀ (j : Nat) (a b : Str), ws[j]? = some a → ws[j + 1]? = some b → b ∈ nexts W a) (h0 : ws[0]? = some w0) : ∀ q ∈ pairsOf W ws, q ≠ (w0, 0) → Rs (stepsOf W ws) (w0, 0) q := by
  have hw0 : w0 ∈ W := hin _ (List.mem_of_getElem? h0)
  have zero : ∀ x ∈ W, x ≠ w0 → Rs (stepsOf W ws) (w0, 0) (x, 0) := fun x hx ne => (first_zero h0 (conn w0 hw0 x hx)).resolve_left ne
  have up : ∀ (s : Nat) (u : Str), ws[s]? = some u → s + 1 < ws.length → Rs (stepsOf W ws) (w0, 0) (u, s + 1) := by
    intro s
    induction s with
    | zero =>
      intro u hu hl
      rw [h0] at hu
      cases hu
      obtain ⟨c, hc, hn⟩ := rch_last (conn w0 hw0 w0 hw0)
      have r : Rs (stepsOf W ws) (w0, 0) (c, 0) := by
        rcases hc with rfl | hc
        · exact .refl _
        · rcases first_zero h0 hc with rfl | r
          · exact .refl _
          · exact r
      exact r.snoc (mem_steps.mpr ⟨hn, (soFar_on h0).symm, hl⟩)
    | succ s ih =>
      intro u hu hl
      have hs : s < ws.length := by omega
      have hp : ws[s]? = some ws[s] := List.getElem?_eq_getElem hs
      exact (ih _ hp (by omega)).snoc (mem_steps.mpr ⟨nx s _ _ hp hu, (soFar_on hu).symm, hl⟩)
  intro q hq ne
  obtain ⟨u, n⟩ := q
  obtain ⟨h1, h2 | ⟨s, h2, h3, h4⟩⟩ := mem_pairsOf.mp hq
  · have h2 : n = 0 := h2
    subst h2
    exact zero u h1 fun e => ne (by rw [show u = w0 from e])
  · have h2 : n = s + 1 := h2
    subst h2
    exact up s u h4 h3
end
end Sh
set_option Elab.async false
set_option linter.all false
set_option maxRecDepth 100000
set_option maxHeartbeats 4000000
/-! WQ: signs, words, walks. -/
namespace Sh
open PySem L2
local macro_rules | `(tactic| walk_at "ev1") => `(tactic| first
  | (with_reducible apply ev_var); rfl
  | with_reducible exact ev_int
  | with_reducible exact ev_str
  | with_reducible exact ev_bl
  | with_reducible exact ev_non
  | with_reducible exact ev_ty
  | with_reducible apply ev_op
  | with_reducible apply ev_cb
  | with_reducible apply ea_cons
  | with_reducible exact ea_nil
  | with_reducible exact rd_I0 rfl
  | with_reducible exact rd_I0b rfl
  | with_reducible apply rd_I rfl
  | with_reducible exact rd_eqI
  | with_reducible exact rd_neI
  | with_reducible exact rd_eqS
  | with_reducible exact rd_neS
  | with_reducible exact rd_isN
  | with_reducible exact rd_notN
  | with_reducible exact rd_fst
  | with_reducible exact rd_snd
  | with_reducible exact rc_lenL
  | with_reducible exact rc_lenT
  | with_reducible apply rc_lenS
  | with_reducible exact rc_intB
  | with_reducible exact rc_min
  | with_reducible exact rc_all
  | with_reducible exact rc_any
  | with_reducible apply ev_slS
  | with_reducible exact eo_none
  | with_reducible apply eo_some
  | with_reducible apply et_test
  | with_reducible apply et_B
  | with_reducible apply et_not
  | with_reducible apply ev_notV
  | (with_reducible apply ev_un); rotate_left; rfl)
local macro_rules | `(tactic| walk_at "ev") => `(tactic| repeat' walk_at "ev1")
section
variable {P : Program} {w : World} {K : PySem.W.Frag} {mg : Str → Option Value} {base : Heap}
/-! _law_signs -/
abbrev s_L_signs : Stmt := (topS 38)
abbrev N_L_signs : List Str := ["_law_state", "_law_signs_here", "_law_many", "_law_at"]
theorem sc_L_signs : FnScope N_L_signs ["_law_state", "_law_signs_here", "_law_many"] (defScope s_L_signs) := ⟨rfl, rfl, rfl, by decide +kernel, rfl, by decide +kernel, by decide +kernel⟩
def Pre_signs : (GSt × Str × Nat) → List D → List (Addr × M) → Prop := fun (g, z, n) ds mr => ds = [.ref g.ps, .str z, .int (n : Nat)] ∧ StAt g.ps g.pg g.T mr ∧ 1 ≤ z.length ∧ z.length ≤ 1000 ∧ n ≤ 900 ∧ g.T + n ≤ 1000000
def Post_signs : (GSt × Str × Nat) → D → List (Addr × M) → Prop := fun (g, z, n) d mr => StAt g.ps g.pg (g.T + n) mr ∧ ∃ y : Str, d = .str y ∧ y.length = n ∧ ∀ c ∈ cl y, c ∈ cl z
def oneS (c : Nat) : Str := ⟨#[c]⟩
theorem ok_L_signs {f : Addr} {fd : FuncData} (F : Fun K "_law_signs" "_law_signs" s_L_signs f fd) (T : Bu K w mg) (F_L_pick : Fn P w K mg base 2 "_law_pick" ["_law_state", "_law_some"] (MutG false 2 Pre_pick Post_pick)) : FnOk P w K mg base CX0 3 f fd ["_law_state", "_law_signs_here", "_law_many"] (MutG false 3 Pre_signs Post_signs) := by
  refine F.ok sc_L_signs (fun vs H Q E h => h.1) (fun cdv A outer s H vs Q E hr h => ?_)
  have nd := sc_L_signs.nd
  refine ⟨_, (pss_one (ps_ret (pe_join pe_str (pe_lc (g := (gName 3)) (tt := tYes) (te := (tCall _ _ _ (tCons (tVar 0) (tCons (tVar 1) tNil)))) (own := [("_law_at", 3)]) rfl nd (pi_range1 (by rfl) T.n_range (pa_cons (pv 2) pa_nil)) (blkOk_by (own := [("_law_at", 3)]) (N := N_L_signs) (sc := (defScope s_L_signs)) (by decide +kernel)) (fun _ _ _ _ _ => (pg_name (i := 3) nd rfl (Or.inl rfl))) (fun _ _ _ _ _ => pts_nil) (fun _ _ _ _ _ => (pe_fn F_L_pick (hr.mono (by decide)) rfl (pa_cons (pv 0) (pa_cons (pv 1) pa_nil)))))))), ?_⟩
  refine body_okG h fun gh ds mr hn hP B => ?_
  obtain ⟨⟨ps, pg, T⟩, z, n⟩ := gh
  obtain ⟨rfl, hst, h1, h2, h3, hT⟩ := (show ds = [.ref ps, .str z, .int (n : Nat)] ∧ StAt ps pg T mr ∧ 1 ≤ z.length ∧ z.length ≤ 1000 ∧ n ≤ 900 ∧ T + n ≤ 1000000 from hP)
  have hmem : ∀ (T : Nat) (mr : List (Addr × M)), StAt ps pg T mr → ∀ p, (∀ x ∈ mr, x.1 ≠ p) → p ≠ ps ∧ p ≠ pg := fun T mr h p hp => by
    obtain ⟨_, gs, r, t, s, cs, e, _⟩ := h
    subst e
    exact ⟨fun e => hp _ List.mem_cons_self e.symm, fun e => hp _ (List.mem_cons_of_mem _ List.mem_cons_self) e.symm⟩
  have hmem2 : ∀ (T : Nat) (mr : List (Addr × M)), StAt ps pg T mr → ∀ p, p ≠ ps → p ≠ pg → ∀ x ∈ mr, x.1 ≠ p := fun T mr h p q1 q2 x hx e => by
    have : x.1 ∈ mr.map (·.1) := List.mem_map.mpr ⟨x, hx, rfl⟩
    rw [h.keys] at this
    simp at this
    rcases this with h | h
    · exact q1 (e.symm.trans h)
    · exact q2 (e.symm.trans h)
  let J : Addr → Nat → List D → Bx → Prop := fun p i ds b => (∃ mr', StAt ps pg (T + i) mr' ∧ ∀ x ∈ mr', x ∈ b.rt) ∧ p ≠ ps ∧ p ≠ pg ∧ ∃ cs : List Nat, ds = cs.map (fun c => .str (oneS c)) ∧ cs.length = i ∧ ∀ c ∈ cs, c ∈ cl z
  refine sm_retX (ex_join ev_str (EvX.frz (m := fun _ _ _ => True) (ex_lcE (xs := List.range n) (enc := fun (i : Nat) => .int (i : Int)) (src_rng1 (n := (n : Nat)) (ea_cons (ev_var rfl) ea_nil) (by omega)) (by simp; omega) J ?h0 ?turn ?q)))
  case h0 =>
    intro p fp
    refine ⟨⟨mr, hst, fun x hx => mem_add_of hx⟩, ?_, ?_, [], rfl, rfl, (fun c hc => nomatch hc)⟩
    · exact (hmem T mr hst p fun x hx => fp x hx).1
    · exact (hmem T mr hst p fun x hx => fp x hx).2
  case turn =>
    rintro p i x b' ds hx ⟨⟨mr', hst', hin⟩, np1, np2, cs, rfl, hl, hcs⟩ hm
    have hi : i < n := by
      have := (List.getElem?_eq_some_iff.mp hx).1
      simpa using this
    refine ⟨_, tg_name (by decide), ex_callG (P1 := fun b1 ds => b1 = b' ∧ ds = [.ref ps, .str z]) (xa_pure (ea_cons (ev_var rfl) (ea_cons (ev_var rfl) ea_nil)) ⟨rfl, rfl⟩) ?_⟩
    rintro b1 ds ⟨rfl, rfl⟩
    refine ⟨rfl, (⟨ps, pg, T + i⟩, .str z, (chars z).map .str), mr', hin, ⟨rfl, hst', .inr ⟨z, rfl, rfl⟩, by rw [List.length_map, chars_len]; exact h1, by rw [List.length_map, chars_len]; exact h2, by show T + i ≤ 1000000; omega⟩, (fun z => by cases z), fun d ms' b'' hp ek pu => ?_⟩
    obtain ⟨hp1, hp2⟩ := hp
    obtain ⟨y, hy, rfl⟩ := List.mem_map.mp hp2
    rw [chars_cl] at hy
    obtain ⟨c, hc, rfl⟩ := List.mem_map.mp hy
    refine ⟨pu.old _ hm fun hk => ?_, ⟨ms', hp1, fun x hx => mem_put_ne (pu.new x hx) (hmem2 _ _ hp1 p np1 np2 x hx)⟩, np1, np2, cs ++ [c], by simp [oneS], by simp [hl], fun c' hc' => ?_⟩
    · rw [ek, hst'.keys] at hk
      simp at hk
      rcases hk with h | h
      · exact np1 h
      · exact np2 h
    · rcases List.mem_append.mp hc' with h | h
      · exact hcs c' h
      · rw [List.mem_singleton.mp h]; exact hc
  case q =>
    rintro p b' ds ⟨⟨mr', hst', hin⟩, np1, np2, cs, rfl, hl, hcs⟩ hm
    rw [List.length_range] at hl hst'
    have e1 : cl (Txt.join "" (cs.map oneS)) = cs := by
      rw [cl_join, List.map_map]
      clear hl hcs hm
      induction cs with
      | nil => rfl
      | cons c cs ih => rw [List.map_cons, List.flatten_cons, ih]; rfl
    refine ⟨p, _, rfl, hm, cs.map oneS, by show D.lst _ = _; rw [List.map_map]; rfl, ?_, mr', ⟨hst', _, rfl, ?_, ?_⟩, by rw [hst'.keys, hst.keys], fun x hx => mem_drop (hin x hx) (hmem2 _ _ hst' p np1 np2 x hx)⟩
    · have h3 : (PySem.Str.ofString "").length = 0 := rfl
      have h4 : ((cs.map oneS).map (·.length)).sum ≤ cs.length := by
        clear hl hcs hm e1
        induction cs with
        | nil => exact Nat.le_refl _
        | cons c cs ih =>
          have : (oneS c).length = 1 := rfl
          simp only [List.map_cons, List.sum_cons, List.length_cons]
          omega
      rw [h3, Nat.mul_zero]
      omega
    · rw [← cl_len, e1, hl]
    · rw [e1]; exact hcs
end
end Sh
set_option Elab.async false
set_option linter.all false
set_option maxRecDepth 100000
set_option maxHeartbeats 4000000
/-! WR: calls that draw; a ring's words, walks. -/
namespace Sh
open PySem L2
local macro_rules | `(tactic| walk_at "ev1") => `(tactic| first
  | (with_reducible apply ev_var); rfl
  | with_reducible exact ev_int
  | with_reducible exact ev_str
  | with_reducible exact ev_bl
  | with_reducible exact ev_non
  | with_reducible exact ev_ty
  | with_reducible apply ev_op
  | with_reducible apply ev_cb
  | with_reducible apply ea_cons
  | with_reducible exact ea_nil
  | with_reducible exact rd_I0 rfl
  | with_reducible exact rd_I0b rfl
  | with_reducible apply rd_I rfl
  | with_reducible exact rd_eqI
  | with_reducible exact rd_neI
  | with_reducible exact rd_eqS
  | with_reducible exact rd_neS
  | with_reducible exact rd_isN
  | with_reducible exact rd_notN
  | with_reducible exact rd_fst
  | with_reducible exact rd_snd
  | with_reducible exact rc_lenL
  | with_reducible exact rc_lenT
  | with_reducible apply rc_lenS
  | with_reducible exact rc_intB
  | with_reducible exact rc_min
  | with_reducible exact rc_all
  | with_reducible exact rc_any
  | with_reducible apply ev_slS
  | with_reducible exact eo_none
  | with_reducible apply eo_some
  | with_reducible apply et_test
  | with_reducible apply et_B
  | with_reducible apply et_not
  | with_reducible apply ev_notV
  | (with_reducible apply ev_un); rotate_left; rfl)
local macro_rules | `(tactic| walk_at "ev") => `(tactic| repeat' walk_at "ev1")
theorem StAt.ne {ps pg : Addr} {T : Nat} {mr : List (Addr × M)} (h : StAt ps pg T mr) {p : Addr} (hp : ∀ x ∈ mr, x.1 ≠ p) : p ≠ ps ∧ p ≠ pg := by
  obtain ⟨_, gs, r, t, s, cs, e, _⟩ := h
  subst e
  exact ⟨fun e => hp _ List.mem_cons_self e.symm, fun e => hp _ (List.mem_cons_of_mem _ List.mem_cons_self) e.symm⟩
theorem StAt.out {ps pg : Addr} {T : Nat} {mr : List (Addr × M)} (h : StAt ps pg T mr) {p : Addr} (q1 : p ≠ ps) (q2 : p ≠ pg) : ∀ x ∈ mr, x.1 ≠ p := fun x hx e => by
  have : x.1 ∈ mr.map (·.1) := List.mem_map.mpr ⟨x, hx, rfl⟩
  rw [h.keys] at this
  simp at this
  rcases this with h | h
  · exact q1 (e.symm.trans h)
  · exact q2 (e.symm.trans h)
theorem StIn.ne {ps pg : Addr} {T : Nat} {b : Bx} (h : StIn ps pg T b) {p : Addr} (hp : Fre b p) : p ≠ ps ∧ p ≠ pg := by
  obtain ⟨mr, h1, h2⟩ := h
  exact h1.ne fun x hx => hp x (h2 x hx)
theorem StIn.add {ps pg : Addr} {T : Nat} {b : Bx} (h : StIn ps pg T b) (p : Addr) (m : M) : StIn ps pg T (b.add p m) := by
  obtain ⟨mr, h1, h2⟩ := h
  exact ⟨mr, h1, fun x hx => mem_add_of (h2 x hx)⟩
theorem StIn.put {ps pg : Addr} {T : Nat} {b : Bx} (h : StIn ps pg T b) {p : Addr} (q1 : p ≠ ps) (q2 : p ≠ pg) (m : M) : StIn ps pg T (b.put p m) := by
  obtain ⟨mr, h1, h2⟩ := h
  exact ⟨mr, h1, fun x hx => mem_put_ne (h2 x hx) (h1.out q1 q2 x hx)⟩
theorem StIn.drop {ps pg : Addr} {T : Nat} {b : Bx} (h : StIn ps pg T b) {p : Addr} (q1 : p ≠ ps) (q2 : p ≠ pg) : StIn ps pg T (b.drop p) := by
  obtain ⟨mr, h1, h2⟩ := h
  exact ⟨mr, h1, fun x hx => mem_drop (h2 x hx) (h1.out q1 q2 x hx)⟩
/-- what a drawing call leaves -/
structure Kp (ps pg : Addr) (b b' : Bx) : Prop where
  fl : b'.fl = b.fl
  keep : ∀ q m, q ≠ ps → q ≠ pg → (q, m) ∈ b.rt → (q, m) ∈ b'.rt
theorem Kp.refl {ps pg : Addr} {b : Bx} : Kp ps pg b b := ⟨rfl, fun _ _ _ _ h => h⟩
theorem Kp.trans {ps pg : Addr} {b b' b'' : Bx} (h : Kp ps pg b b') (k : Kp ps pg b' b'') : Kp ps pg b b'' := ⟨k.fl.trans h.fl, fun q m h1 h2 h3 => k.keep q m h1 h2 (h.keep q m h1 h2 h3)⟩
theorem kp_of {ps pg : Addr} {T : Nat} {mr : List (Addr × M)} {b b' : Bx} (h : StAt ps pg T mr) (pu : Puts b mr b') : Kp ps pg b b' := ⟨pu.fl, fun q m h1 h2 hm => pu.old _ hm fun hk => by
  rw [h.keys] at hk
  simp at hk
  rcases hk with h | h
  · exact h1 h
  · exact h2 h⟩
section
variable {B : Bs} {b : Bx} {ρ : Ro} {P P1 : Po} {tn ts : TE} {i : Nat} {ps pg : Addr} {E0 : XK}
theorem ex_takeX (h0 : ρ[i]? = some (some (.ref ps))) (hn : EvX B tn b ρ P1) (q : ∀ b1 d, P1 b1 d → ∃ (n T : Nat), d = .int (n : Nat) ∧ StIn ps pg T b1 ∧ 1 ≤ n ∧ n ≤ 1000 ∧ T ≤ 1000000 ∧ ∀ b2 (k : Nat), StIn ps pg (T + 1) b2 → Kp ps pg b1 b2 → k < n → P b2 (.int (k : Nat))) :
    EvX B (tCall (MutG false 2 Pre_take Post_take) [] E0 (tCons (tVar i) (tCons tn tNil))) b ρ P := by
  refine ex_callG (P1 := fun b1 ds => ∃ d, ds = [.ref ps, d] ∧ P1 b1 d) (xa_cons (P' := fun b' d => b' = b ∧ d = .ref ps) (ex_pure (ev_var h0) ⟨rfl, rfl⟩) fun b' d ⟨e1, e2⟩ => by
    subst e1 e2
    exact xa_cons hn fun b1 d1 h1 => xa_nil ⟨d1, rfl, h1⟩) ?_
  rintro b1 ds ⟨d, rfl, h1⟩
  obtain ⟨n, T, rfl, ⟨mr, hst, hin⟩, a1, a2, a3, q⟩ := q b1 d h1
  refine ⟨rfl, (⟨ps, pg, T⟩, n), mr, hin, ⟨rfl, hst, a1, a2, a3⟩, (fun z => by cases z), fun d ms' b2 hp ek pu => ?_⟩
  obtain ⟨hp1, k, hk, rfl⟩ := hp
  exact q b2 k ⟨ms', hp1, pu.new⟩ (kp_of hp1 pu) hk
theorem ex_take0 {n T : Nat} (h0 : ρ[i]? = some (some (.ref ps))) (hn : Ev b tn ρ (.int (n : Nat))) (hst : StIn ps pg T b) (a1 : 1 ≤ n) (a2 : n ≤ 1000) (a3 : T ≤ 1000000) (q : ∀ b2 (k : Nat), StIn ps pg (T + 1) b2 → Kp ps pg b b2 → k < n → P b2 (.int (k : Nat))) :
    EvX B (tCall (MutG false 2 Pre_take Post_take) [] E0 (tCons (tVar i) (tCons tn tNil))) b ρ P :=
  ex_takeX (pg := pg) (P1 := fun b1 d => b1 = b ∧ d = .int (n : Nat)) h0 (ex_pure hn ⟨rfl, rfl⟩) fun b1 d ⟨e1, e2⟩ => by subst e1; exact ⟨n, T, e2, hst, a1, a2, a3, q⟩
theorem ex_pickX (h0 : ρ[i]? = some (some (.ref ps))) (hn : EvX B ts b ρ P1) (q : ∀ b1 d, P1 b1 d → ∃ els T, Some d els ∧ StIn ps pg T b1 ∧ 1 ≤ els.length ∧ els.length ≤ 1000 ∧ T ≤ 1000000 ∧ ∀ b2 x, StIn ps pg (T + 1) b2 → Kp ps pg b1 b2 → x ∈ els → P b2 x) :
    EvX B (tCall (MutG false 2 Pre_pick Post_pick) [] E0 (tCons (tVar i) (tCons ts tNil))) b ρ P := by
  refine ex_callG (P1 := fun b1 ds => ∃ d, ds = [.ref ps, d] ∧ P1 b1 d) (xa_cons (P' := fun b' d => b' = b ∧ d = .ref ps) (ex_pure (ev_var h0) ⟨rfl, rfl⟩) fun b' d ⟨e1, e2⟩ => by
    subst e1 e2
    exact xa_cons hn fun b1 d1 h1 => xa_nil ⟨d1, rfl, h1⟩) ?_
  rintro b1 ds ⟨d, rfl, h1⟩
  obtain ⟨els, T, hs, ⟨mr, hst, hin⟩, a1, a2, a3, q⟩ := q b1 d h1
  refine ⟨rfl, (⟨ps, pg, T⟩, d, els), mr, hin, ⟨rfl, hst, hs, a1, a2, a3⟩, (fun z => by cases z), fun d' ms' b2 hp ek pu => ?_⟩
  obtain ⟨hp1, hp2⟩ := hp
  exact q b2 d' ⟨ms', hp1, pu.new⟩ (kp_of hp1 pu) hp2
theorem ex_pick0 {d : D} {els : List D} {T : Nat} (h0 : ρ[i]? = some (some (.ref ps))) (hn : Ev b ts ρ d) (hs : Some d els) (hst : StIn ps pg T b) (a1 : 1 ≤ els.length) (a2 : els.length ≤ 1000) (a3 : T ≤ 1000000) (q : ∀ b2 x, StIn ps pg (T + 1) b2 → Kp ps pg b b2 → x ∈ els → P b2 x) :
    EvX B (tCall (MutG false 2 Pre_pick Post_pick) [] E0 (tCons (tVar i) (tCons ts tNil))) b ρ P :=
  ex_pickX (pg := pg) (P1 := fun b1 d' => b1 = b ∧ d' = d) h0 (ex_pure hn ⟨rfl, rfl⟩) fun b1 d' ⟨e1, e2⟩ => by subst e1 e2; exact ⟨els, T, hs, hst, a1, a2, a3, q⟩
theorem ex_signsX {z : Str} (h0 : ρ[i]? = some (some (.ref ps))) (hz : Ev b ts ρ (.str z)) (hn : EvX B tn b ρ P1) (q : ∀ b1 d, P1 b1 d → ∃ (n T : Nat), d = .int (n : Nat) ∧ StIn ps pg T b1 ∧ 1 ≤ z.length ∧ z.length ≤ 1000 ∧ n ≤ 900 ∧ T + n ≤ 1000000 ∧ ∀ b2 y, StIn ps pg (T + n) b2 → Kp ps pg b1 b2 → y.length = n → (∀ c ∈ cl y, c ∈ cl z) → P b2 (.str y)) :
    EvX B (tCall (MutG false 3 Pre_signs Post_signs) [] E0 (tCons (tVar i) (tCons ts (tCons tn tNil)))) b ρ P := by
  refine ex_callG (P1 := fun b1 ds => ∃ d, ds = [.ref ps, .str z, d] ∧ P1 b1 d) (xa_cons (P' := fun b' d => b' = b ∧ d = .ref ps) (ex_pure (ev_var h0) ⟨rfl, rfl⟩) fun b' d ⟨e1, e2⟩ => by
    subst e1 e2
    exact xa_cons (P' := fun b1 d => b1 = b' ∧ d = .str z) (ex_pure hz ⟨rfl, rfl⟩) fun b1 d1 ⟨e3, e4⟩ => by
      subst e3 e4
      exact xa_cons hn fun b2 d2 h2 => xa_nil ⟨d2, rfl, h2⟩) ?_
  rintro b1 ds ⟨d, rfl, h1⟩
  obtain ⟨n, T, rfl, ⟨mr, hst, hin⟩, a1, a2, a3, a4, q⟩ := q b1 d h1
  refine ⟨rfl, (⟨ps, pg, T⟩, z, n), mr, hin, ⟨rfl, hst, a1, a2, a3, a4⟩, (fun z => by cases z), fun d ms' b2 hp ek pu => ?_⟩
  obtain ⟨hp1, y, rfl, hy1, hy2⟩ := hp
  exact q b2 y ⟨ms', hp1, pu.new⟩ (kp_of hp1 pu) hy1 hy2
end
theorem cl_lastS {w : Str} (h0 : 1 ≤ w.length) : cl (lastS w) = (cl w).drop (w.length - 1) := by
  have hs : (cl w).length = w.length := cl_len w
  obtain ⟨xs, c, e⟩ : ∃ xs c, cl w = xs ++ [c] := by
    rcases List.eq_nil_or_concat (cl w) with e | ⟨L', o, e⟩
    · rw [e] at hs; simp at hs; omega
    · exact ⟨L', o, by simpa using e⟩
  have ea : L2.atI w.cps.toList (-1) = some c := by
    rw [show w.cps.toList = xs ++ [c] from e]
    have e2 : ixN (xs ++ [c]).length (-1) = some xs.length := by
      unfold ixN
      rw [if_neg (by decide), if_pos (by rw [List.length_append, List.length_singleton]; omega)]
      congr 1
      rw [List.length_append, List.length_singleton]
      omega
    unfold L2.atI
    rw [e2]
    show (xs ++ [c])[xs.length]? = some c
    rw [List.getElem?_append_right (Nat.le_refl _)]
    simp
  have el : lastS w = ⟨#[c]⟩ := by unfold lastS; rw [ea]
  have hx : w.length - 1 = xs.length := by rw [← hs, e]; simp
  rw [el, e, hx, List.drop_left]
  rfl
theorem conn_next {W : List Str} {u : Str} (h : Conn W) (hu : u ∈ W) : nexts W u ≠ [] := by
  have r := h u hu u hu
  have key : ∀ v, Rch W u v → ∃ x, x ∈ nexts W u := by
    intro v r
    induction r with
    | one h => exact ⟨_, h⟩
    | more _ _ ih => exact ih
  obtain ⟨x, hx⟩ := key u r
  exact List.ne_nil_of_mem hx
section
variable {P : Program} {w : World} {K : PySem.W.Frag} {mg : Str → Option Value} {base : Heap}
/-! _law_round_words -/
abbrev s_L_round_words : Stmt := (topS 39)
abbrev N_L_round_words : List Str := ["_law_signs_here", "_law_size", "_law_long", "_law_at"]
theorem sc_L_round_words : FnScope N_L_round_words ["_law_signs_here", "_law_size"] (defScope s_L_round_words) := ⟨rfl, rfl, rfl, by decide +kernel, rfl, by decide +kernel, by decide +kernel⟩
def Pre_rw : (Str × Nat) → List D → List (Addr × M) → Prop := fun (z, k) ds mr => ds = [.str z, .int (k : Nat)] ∧ mr = [] ∧ 1 ≤ z.length ∧ z.length ≤ 21 ∧ RowOk z ∧ (k = 3 ∨ k = 5 ∨ k = 7)
def Post_rw : (Str × Nat) → D → List (Addr × M) → Prop := fun (z, k) d mr => mr = [] ∧ ∃ W, d = sD W ∧ Ringy W k
theorem ok_L_round_words {f : Addr} {fd : FuncData} (F : Fun K "_law_round_words" "_law_round_words" s_L_round_words f fd) (T : Bu K w mg) : FnOk P w K mg base CX0 1 f fd ["_law_signs_here", "_law_size"] (MutG false 2 Pre_rw Post_rw) := by
  refine F.ok sc_L_round_words (fun vs H Q E h => h.1) (fun cdv A outer s H vs Q E hr h => ?_)
  have nd := sc_L_round_words.nd
  refine ⟨_, (pss_cons (ps_set (i := 2) nd rfl (Or.inr rfl) (pe_op op_mulS (pv 0) (pe_op op_add (pv 1) pe_int)))
  (pss_one (ps_ret (pe_callB (cr_sortedSetS rfl) (by rfl) T.n_sorted (by decide +kernel) (pa_cons (pe_callTy (cr_setS rfl) (by rfl) T.n_set (by decide +kernel) (pa_cons (pe_lc (g := (gName 3)) (tt := tYes) (te := (tSl rSlS (tVar 2) (tPart (tVar 3)) (tPart (tOp _ (tVar 3) (tVar 1))))) (own := [("_law_at", 3)]) rfl nd (pi_range1 (by rfl) T.n_range (pa_cons (pe_callB call_len_str (by rfl) T.n_len (by decide +kernel) (pa_cons (pv 0) pa_nil)) pa_nil)) (blkOk_by (own := [("_law_at", 3)]) (N := N_L_round_words) (sc := (defScope s_L_round_words)) (by decide +kernel)) (fun _ _ _ _ _ => (pg_name (i := 3) nd rfl (Or.inl rfl))) (fun _ _ _ _ _ => pts_nil) (fun _ _ _ _ _ => (pe_slice sl_str (pv 2) (po_some (pv 3)) (po_some (pe_op op_add (pv 3) (pv 1)))))) pa_nil)) pa_nil))))), ?_⟩
  refine body_okG h fun gh ds mr hn hP B => ?_
  obtain ⟨z, k⟩ := gh
  obtain ⟨rfl, rfl, h1, h2, h3, h4⟩ := (show ds = [.str z, .int (k : Nat)] ∧ mr = [] ∧ 1 ≤ z.length ∧ z.length ≤ 21 ∧ RowOk z ∧ (k = 3 ∨ k = 5 ∨ k = 7) from hP)
  have hlong : (Txt.mul z ((k : Int) + 1)).length ≤ 1000 := by
    rw [← cl_len, show ((k : Int) + 1) = ((k + 1 : Nat) : Int) by omega, cl_mul, rep_len, cl_len]
    have : (k + 1) * z.length ≤ 8 * 21 := Nat.mul_le_mul (by omega) h2
    omega
  refine sm_set (d := .str (Txt.mul z ((k : Int) + 1))) (ev_op (ev_var rfl) (ev_op (ev_var rfl) ev_int (rd_I0 rfl)) (rd_mulS ⟨by omega, by omega, by omega⟩)) ?_
  refine sm_retX (ex_sortedSet (ks := (List.range z.length).map (ringS z k)) (ea_cons (EvN.ev (EvN.is (evn_lcY (xs := List.range z.length) (enc := fun (i : Nat) => .int (i : Int)) (f := fun i => .str (ringS z k i)) (src_rng1 (n := (z.length : Nat)) (ea_cons (ev_cb (ea_cons (ev_var rfl) ea_nil) (rc_lenS (sizeOk (by omega)))) ea_nil) (by omega)) (by simp; omega) fun i hi => ?_) ?_)) ea_nil) (by simp; omega) fun zs hs hnd hmem hlen => ?_)
  · exact lct (tg_name (by decide)) et_yes fun _ => ev_slS (ev_var rfl) (eo_some (ev_var rfl)) (eo_some (ev_op (ev_var rfl) (ev_var rfl) (rd_I0 rfl))) (sizeOk hlong)
  · rw [List.map_map]; rfl
  · exact ⟨[], ⟨rfl, zs, rfl, ringy_of h1 h2 h3 h4 hs hnd hmem (by simpa using hlen)⟩, rfl, (fun x hx => nomatch hx)⟩
/-! _law_walk -/
abbrev s_L_walk : Stmt := (topS 42)
abbrev N_L_walk : List Str := ["_law_state", "_law_words", "_law_many", "_law_word", "_law_found", "_law_turn"]
theorem sc_L_walk : FnScope N_L_walk ["_law_state", "_law_words", "_law_many"] (defScope s_L_walk) := ⟨rfl, rfl, rfl, by decide +kernel, rfl, by decide +kernel, by decide +kernel⟩
def Pre_walk : (GSt × List Str × Nat × Nat) → List D → List (Addr × M) → Prop := fun (g, W, k, n) ds mr => ds = [.ref g.ps, sD W, .int (n : Nat)] ∧ StAt g.ps g.pg g.T mr ∧ Ringy W k ∧ 1 ≤ n ∧ n ≤ 12 ∧ g.T + 12 ≤ 1000000
def Post_walk : (GSt × List Str × Nat × Nat) → D → List (Addr × M) → Prop := fun (g, W, k, n) d mr => StAt g.ps g.pg (g.T + n) mr ∧ ∃ row us, d = .str row ∧ Along W k row us ∧ us.length = n ∧ RowOk row
theorem ok_L_walk {f : Addr} {fd : FuncData} (F : Fun K "_law_walk" "_law_walk" s_L_walk f fd) (T : Bu K w mg) (F_L_behind : Fn P w K mg base 1 "_law_behind" ["_law_words", "_law_word"] (PureSp false 2 R_L_behind)) (F_L_pick : Fn P w K mg base 2 "_law_pick" ["_law_state", "_law_some"] (MutG false 2 Pre_pick Post_pick)) : FnOk P w K mg base CX0 3 f fd ["_law_state", "_law_words", "_law_many"] (MutG false 3 Pre_walk Post_walk) := by
  refine F.ok sc_L_walk (fun vs H Q E h => h.1) (fun cdv A outer s H vs Q E hr h => ?_)
  have nd := sc_L_walk.nd
  refine ⟨_, (pss_cons (ps_set (i := 3) nd rfl (Or.inl rfl) (pe_fn F_L_pick (hr.mono (by decide)) rfl (pa_cons (pv 0) (pa_cons (pv 1) pa_nil))))
  (pss_cons (ps_set (i := 4) nd rfl (Or.inl rfl) (pv 3))
  (pss_cons (ps_for PassesOwn.never rfl (pi_range1 (by rfl) T.n_range (pa_cons (pe_op op_sub (pv 2) pe_int) pa_nil)) (pg_name (i := 5) nd rfl (Or.inl rfl)) (pss_cons (ps_set (i := 3) nd rfl (Or.inl rfl) (pe_fn F_L_pick (hr.mono (by decide)) rfl (pa_cons (pv 0) (pa_cons (pe_fn F_L_behind (hr.mono (by decide)) rfl (pa_cons (pv 1) (pa_cons (pv 3) pa_nil))) pa_nil))))
  (pss_one (ps_set (i := 4) nd rfl (Or.inl rfl) (pe_op op_add_str (pv 4) (pe_ix ix_str (pv 3) (pe_un un_neg pe_int) (fun _ _ => rfl)))))))
  (pss_one (ps_ret (pv 4)))))), ?_⟩
  refine body_okG h fun gh ds mr hn hP B => ?_
  obtain ⟨⟨ps, pg, T⟩, W, k, n⟩ := gh
  obtain ⟨rfl, hst, rg, h1, h2, hT⟩ := (show ds = [.ref ps, sD W, .int (n : Nat)] ∧ StAt ps pg T mr ∧ Ringy W k ∧ 1 ≤ n ∧ n ≤ 12 ∧ T + 12 ≤ 1000000 from hP)
  have g := rg.good
  have few := g.few
  have hk : 3 ≤ k ∧ k ≤ 7 := by have := g.size; omega
  have wl : ∀ x ∈ W, x.length ≤ 1000 := fun x hx => by rw [g.len x hx]; omega
  have hW1 : 1 ≤ W.length := List.length_pos_iff.mpr g.ne
  have inW : ∀ {x : D} {W' : List Str}, x ∈ W'.map D.str → ∃ u, u ∈ W' ∧ x = .str u := fun h => by
    obtain ⟨u, hu, e⟩ := List.mem_map.mp h
    exact ⟨u, hu, e.symm⟩
  refine sm_setX (P1 := fun b1 d => StIn ps pg (T + 1) b1 ∧ Kp ps pg ⟨false, mr⟩ b1 ∧ ∃ u, u ∈ W ∧ d = .str u) (ex_pick0 (els := W.map .str) (T := T) rfl (ev_var rfl) (.inl rfl) ⟨mr, hst, fun x hx => hx⟩ (by simpa using hW1) (by simp; omega) (by omega) fun b2 x h1 h2 h3 => ⟨h1, h2, inW h3⟩) ?_
  rintro b1 d ⟨hst1, _, u, hu, rfl⟩
  refine sm_set (d := .str u) (ev_var rfl) ?_
  refine sm_for (P2 := fun b2 ds => b2 = b1 ∧ ds = (List.range (n - 1)).map fun (i : Nat) => D.int (i : Int)) (sx_pure (Src.is (src_rng1 (n := (n : Int) - 1) (ea_cons (ev_op (ev_var rfl) ev_int (rd_I0 rfl)) ea_nil) (by omega)) (by congr 2; omega)) ⟨rfl, rfl⟩) fun b2 ds ⟨e1, e2⟩ => ?_
  subst e1 e2
  refine ⟨fun i b ρ => ∃ us u row x, StIn ps pg (T + 1 + i) b ∧ Along W k row (us ++ [u]) ∧ us.length = i ∧ RowOk row ∧ ρ = [some (.ref ps), some (sD W), some (.int (n : Nat)), some (.str u), some (.str row), x], ⟨[], u, u, none, hst1, along_one hu (g.len u hu), rfl, g.row u hu, rfl⟩, ?_, ?_⟩
  · rintro i b ρ ⟨us, u, row, x, hst, al, hl, ro, rfl⟩ d hd
    have hi : i < n - 1 := by
      have := (List.getElem?_eq_some_iff.mp hd).1
      simpa using this
    refine ⟨_, _, tg_name (vs := [5]) (by decide), ?_⟩
    have huW : u ∈ W := al.inW u (by simp)
    have hrl := al.len
    rw [List.length_append, List.length_singleton] at hrl
    have hnl := nexts_len W u
    have hn1 : 1 ≤ (nexts W u).length := List.length_pos_iff.mpr (conn_next rg.conn huW)
    refine sm_setX (P1 := fun b1 d => StIn ps pg (T + 1 + i + 1) b1 ∧ ∃ v, v ∈ nexts W u ∧ d = .str v) (ex_pick0 (els := (nexts W u).map .str) (T := T + 1 + i) rfl (ev_call (ea_cons (ev_var rfl) (ea_cons (ev_var rfl) ea_nil)) rfl ⟨W, u, rfl, wl, wl u huW, by omega, rfl⟩ (fun z => by cases z)) (.inl rfl) hst (by simpa using hn1) (by simp; omega) (by omega) fun b2 x h1 h2 h3 => ⟨h1, inW h3⟩) ?_
    rintro b2 d2 ⟨hst2, v, hv, rfl⟩
    have hvW := nexts_sub hv
    have hvl := g.len v hvW
    have hcl : cl (lastS v) = (cl v).drop (k - 1) := by rw [cl_lastS (by omega), hvl]
    have hcl1 : (lastS v).length = 1 := by rw [← cl_len, hcl, List.length_drop, cl_len]; omega
    refine sm_last (sm_set (d := .str (row ++ lastS v)) (ev_op (ev_var rfl) (ev_last (ev_var rfl) (ev_un ev_int rfl) (by omega) (wl v hvW)) (rd_addS (sizeOk (by omega)))) ?_)
    refine sm_next ⟨us ++ [u], v, row ++ lastS v, _, hst2, along_more al g.len (by omega) hv hcl, by simp [hl], ?_, rfl⟩
    rw [rowOk_iff]
    intro c hc
    rw [cl_app] at hc
    rcases List.mem_append.mp hc with h | h
    · exact (rowOk_iff row).mp ro c h
    · rw [hcl] at h
      exact (rowOk_iff v).mp (g.row v hvW) c (List.mem_of_mem_drop h)
  · rintro b ρ ⟨us, u, row, x, ⟨mr', hst', hin⟩, al, hl, ro, rfl⟩
    rw [List.length_map, List.length_range] at hl hst'
    refine sm_ret (ev_var rfl) ⟨mr', ⟨?_, row, us ++ [u], rfl, al, by simp; omega, ro⟩, by rw [hst'.keys, hst.keys], hin⟩
    show StAt ps pg (T + n) mr'
    rw [show T + n = T + 1 + (n - 1) by omega]
    exact hst'
end
end Sh
set_option Elab.async false
set_option linter.all false
set_option maxRecDepth 100000
set_option maxHeartbeats 4000000
/-! WS: what is drawn from, rings drawn. -/
namespace Sh
open PySem L2
local macro_rules | `(tactic| walk_at "ev1") => `(tactic| first
  | (with_reducible apply ev_var); rfl
  | with_reducible exact ev_int
  | with_reducible exact ev_str
  | with_reducible exact ev_bl
  | with_reducible exact ev_non
  | with_reducible exact ev_ty
  | with_reducible apply ev_op
  | with_reducible apply ev_cb
  | with_reducible apply ea_cons
  | with_reducible exact ea_nil
  | with_reducible exact rd_I0 rfl
  | with_reducible exact rd_I0b rfl
  | with_reducible apply rd_I rfl
  | with_reducible exact rd_eqI
  | with_reducible exact rd_neI
  | with_reducible exact rd_eqS
  | with_reducible exact rd_neS
  | with_reducible exact rd_isN
  | with_reducible exact rd_notN
  | with_reducible exact rd_fst
  | with_reducible exact rd_snd
  | with_reducible exact rc_lenL
  | with_reducible exact rc_lenT
  | with_reducible apply rc_lenS
  | with_reducible exact rc_intB
  | with_reducible exact rc_min
  | with_reducible exact rc_all
  | with_reducible exact rc_any
  | with_reducible apply ev_slS
  | with_reducible exact eo_none
  | with_reducible apply eo_some
  | with_reducible apply et_test
  | with_reducible apply et_B
  | with_reducible apply et_not
  | with_reducible apply ev_notV
  | (with_reducible apply ev_un); rotate_left; rfl)
local macro_rules | `(tactic| walk_at "ev") => `(tactic| repeat' walk_at "ev1")
section
variable {B : Bs} {b : Bx} {ρ : Ro} {ta : TA}
theorem sx_rng1 {P : Bx → List D → Prop} (h : EvXA B ta b ρ fun b' ds => ∃ n : Nat, ds = [.int (n : Nat)] ∧ n ≤ 1000 ∧ P b' ((List.range n).map fun (i : Nat) => D.int (i : Int))) : SrcX B (iRng1 ta) b ρ P := fun σ G H o R k => h σ G H o _ fun b' ds vs G1 H1 ⟨n, e, hn, q⟩ s1 o1 r1 => by
  subst e
  obtain ⟨v, rfl, rfl⟩ := r1.one'
  refine ⟨(n : Int), rfl, by omega, by omega, k b' _ _ G1 H1 q s1 o1 ?_⟩
  have := srcok_rng (G := G1) (lo := 0) (n := n)
  simpa using this
end
theorem StOk.mono {T T' : Nat} {gs : List Int} {r t s : Int} {cs : List Int} (h : StOk T gs r t s cs) (hT : T ≤ T') : StOk T' gs r t s cs := ⟨h.gp, h.gl, h.r, ⟨h.t.1, by have := h.t.2; omega⟩, h.s, h.cn, h.cl, h.cp⟩
theorem StAt.mono {ps pg : Addr} {T T' : Nat} {mr : List (Addr × M)} (h : StAt ps pg T mr) (hT : T ≤ T') : StAt ps pg T' mr := by
  obtain ⟨h1, gs, r, t, s, cs, e, st⟩ := h
  exact ⟨h1, gs, r, t, s, cs, e, st.mono hT⟩
theorem StIn.mono {ps pg : Addr} {T T' : Nat} {b : Bx} (h : StIn ps pg T b) (hT : T ≤ T') : StIn ps pg T' b := by
  obtain ⟨mr, h1, h2⟩ := h
  exact ⟨mr, h1.mono hT, h2⟩
theorem cl_cut0 (z : Str) (n : Nat) : cl (cutS z none (some (n : Int))) = (cl z).take n := by
  rw [cl_cut, HT.sIx_none, HT.sIx_nat, List.drop_zero, Nat.sub_zero]
  have e := cl_len z
  by_cases h : n ≤ z.length
  · rw [Nat.min_eq_left h]
  · rw [Nat.min_eq_right (by omega), List.take_of_length_le (by omega), List.take_of_length_le (by omega)]
theorem rowOk_app {x y : Str} (hx : RowOk x) (hy : RowOk y) : RowOk (x ++ y) := by
  rw [rowOk_iff] at hx hy ⊢
  intro c hc
  rw [cl_app] at hc
  rcases List.mem_append.mp hc with h | h
  · exact hx c h
  · exact hy c h
theorem len_app (x y : Str) : (x ++ y).length = x.length + y.length := by rw [← cl_len, cl_app, List.length_append, cl_len, cl_len]
/-- the signs that a ring is drawn of -/
structure Sg (z : Str) : Prop where
  two : ∃ c d r, cl z = c :: d :: r
  short : z.length ≤ 4
  ok : RowOk z
def sgs : List Str := ["ac", "ac", "ag", "acgt", "ct"]
theorem sg_of {z : Str} (h : z ∈ sgs) : Sg z := by
  have h : z = "ac" ∨ z = "ac" ∨ z = "ag" ∨ z = "acgt" ∨ z = "ct" := by
    simpa [sgs] using h
  rcases h with rfl | rfl | rfl | rfl | rfl
  · exact ⟨⟨_, _, _, rfl⟩, by decide +kernel, (rowOk_iff _).mpr (by decide +kernel)⟩
  · exact ⟨⟨_, _, _, rfl⟩, by decide +kernel, (rowOk_iff _).mpr (by decide +kernel)⟩
  · exact ⟨⟨_, _, _, rfl⟩, by decide +kernel, (rowOk_iff _).mpr (by decide +kernel)⟩
  · exact ⟨⟨_, _, _, rfl⟩, by decide +kernel, (rowOk_iff _).mpr (by decide +kernel)⟩
  · exact ⟨⟨_, _, _, rfl⟩, by decide +kernel, (rowOk_iff _).mpr (by decide +kernel)⟩
section
variable {P : Program} {w : World} {K : PySem.W.Frag} {mg : Str → Option Value} {base : Heap}
/-! _law_begun -/
abbrev s_L_begun : Stmt := (topS 35)
abbrev N_L_begun : List Str := ["_law_script", "_law_cell"]
theorem sc_L_begun : FnScope N_L_begun ["_law_script"] (defScope s_L_begun) := ⟨rfl, rfl, rfl, by decide +kernel, rfl, by decide +kernel, by decide +kernel⟩
def Post_begun : List Int → D → List (Addr × M) → Prop := fun ns d mr => ∃ ps pg, d = .ref ps ∧ StAt ps pg 0 mr
theorem ok_L_begun {f : Addr} {fd : FuncData} (F : Fun K "_law_begun" "_law_begun" s_L_begun f fd) (T : Bu K w mg) : FnOk P w K mg base CX0 1 f fd ["_law_script"] (NewS K Post_begun) := by
  refine F.ok sc_L_begun (fun vs H Q E h => by obtain ⟨a, ns, G, rfl, _⟩ := h; rfl) (fun cdv A outer s H vs Q E hr h => ?_)
  have nd := sc_L_begun.nd
  refine ⟨_, (pss_one (ps_ret (pe_disp (pps_cons pe_str (pe_lc (g := (gName 1)) (tt := (tTest (tOp _ (tVar 1) (tOp _ (tC _) (tC _))))) (te := (tVar 1)) (own := [("_law_cell", 1)]) rfl nd (pi_list (pv 0)) (blkOk_by (own := [("_law_cell", 1)]) (N := N_L_begun) (sc := (defScope s_L_begun)) (by decide +kernel)) (fun _ _ _ _ _ => (pg_name (i := 1) nd rfl (Or.inl rfl))) (fun _ _ _ _ _ => (pts_one (pt_cmpR op_ge (pv 1) (pe_op op_pow pe_int pe_int) (nomark _)))) (fun _ _ _ _ _ => (pv 1))) (pps_cons pe_str pe_int (pps_cons pe_str pe_int (pps_cons pe_str pe_int (pps_cons pe_str (pe_op op_cat (pe_lc (g := (gName 1)) (tt := tYes) (te := (tOp _ (tVar 1) (tC _))) (own := [("_law_cell", 1)]) rfl nd (pi_list (pv 0)) (blkOk_by (own := [("_law_cell", 1)]) (N := N_L_begun) (sc := (defScope s_L_begun)) (by decide +kernel)) (fun _ _ _ _ _ => (pg_name (i := 1) nd rfl (Or.inl rfl))) (fun _ _ _ _ _ => pts_nil) (fun _ _ _ _ _ => (pe_op op_mod (pv 1) pe_int))) (pe_lst (pa_cons pe_int pa_nil))) pps_nil))))) (by rfl) (by rfl) (fun z => by cases z) (by decide)))), ?_⟩
  refine body_okS h fun a ns B hl hG => ?_
  have hfl := List.length_filter_le (fun x : Int => decide (10 ^ 18 ≤ x)) ns
  refine sm_retX (ex_disp (P2 := fun p b' kds => ∃ pg, p ≠ pg ∧ kds = stK pg 0 0 7 (ns.map (· % 2147483629) ++ [77]) ∧ (p, M.dK []) ∈ b'.rt ∧ (pg, M.lst ((ns.filter fun x => decide (10 ^ 18 ≤ x)).map .int)) ∈ b'.rt) ?h ?q)
  case h =>
    intro p fp
    refine xp_cons (k := Sum.inr "great") (P1 := fun b1 d => ∃ pg, p ≠ pg ∧ d = .ref pg ∧ (p, M.dK []) ∈ b1.rt ∧ (pg, M.lst ((ns.filter fun x => decide (10 ^ 18 ≤ x)).map .int)) ∈ b1.rt) ev_str (ex_lcXN (enc := .int) (c := fun x => decide (10 ^ 18 ≤ x)) (f := .int) (P1 := fun b' ds => b' = Bx.add ⟨false, []⟩ p (.dK []) ∧ ds = ns.map .int) (sx_scr hG rfl ⟨rfl, rfl⟩) fun b' ds ⟨e1, e2⟩ => ⟨ns, e2, by omega, fun x hx => ?_, fun pg fq => ⟨pg, fq _ (by rw [e1]; exact mem_add), rfl, mem_add_of (by rw [e1]; exact mem_add), mem_add⟩⟩) ?_
    · exact lct (tg_name (by decide)) (et_test (ev_op (ev_var rfl) (ev_op ev_int ev_int (rd_I (k := 10 ^ 18) rfl ⟨by decide, by decide, by decide⟩)) (rd_I0b rfl))) fun _ => ev_var rfl
    · rintro b1 d ⟨pg, hne, rfl, hp, hg⟩
      refine xp_cons (k := Sum.inr "rest") (P1 := fun b2 d => b2 = b1 ∧ d = .int 0) ev_str (ex_pure ev_int ⟨rfl, rfl⟩) ?_
      rintro b2 d ⟨rfl, rfl⟩
      refine xp_cons (k := Sum.inr "turn") (P1 := fun b3 d => b3 = b2 ∧ d = .int 0) ev_str (ex_pure ev_int ⟨rfl, rfl⟩) ?_
      rintro b3 d ⟨rfl, rfl⟩
      refine xp_cons (k := Sum.inr "seed") (P1 := fun b4 d => b4 = b3 ∧ d = .int 7) ev_str (ex_pure ev_int ⟨rfl, rfl⟩) ?_
      rintro b4 d ⟨rfl, rfl⟩
      refine xp_cons (k := Sum.inr "cells") (P1 := fun b5 d => b5 = b4 ∧ d = intsD (ns.map (· % 2147483629) ++ [77])) ev_str (ex_opL (P1 := fun b5 d => b5 = b4 ∧ d = .lst (ns.map fun x => .int (x % 2147483629))) (ex_lcX (enc := .int) (c := fun _ => true) (f := fun x => .int (x % 2147483629)) (P1 := fun b' ds => b' = b4 ∧ ds = ns.map .int) (sx_scr hG rfl ⟨rfl, rfl⟩) fun b' ds ⟨e1, e2⟩ => ⟨ns, e2, by omega, fun x hx => lct (tg_name (by decide)) et_yes fun _ => ev_op (ev_var rfl) ev_int (rd_I rfl (by decide)), e1, by rw [List.filter_eq_self.mpr (fun _ _ => rfl)]⟩) fun b5 x ⟨e1, e2⟩ => by
        subst e1 e2
        exact ⟨.lst [.int 77], _, EvN.ev (evn_lst (ea_cons ev_int ea_nil) (by decide)), (rn_cat (by simp; exact sizeOk (by omega))).rd, rfl, by simp [intsD, List.map_append, Function.comp_def]⟩) ?_
      rintro b5 d ⟨rfl, rfl⟩
      exact xp_nil ⟨pg, hne, rfl, hp, hg⟩
  case q =>
    rintro p b' kds ⟨pg, hne, rfl, hp, hg⟩
    refine ⟨hp, by simp [stK], (by show ([Sum.inr "great", Sum.inr "rest", Sum.inr "turn", Sum.inr "seed", Sum.inr "cells"] : List Key).Nodup; decide +kernel), ?_⟩
    refine ⟨[(p, .dK (stK pg 0 0 7 (ns.map (· % 2147483629) ++ [77]))), (pg, .lst ((ns.filter fun x => decide (10 ^ 18 ≤ x)).map .int))], ⟨p, pg, rfl, hne, _, 0, 0, 7, _, rfl, ⟨fun x hx => ?_, by omega, by decide, by omega, by decide, by simp, by simp; omega, fun c hc => ?_⟩⟩, fun x hx => ?_⟩
    · have := (List.mem_filter.mp hx).2
      simp only [decide_eq_true_eq] at this
      omega
    · rcases List.mem_append.mp hc with h | h
      · obtain ⟨x, _, rfl⟩ := List.mem_map.mp h
        exact ⟨Int.emod_nonneg _ (by decide), Int.emod_lt_of_pos _ (by decide)⟩
      · rw [List.mem_singleton.mp h]; decide
    · rcases List.mem_cons.mp hx with rfl | hx
      · exact mem_put hp
      · rw [List.mem_singleton.mp hx]
        exact mem_put_ne hg (fun e => hne e.symm)
/-! _law_drawn -/
abbrev s_L_drawn : Stmt := (topS 40)
abbrev N_L_drawn : List Str := ["_law_state", "_law_most", "_law_size", "_law_signs_here", "_law_found", "_law_sort", "_law_part", "_law_pair", "_law_turn"]
theorem sc_L_drawn : FnScope N_L_drawn ["_law_state", "_law_most"] (defScope s_L_drawn) := ⟨rfl, rfl, rfl, by decide +kernel, rfl, by decide +kernel, by decide +kernel⟩
def Pre_drawn : GSt → List D → List (Addr × M) → Prop := fun g ds mr => ds = [.ref g.ps, .int 9] ∧ StAt g.ps g.pg g.T mr ∧ g.T + 100 ≤ 1000000
def Post_drawn : GSt → D → List (Addr × M) → Prop := fun g d mr => StAt g.ps g.pg (g.T + 30) mr ∧ ∃ k z W, d = .tup [.int (k : Nat), z, sD W] ∧ Ringy W k
theorem ok_L_drawn {f : Addr} {fd : FuncData} (F : Fun K "_law_drawn" "_law_drawn" s_L_drawn f fd) (T : Bu K w mg) (F_L_take : Fn P w K mg base 1 "_law_take" ["_law_state", "_law_many"] (MutG false 2 Pre_take Post_take)) (F_L_pick : Fn P w K mg base 2 "_law_pick" ["_law_state", "_law_some"] (MutG false 2 Pre_pick Post_pick)) (F_L_signs : Fn P w K mg base 3 "_law_signs" ["_law_state", "_law_signs_here", "_law_many"] (MutG false 3 Pre_signs Post_signs)) (F_L_round_words : Fn P w K mg base 1 "_law_round_words" ["_law_signs_here", "_law_size"] (MutG false 2 Pre_rw Post_rw)) : FnOk P w K mg base CX0 4 f fd ["_law_state", "_law_most"] (MutG false 2 Pre_drawn Post_drawn) := by
  refine F.ok sc_L_drawn (fun vs H Q E h => h.1) (fun cdv A outer s H vs Q E hr h => ?_)
  have nd := sc_L_drawn.nd
  have hu := hu_of hr
  have hu0 := hr.units0
  refine ⟨_, (pss_cons (ps_par (i := 2) (j := 3) rfl nd rfl rfl (by decide) rfl rfl (pa_cons (pe_fn F_L_pick (hr.mono (by decide)) rfl (pa_cons (pv 0) (pa_cons (pe_lst (pa_cons pe_int (pa_cons pe_int (pa_cons pe_int (pa_cons pe_int (pa_cons pe_int pa_nil)))))) pa_nil))) (pa_cons (pe_fn F_L_pick (hr.mono (by decide)) rfl (pa_cons (pv 0) (pa_cons (pe_lst (pa_cons pe_str (pa_cons pe_str (pa_cons pe_str (pa_cons pe_str (pa_cons pe_str pa_nil)))))) pa_nil))) pa_nil)) (by rfl))
  (pss_cons (ps_par (i := 4) (j := 5) rfl nd rfl rfl (by decide) rfl rfl (pa_cons (pe_fn F_L_signs (hr.mono (by decide)) rfl (pa_cons (pv 0) (pa_cons (pv 3) (pa_cons (pe_op op_add pe_int (pe_fn F_L_take (hr.mono (by decide)) rfl (pa_cons (pv 0) (pa_cons (pv 1) pa_nil)))) pa_nil)))) (pa_cons (pe_fn F_L_take (hr.mono (by decide)) rfl (pa_cons (pv 0) (pa_cons pe_int pa_nil))) pa_nil)) (by rfl))
  (pss_cons (ps_if (pt_cmpR op_lt (pv 5) pe_int (nomark _)) (pss_cons (ps_set (i := 6) nd rfl (Or.inl rfl) (pe_fn F_L_signs (hr.mono (by decide)) rfl (pa_cons (pv 0) (pa_cons (pe_slice sl_str (pv 3) po_none (po_some pe_int)) (pa_cons (pe_op op_add pe_int (pe_fn F_L_take (hr.mono (by decide)) rfl (pa_cons (pv 0) (pa_cons (pe_op op_add pe_int (pe_op op_mul (pe_op op_fdiv (pv 2) pe_int) pe_int)) pa_nil)))) pa_nil)))))
  (pss_one (ps_set (i := 4) nd rfl (Or.inl rfl) (pe_slice sl_str (pe_op op_add_str (pe_op op_add_str (pv 6) (pv 6)) (pv 4)) po_none (po_some (pv 1)))))) pss_nil)
  (pss_cons (ps_if (PW.pt (pw_and (pt_cmpR op_eq (pv 5) pe_int (nomark _)) (pw_and1 (pt_cmpR op_eq (pv 1) pe_int (nomark _))))) pss_never pss_nil)
  (pss_cons (ps_if (pt_cmpR op_eq (pv 5) pe_int (nomark _)) (pss_cons (ps_asg (pe_tup (pa_cons pe_int (pa_cons pe_str pa_nil))) (pg_tup rfl (pgs_cons (pg_name (i := 2) nd rfl (Or.inl rfl)) (pgs_cons (pg_name (i := 4) nd rfl (Or.inl rfl)) pgs_nil))))
  (pss_one (ps_for PassesOwn.never rfl (pi_range1 (by rfl) T.n_range (pa_cons (pe_op op_add pe_int (pe_fn F_L_take (hr.mono (by decide)) rfl (pa_cons (pv 0) (pa_cons pe_int pa_nil)))) pa_nil)) (pg_name (i := 8) nd rfl (Or.inl rfl)) (pss_one (ps_set (i := 4) nd rfl (Or.inl rfl) (pe_op op_add_str (pe_op op_add_str (pv 4) (pe_op op_mulS (pe_ix ix_str (pv 3) pe_int (fun _ _ => rfl)) (pe_op op_add pe_int (pe_fn F_L_take (hr.mono (by decide)) rfl (pa_cons (pv 0) (pa_cons pe_int pa_nil)))))) (pe_ix ix_str (pv 3) pe_int (fun _ _ => rfl)))))))) pss_nil)
  (pss_one (ps_ret (pe_tup (pa_cons (pv 2) (pa_cons (pv 4) (pa_cons (pe_fn F_L_round_words (hr.mono (by decide)) rfl (pa_cons (pv 4) (pa_cons (pv 2) pa_nil))) pa_nil))))))))))), ?_⟩
  refine body_okG h fun gh ds mr hn hP B => ?_
  obtain ⟨ps, pg, T⟩ := gh
  obtain ⟨rfl, hst, hT⟩ := (show ds = [.ref ps, .int 9] ∧ StAt ps pg T mr ∧ T + 100 ≤ 1000000 from hP)
  have sti : StIn ps pg T ⟨false, mr⟩ := ⟨mr, hst, fun x hx => hx⟩
  refine sm_parX (P2 := fun b' ds => StIn ps pg (T + 2) b' ∧ ∃ (k : Nat) (z : Str), ds = [.int (k : Nat), .str z] ∧ (k = 3 ∨ k = 5 ∨ k = 7) ∧ Sg z) (xa_cons (P' := fun b1 d => StIn ps pg (T + 1) b1 ∧ ∃ k : Nat, d = .int (k : Nat) ∧ (k = 3 ∨ k = 5 ∨ k = 7)) (ex_pick0 (els := [.int 3, .int 3, .int 3, .int 5, .int 7]) (T := T) rfl (EvN.ev (evn_lst (ea_cons ev_int (ea_cons ev_int (ea_cons ev_int (ea_cons ev_int (ea_cons ev_int ea_nil))))) (by decide))) (.inl rfl) sti (by decide) (by decide) (by omega) fun b2 x h1 h2 h3 => ⟨h1, ?_⟩) fun b1 d ⟨h1, k, e, hk⟩ => xa_cons (P' := fun b2 d => StIn ps pg (T + 2) b2 ∧ ∃ z, d = .str z ∧ Sg z) (ex_pick0 (els := sgs.map .str) (T := T + 1) rfl (EvN.ev (evn_lst (ea_cons ev_str (ea_cons ev_str (ea_cons ev_str (ea_cons ev_str (ea_cons ev_str ea_nil))))) (by decide))) (.inl rfl) h1 (by decide) (by decide) (by omega) fun b2 x h1 h2 h3 => ⟨h1, ?_⟩) fun b2 d2 ⟨h2, z, e2, hz⟩ => xa_nil ⟨h2, k, z, by rw [e, e2], hk, hz⟩) fun b' ds ⟨h1, k, z, e, hk, hz⟩ => ⟨_, _, e, ?_⟩
  · have h3 : x = .int 3 ∨ x = .int 5 ∨ x = .int 7 := by
      simp at h3
      exact h3
    rcases h3 with rfl | rfl | rfl
    · exact ⟨3, rfl, .inl rfl⟩
    · exact ⟨5, rfl, .inr (.inl rfl)⟩
    · exact ⟨7, rfl, .inr (.inr rfl)⟩
  · obtain ⟨y, hy, rfl⟩ := List.mem_map.mp h3
    exact ⟨y, rfl, sg_of hy⟩
  obtain ⟨c0, c1, cr, ez⟩ := hz.two
  have hz4 := hz.short
  have hzl : 2 ≤ z.length := by rw [← cl_len, ez]; simp
  refine sm_parX (P2 := fun b2 ds => StIn ps pg (T + 13) b2 ∧ ∃ (fo : Str) (so : Nat), ds = [.str fo, .int (so : Nat)] ∧ 1 ≤ fo.length ∧ fo.length ≤ 9 ∧ RowOk fo) (xa_cons (P' := fun b2 d => StIn ps pg (T + 12) b2 ∧ ∃ fo : Str, d = .str fo ∧ 1 ≤ fo.length ∧ fo.length ≤ 9 ∧ RowOk fo) (ex_signsX (pg := pg) (z := z) (P1 := fun b2 d => StIn ps pg (T + 3) b2 ∧ ∃ n : Nat, d = .int (n : Nat) ∧ 1 ≤ n ∧ n ≤ 9) rfl (ev_var rfl) (ex_opR ev_int (ex_take0 (n := 9) (T := T + 2) rfl (ev_var rfl) h1 (by decide) (by decide) (by omega) fun b2 j h2 h3 h4 => ⟨.int (1 + (j : Int)), rd_I0 rfl, h2, j + 1, by congr 1; omega, by omega, by omega⟩)) ?m1) fun b2 d ⟨h2, fo, e2, h3⟩ => xa_cons (P' := fun b3 d => StIn ps pg (T + 13) b3 ∧ ∃ so : Nat, d = .int (so : Nat)) (ex_take0 (n := 6) (T := T + 12) rfl ev_int h2 (by decide) (by decide) (by omega) fun b3 j h3 h4 h5 => ⟨h3, j, rfl⟩) fun b3 d3 ⟨h4, so, e4⟩ => xa_nil ⟨h4, fo, so, by rw [e2, e4], h3⟩) fun b2 ds ⟨h2, fo, so, e2, hf1, hf2, hf3⟩ => ⟨_, _, e2, ?_⟩
  case m1 =>
    rintro b2 d ⟨h2, n, rfl, hn1, hn2⟩
    refine ⟨n, T + 3, rfl, h2, by omega, by omega, by omega, by omega, fun b3 y h3 h4 h5 h6 => ⟨h3.mono (by omega), y, rfl, by omega, by omega, rowOk_sub hz.ok h6⟩⟩
  have hn7 : ∃ n : Nat, 4 + (k : Int) / 7 * 4 = (n : Int) ∧ 1 ≤ n ∧ n ≤ 8 := by
    rcases hk with rfl | rfl | rfl
    · exact ⟨4, by decide, by decide, by decide⟩
    · exact ⟨4, by decide, by decide, by decide⟩
    · exact ⟨8, by decide, by decide, by decide⟩
  obtain ⟨n7, en7, n71, n72⟩ := hn7
  refine sm_seqJ (fun b ρ => StIn ps pg (T + 23) b ∧ ∃ fo x, (1 ≤ fo.length ∧ fo.length ≤ 9 ∧ RowOk fo) ∧ ρ = [some (.ref ps), some (.int 9), some (.int (k : Nat)), some (.str z), some (.str fo), some (.int (so : Nat)), x, none, none]) (sm_last (sm_if (cc := decide ((so : Int) < 2)) (et_test (ev_op (ev_var rfl) ev_int (rd_I0b rfl))) (fun _ => ?a) fun _ => sm_unit (sm_next ⟨h2.mono (by omega), fo, none, ⟨hf1, hf2, hf3⟩, rfl⟩))) ?k1
  case a =>
    have hcz : cl (cutS z none (some ((2 : Nat) : Int))) = [c0, c1] := by rw [cl_cut0, ez]; rfl
    have hczl : (cutS z none (some ((2 : Nat) : Int))).length = 2 := by rw [← cl_len, hcz]; rfl
    refine sm_assoc (sm_setX (P1 := fun b3 d => StIn ps pg (T + 23) b3 ∧ ∃ pt : Str, d = .str pt ∧ 1 ≤ pt.length ∧ pt.length ≤ 8 ∧ RowOk pt) (ex_signsX (pg := pg) (z := cutS z none (some ((2 : Nat) : Int))) (P1 := fun b3 d => StIn ps pg (T + 14) b3 ∧ ∃ n : Nat, d = .int (n : Nat) ∧ 1 ≤ n ∧ n ≤ 8) rfl (ev_slS (ev_var rfl) eo_none (eo_some ev_int) (sizeOk (by omega))) (ex_opR ev_int (ex_take0 (n := n7) (T := T + 13) rfl (Ev.is (ev_op ev_int (ev_op (ev_op (ev_var rfl) ev_int (rd_I (k := (k : Int) / 7) rfl ⟨by decide, by omega⟩)) ev_int (rd_I (k := (k : Int) / 7 * 4) rfl (.inr (by decide)))) (rd_I0 (k := 4 + (k : Int) / 7 * 4) rfl)) (by rw [en7])) h2 (by omega) (by omega) (by omega) fun b3 j h3 h4 h5 => ⟨.int (1 + (j : Int)), rd_I0 rfl, h3, j + 1, by congr 1; omega, by omega, by omega⟩)) ?m2) ?_)
    · rintro b3 d ⟨h3, n, rfl, hn1, hn2⟩
      refine ⟨n, T + 14, rfl, h3, by omega, by omega, by omega, by omega, fun b4 y h4 h5 h6 h7 => ⟨h4.mono (by omega), y, rfl, by omega, by omega, rowOk_sub hz.ok fun c hc => ?_⟩⟩
      have := h7 c hc
      rw [hcz] at this
      rw [ez]
      rcases List.mem_cons.mp this with h | h
      · rw [h]; exact List.mem_cons_self
      · rw [List.mem_singleton.mp h]; exact List.mem_cons_of_mem _ List.mem_cons_self
    · rintro b3 d ⟨h3, pt, rfl, hp1, hp2, hp3⟩
      have l1 := len_app pt pt
      have l2 := len_app (pt ++ pt) fo
      refine sm_set (d := .str (cutS (pt ++ pt ++ fo) none (some ((9 : Nat) : Int)))) (ev_slS (ev_op (ev_op (ev_var rfl) (ev_var rfl) (rd_addS (sizeOk (by omega)))) (ev_var rfl) (rd_addS (sizeOk (by omega)))) eo_none (eo_some (ev_var rfl)) (sizeOk (by omega))) (sm_next ⟨h3, _, _, ⟨?_, ?_, ?_⟩, rfl⟩)
      · rw [← cl_len, cl_cut0, List.length_take, cl_len]; omega
      · rw [← cl_len, cl_cut0, List.length_take, cl_len]; omega
      · refine rowOk_sub (rowOk_app (rowOk_app hp3 hp3) hf3) fun c hc => ?_
        rw [cl_cut0] at hc
        exact List.mem_of_mem_take hc
  case k1 =>
    clear h1 e e2 hf1 hf2 hf3 h2 fo
    rintro b ρ ⟨h2, fo, x, ⟨hf1, hf2, hf3⟩, rfl⟩
    refine sm_if (cc := false) (EvT.is (et_and (c1 := decide ((so : Int) = 3)) (c2 := false) (et_test (ev_op (ev_var rfl) ev_int rd_eqI)) fun _ => EvT.is (et_test (ev_op (ev_var rfl) ev_int rd_eqI)) (by decide)) (by simp)) (fun z => by cases z) fun _ => sm_unit ?_
    refine sm_seqJ (fun b ρ => StIn ps pg (T + 30) b ∧ ∃ (k : Nat) (fo : Str) (x y : Option D), (k = 3 ∨ k = 5 ∨ k = 7) ∧ (1 ≤ fo.length ∧ fo.length ≤ 21 ∧ RowOk fo) ∧ ρ = [some (.ref ps), some (.int 9), some (.int (k : Nat)), some (.str z), some (.str fo), some (.int (so : Nat)), x, none, y]) (sm_last (sm_if (cc := decide ((so : Int) = 2)) (et_test (ev_op (ev_var rfl) ev_int rd_eqI)) (fun _ => ?a2) fun _ => sm_unit (sm_next ⟨h2.mono (by omega), k, fo, x, none, hk, ⟨hf1, by omega, hf3⟩, rfl⟩))) ?k2
    case a2 =>
      have hg0 : L2.atI z.cps.toList ((0 : Nat) : Int) = some c0 := atI_nat (by rw [show z.cps.toList = c0 :: c1 :: cr from ez]; rfl)
      have hg1 : L2.atI z.cps.toList ((1 : Nat) : Int) = some c1 := atI_nat (by rw [show z.cps.toList = c0 :: c1 :: cr from ez]; rfl)
      have ok0 : ∀ c, c = c0 ∨ c = c1 → RowOk (⟨#[c]⟩ : Str) := fun c hc => rowOk_sub hz.ok fun d hd => by
        have hd : d ∈ [c] := hd
        rw [List.mem_singleton.mp hd, ez]
        rcases hc with rfl | rfl <;> simp
      refine sm_assoc (sm_pairX (P1 := fun b1 d => b1 = b ∧ d = .tup [.int ((3 : Nat) : Int), .str ""]) (ex_pure (ev_tup (ea_cons ev_int (ea_cons ev_str ea_nil)) (by decide)) ⟨rfl, rfl⟩) ?_)
      rintro b1 d ⟨rfl, rfl⟩
      refine ⟨_, _, rfl, ?_⟩
      refine sm_for (P2 := fun b3 ds => StIn ps pg (T + 24) b3 ∧ ∃ m : Nat, 1 ≤ m ∧ m ≤ 3 ∧ ds = (List.range m).map fun (i : Nat) => D.int (i : Int)) (sx_rng1 (xa_cons (P' := fun b3 d => StIn ps pg (T + 24) b3 ∧ ∃ m : Nat, 1 ≤ m ∧ m ≤ 3 ∧ d = .int (m : Nat)) (ex_opR ev_int (ex_take0 (n := 3) (T := T + 23) rfl ev_int h2 (by decide) (by decide) (by omega) fun b3 j h3 h4 h5 => ⟨.int (1 + (j : Int)), rd_I0 rfl, h3, j + 1, by omega, by omega, by congr 1; omega⟩)) fun b3 d ⟨h3, m, hm1, hm2, e⟩ => xa_nil ⟨m, by rw [e], by omega, h3, m, hm1, hm2, rfl⟩)) ?_
      rintro b3 ds ⟨h3, m, hm1, hm2, rfl⟩
      refine ⟨fun i b ρ => i ≤ m ∧ StIn ps pg (T + 24 + i) b ∧ ∃ (fo : Str) (y : Option D), (i ≤ fo.length ∧ fo.length ≤ 7 * i ∧ RowOk fo) ∧ ρ = [some (.ref ps), some (.int 9), some (.int ((3 : Nat) : Int)), some (.str z), some (.str fo), some (.int (so : Nat)), x, none, y], ⟨by omega, h3, "", none, ⟨by omega, Nat.le_refl 0, (fun c hc => nomatch hc)⟩, rfl⟩, ?_, ?_⟩
      · rintro i b ρ ⟨_, h4, fo, y, ⟨hf1, hf2, hf3⟩, rfl⟩ d hd
        have hi : i < m := by
          have := (List.getElem?_eq_some_iff.mp hd).1
          simpa using this
        refine ⟨_, _, tg_name (vs := [8]) (by decide), ?_⟩
        refine sm_last (sm_setX (P1 := fun b5 d => StIn ps pg (T + 24 + (i + 1)) b5 ∧ ∃ fo : Str, d = .str fo ∧ i + 1 ≤ fo.length ∧ fo.length ≤ 7 * (i + 1) ∧ RowOk fo) (ex_opL (P1 := fun b5 d => StIn ps pg (T + 24 + (i + 1)) b5 ∧ ∃ fo : Str, d = .str fo ∧ i ≤ fo.length ∧ fo.length ≤ 7 * i + 6 ∧ RowOk fo) (ex_opR (ev_var rfl) (ex_opR (ev_op (ev_var rfl) ev_int (rd_ixS (sizeOk (by omega)) hg0)) (ex_opR ev_int (ex_take0 (n := 5) (T := T + 24 + i) rfl ev_int h4 (by decide) (by decide) (by omega) fun b5 j h5 h6 h7 => ⟨.int ((2 + j : Nat) : Int), rd_I0 rfl, ?_⟩)))) ?_) ?_)
        · have hml : cl (Txt.mul (⟨#[c0]⟩ : Str) ((2 + j : Nat) : Int)) = List.replicate (2 + j) c0 := by
            rw [cl_mul]
            show (List.replicate (2 + j) [c0]).flatten = _
            generalize 2 + j = n
            induction n with
            | zero => rfl
            | succ n ih => rw [List.replicate_succ, List.flatten_cons, ih]; rfl
          have hmn : (Txt.mul (⟨#[c0]⟩ : Str) ((2 + j : Nat) : Int)).length = 2 + j := by rw [← cl_len, hml, List.length_replicate]
          have l1 := len_app fo (Txt.mul (⟨#[c0]⟩ : Str) ((2 + j : Nat) : Int))
          refine ⟨.str (Txt.mul (⟨#[c0]⟩ : Str) ((2 + j : Nat) : Int)), rd_mulS ⟨by show 1 ≤ 1000; decide, by omega, by omega⟩, .str (fo ++ Txt.mul (⟨#[c0]⟩ : Str) ((2 + j : Nat) : Int)), rd_addS (sizeOk (by omega)), h5, _, rfl, by omega, by omega, rowOk_app hf3 ?_⟩
          refine rowOk_sub hz.ok fun c hc => ?_
          rw [hml] at hc
          rw [(List.mem_replicate.mp hc).2, ez]
          exact List.mem_cons_self
        · rintro b5 d5 ⟨h5, fo5, rfl, hg2, hg3, hg4⟩
          have l1 := len_app fo5 (⟨#[c1]⟩ : Str)
          have l2 : (⟨#[c1]⟩ : Str).length = 1 := rfl
          exact ⟨.str ⟨#[c1]⟩, .str (fo5 ++ ⟨#[c1]⟩), ev_op (ev_var rfl) ev_int (rd_ixS (sizeOk (by omega)) hg1), rd_addS (sizeOk (by omega)), h5, _, rfl, by omega, by omega, rowOk_app hg4 (ok0 c1 (.inr rfl))⟩
        · rintro b5 d5 ⟨h5, fo5, rfl, hg2, hg3, hg4⟩
          exact sm_next ⟨hi, h5, fo5, _, ⟨hg2, hg3, hg4⟩, rfl⟩
      · rintro b ρ ⟨_, h4, fo, y, ⟨hf1, hf2, hf3⟩, rfl⟩
        rw [List.length_map, List.length_range] at hf1 hf2 h4
        exact sm_next ⟨h4.mono (by omega), 3, fo, x, y, .inl rfl, ⟨by omega, by omega, hf3⟩, rfl⟩
    case k2 =>
      clear hf1 hf2 hf3 h2 fo x
      rintro b ρ ⟨h2, k, fo, x, y, hk, ⟨hf1, hf2, hf3⟩, rfl⟩
      refine sm_retX (ex_tup (P1 := fun b1 ds => StIn ps pg (T + 30) b1 ∧ ∃ W, ds = [.int (k : Nat), .str fo, sD W] ∧ Ringy W k) (xa_cons (P' := fun b1 d => b1 = b ∧ d = .int (k : Nat)) (ex_pure (ev_var rfl) ⟨rfl, rfl⟩) ?_) ?_)
      · rintro b1 d1 ⟨rfl, rfl⟩
        refine xa_cons (P' := fun b2 d => b2 = b1 ∧ d = .str fo) (ex_pure (ev_var rfl) ⟨rfl, rfl⟩) ?_
        rintro b2 d2 ⟨rfl, rfl⟩
        refine xa_cons (P' := fun b3 d => StIn ps pg (T + 30) b3 ∧ ∃ W, d = sD W ∧ Ringy W k) (ex_callG (P1 := fun b4 ds => b4 = b2 ∧ ds = [.str fo, .int (k : Nat)]) (xa_pure (ea_cons (ev_var rfl) (ea_cons (ev_var rfl) ea_nil)) ⟨rfl, rfl⟩) ?_) ?_
        · rintro b4 ds ⟨rfl, rfl⟩
          refine ⟨rfl, (fo, k), [], (fun x hx => nomatch hx), ⟨rfl, rfl, hf1, hf2, hf3, hk⟩, (fun z => by cases z), fun d ms' b5 hp ek pu => ?_⟩
          obtain ⟨rfl, W, rfl, hW⟩ := hp
          obtain ⟨mr', q1, q2⟩ := h2
          exact ⟨⟨mr', q1, fun x hx => pu.old x (q2 x hx) (fun z => nomatch z)⟩, W, rfl, hW⟩
        · rintro b3 d3 ⟨h3, W, rfl, hW⟩
          exact xa_nil ⟨h3, W, rfl, hW⟩
      · rintro b1 ds ⟨⟨mr', q1, q2⟩, W, rfl, hW⟩
        exact ⟨by simp, mr', ⟨q1, k, .str fo, W, rfl, hW⟩, by rw [q1.keys, hst.keys], q2⟩
end
end Sh
set_option Elab.async false
set_option linter.all false
set_option maxRecDepth 100000
set_option maxHeartbeats 4000000
/-! WT: the law's lots. -/
namespace Sh
open PySem L2
local macro_rules | `(tactic| walk_at "ev1") => `(tactic| first
  | (with_reducible apply ev_var); rfl
  | with_reducible exact ev_int
  | with_reducible exact ev_str
  | with_reducible exact ev_bl
  | with_reducible exact ev_non
  | with_reducible exact ev_ty
  | with_reducible apply ev_op
  | with_reducible apply ev_cb
  | with_reducible apply ea_cons
  | with_reducible exact ea_nil
  | with_reducible exact rd_I0 rfl
  | with_reducible exact rd_I0b rfl
  | with_reducible apply rd_I rfl
  | with_reducible exact rd_eqI
  | with_reducible exact rd_neI
  | with_reducible exact rd_eqS
  | with_reducible exact rd_neS
  | with_reducible exact rd_isN
  | with_reducible exact rd_notN
  | with_reducible exact rd_fst
  | with_reducible exact rd_snd
  | with_reducible exact rc_lenL
  | with_reducible exact rc_lenT
  | with_reducible apply rc_lenS
  | with_reducible exact rc_intB
  | with_reducible exact rc_min
  | with_reducible exact rc_all
  | with_reducible exact rc_any
  | with_reducible apply ev_slS
  | with_reducible exact eo_none
  | with_reducible apply eo_some
  | with_reducible apply et_test
  | with_reducible apply et_B
  | with_reducible apply et_not
  | with_reducible apply ev_notV
  | (with_reducible apply ev_un); rotate_left; rfl)
local macro_rules | `(tactic| walk_at "ev") => `(tactic| repeat' walk_at "ev1")
/-- a lot that grows: where it is, its first pair, the others -/
abbrev Lo := Addr × Pr × List Pr
def Lo.l (y : Lo) : List Pr := y.2.1 :: y.2.2
theorem lotI_other {V : List Pr} {S R : Pr → List Pr} {vs : List Pr} {Ls : List (List Pr)} {p : Pr} (L : LotI S vs Ls) (hR : ∀ a ∈ V, ∀ q, q ∈ R a ↔ Rp S a q) (hsub : ∀ a ∈ vs, a ∈ V) (hp : p ∉ vs) (hpV : p ∈ V)
    (h : ∀ l ∈ Ls, ∀ a, l.head? = some a → ¬ (p ∈ R a ∧ a ∈ R p)) : ∀ l ∈ Ls, ∀ a ∈ l, ¬ (Rs S a p ∧ Rs S p a) := by
  intro l hl a ha ⟨h1, h2⟩
  cases hc : l with
  | nil => exact L.ne l hl hc
  | cons x r =>
    have hx : x ∈ l := by rw [hc]; exact List.mem_cons_self
    have inV : ∀ y ∈ l, y ∈ vs := fun y hy => L.perm.mem_iff.mp (List.mem_flatten.mpr ⟨l, hl, hy⟩)
    have g1 := (L.same l hl x hx a ha).trans h1
    have g2 := h2.trans (L.same l hl a ha x hx)
    have ne : x ≠ p := fun e => hp (e ▸ inV x hx)
    refine h l hl x (by rw [hc]; rfl) ⟨(hR x (hsub x (inV x hx)) p).mpr ?_, (hR p hpV x).mpr ?_⟩
    · cases g1 with
      | refl => exact absurd rfl ne
      | step s1 s2 => exact ⟨_, s1, s2⟩
    · cases g2 with
      | refl => exact absurd rfl ne
      | step s1 s2 => exact ⟨_, s1, s2⟩
/-- ranks with places -/
def ranksL (V : List Pr) (R : Pr → List Pr) (Ls : List (List Pr)) : List (Int × Int) := Ls.zipIdx.map fun q => ((rankL V R q.1 : Nat), ((q.2 : Nat) : Int))
def atL (Ls : List (List Pr)) (q : Int × Int) : List Pr := (Ls[q.2.toNat]?).getD []
theorem ranks_mem {V : List Pr} {R : Pr → List Pr} {Ls : List (List Pr)} {q : Int × Int} (h : q ∈ ranksL V R Ls) : ∃ (j : Nat) (l : List Pr), Ls[j]? = some l ∧ q.2 = (j : Int) ∧ q.1 = (rankL V R l : Nat) ∧ atL Ls q = l := by
  obtain ⟨⟨l, j⟩, hz, rfl⟩ := List.mem_map.mp h
  have h3 := List.mem_zipIdx_iff_getElem?.mp hz
  refine ⟨j, l, h3, rfl, rfl, ?_⟩
  unfold atL
  show (Ls[((j : Nat) : Int).toNat]?).getD [] = l
  rw [Int.toNat_natCast]
  have h3 : Ls[j]? = some l := h3
  rw [h3]
  rfl
theorem ranks_at (V : List Pr) (R : Pr → List Pr) (Ls : List (List Pr)) : (ranksL V R Ls).map (atL Ls) = Ls := by
  refine List.ext_getElem? fun i => ?_
  unfold ranksL
  rw [List.map_map, List.getElem?_map, List.getElem?_zipIdx]
  cases h : Ls[i]? with
  | none => rfl
  | some l =>
    show some (atL Ls ((rankL V R l : Nat), ((0 + i : Nat) : Int))) = some l
    unfold atL
    show some ((Ls[((0 + i : Nat) : Int).toNat]?).getD []) = some l
    rw [Int.toNat_natCast, Nat.zero_add, h]
    rfl
theorem lots_sorted {V : List Pr} {S R : Pr → List Pr} {Ls : List (List Pr)} {qs : List (Int × Int)} (nd : V.Nodup) (hR : ∀ a ∈ V, ∀ b, b ∈ R a ↔ Rp S a b) (L : LotI S V Ls) (p : qs.Perm (ranksL V R Ls)) (h : qs.Pairwise fun x y => SrtO.lexB y x = false) : Lots V S (qs.map (atL Ls)) := by
  refine lots_of (R := R) nd hR L ?_ ?_
  · have := p.map (atL Ls)
    rw [ranks_at] at this
    exact this
  · refine List.pairwise_map.mpr ?_
    refine List.Pairwise.imp_of_mem ?_ h
    intro x y hx hy e
    obtain ⟨_, l, _, _, e1, f1⟩ := ranks_mem (p.mem_iff.mp hx)
    obtain ⟨_, m, _, _, e2, f2⟩ := ranks_mem (p.mem_iff.mp hy)
    rw [f1, f2]
    have : ¬ SrtO.lexB y x = true := by rw [e]; simp
    rw [SrtO.lexB_iff] at this
    omega
section
variable {P : Program} {w : World} {K : PySem.W.Frag} {mg : Str → Option Value} {base : Heap}
/-! _law_lots -/
abbrev s_L_lots : Stmt := (topS 48)
abbrev N_L_lots : List Str := ["_law_reach", "_law_lots_here", "_law_pair", "_law_there", "_law_ranks", "_law_at", "_law_lot", "_law_one", "_law_many"]
theorem sc_L_lots : FnScope N_L_lots ["_law_reach"] (defScope s_L_lots) := ⟨rfl, rfl, rfl, by decide +kernel, rfl, by decide +kernel, by decide +kernel⟩
def Pre_LL : (List Pr × (Pr → List Pr) × (Pr → List Pr)) → List D → List (Addr × M) → Prop := fun (V, S, R) ds mr => ds = [reachD V R] ∧ mr = [] ∧ Net V S ∧ ∀ a ∈ V, ∀ b, b ∈ R a ↔ Rp S a b
def Post_LL : (List Pr × (Pr → List Pr) × (Pr → List Pr)) → D → List (Addr × M) → Prop := fun (V, S, R) d mr => mr = [] ∧ ∃ Ms : List (List Pr), d = .lst (Ms.map lD) ∧ Lots V S Ms
theorem ok_L_lots {f : Addr} {fd : FuncData} (F : Fun K "_law_lots" "_law_lots" s_L_lots f fd) (T : Bu K w mg) (F_L_both : Fn P w K mg base 1 "_law_both" ["_law_reach", "_law_one", "_law_other"] (PureSp false 3 R_L_both)) : FnOk P w K mg base CX0 2 f fd ["_law_reach"] (MutG true 1 Pre_LL Post_LL) := by
  refine F.ok sc_L_lots (fun vs H Q E h => h.1) (fun cdv A outer s H vs Q E hr h => ?_)
  have nd := sc_L_lots.nd
  have hu := hu_of hr
  have hu0 := hr.units0
  have hu65 := hu65_of hr
  have hu2 : _ + 2 < cLine := Nat.lt_of_le_of_lt (Nat.add_le_add_left (by decide : 2 ≤ 65) _) hu65
  refine ⟨_, (pss_cons (ps_set (i := 1) nd rfl (Or.inr rfl) (pe_lst pa_nil))
  (pss_cons (ps_lock (ps_for PassesOwn.never rfl (pi_keys (pv 0)) (pg_name (i := 2) nd rfl (Or.inr rfl)) (pss_cons (ps_setLc (i := 3) (g := (gName 6)) (tt := (tTest (tCall _ _ _ (tCons (tVar 0) (tCons (tOp (rIxL _) (tVar 6) (tC _)) (tCons (tVar 2) tNil)))))) (te := (tVar 6)) (own := [("_law_lot", 6)]) rfl nd rfl rfl (sw_true rfl rfl rfl (by decide +kernel)) (pi_list (pv 1)) (blkOk_by (own := [("_law_lot", 6)]) (N := N_L_lots) (sc := (defScope s_L_lots)) (by decide +kernel)) (fun _ _ _ _ _ => (pg_name (i := 6) nd rfl (Or.inl rfl))) (fun _ _ _ _ _ => (pts_one (pt_val (pe_fn F_L_both (hr.mono (by decide)) rfl (pa_cons (pv 0) (pa_cons (pe_ix ix_list (pv 6) pe_int (fun _ _ => rfl)) (pa_cons (pv 2) pa_nil))))))) (fun _ _ _ _ _ => (pv 6)))
  (pss_one (ps_if (pt_cmpR (op_neNil hu0) (pv 3) (pe_lst pa_nil) (nomark _)) (pss_one (ps_expr (pe_bm PySem.F.plainAttrs_list PySem.F.slot_list_append PySem.F.type_list_append mt_append (pe_ix ix_list (pv 3) pe_int (fun _ _ => rfl)) (pa_cons (pv 2) pa_nil)))) (pss_one (ps_expr (pe_bm PySem.F.plainAttrs_list PySem.F.slot_list_append PySem.F.type_list_append mt_append (pv 1) (pa_cons (pe_lst (pa_cons (pv 2) pa_nil)) pa_nil)))))))))
  (pss_cons (ps_set (i := 4) nd rfl (Or.inl rfl) (pe_lst pa_nil))
  (pss_cons (ps_for PassesOwn.never rfl (pi_enum (by rfl) T.n_enumerate (pa_cons (pv 1) pa_nil)) (pg_tup rfl (pgs_cons (pg_name (i := 5) nd rfl (Or.inl rfl)) (pgs_cons (pg_name (i := 6) nd rfl (Or.inr rfl)) pgs_nil))) (pss_one (ps_expr (pe_bm PySem.F.plainAttrs_list PySem.F.slot_list_append PySem.F.type_list_append mt_append (pv 4) (pa_cons (pe_tup (pa_cons (pe_callB call_len_seq (by rfl) T.n_len (by decide +kernel) (pa_cons (pe_lock (pe_lc (g := (gName 7)) (tt := (tAnd (tB (tDIn (tOp (rIxL _) (tVar 6) (tC _)) (tDGet (tVar 0) (tVar 7)))) (tTest (tOp (rInPr true _) (tVar 7) (tVar 6))))) (te := (tVar 7)) (own := [("_law_one", 7)]) rfl nd (pi_keys (pv 0)) (blkOk_by (own := [("_law_one", 7)]) (N := N_L_lots) (sc := (defScope s_L_lots)) (by decide +kernel)) (fun _ _ _ _ _ => (pg_name (i := 7) nd rfl (Or.inl rfl))) (fun _ _ _ _ _ => (pts_one (PW.pt (pw_and (pt_cmp (pc_din hu (pe_ix ix_list (pv 6) pe_int (fun _ _ => rfl)) (pe_dget hu (pv 0) (pv 7) (fun _ _ => rfl)))) (pw_and1 (pt_cmpR (op_notInPr hu2) (pv 7) (pv 6) rfl)))))) (fun _ _ _ _ _ => (pv 7)))) pa_nil)) (pa_cons (pv 5) pa_nil))) pa_nil)))))
  (pss_one (ps_ret (pe_lc (g := (gTup _ 2 (gCons (gName 8) (gCons (gName 5) gNil)))) (tt := tYes) (te := (tOp (rIxL _) (tVar 1) (tVar 5))) (own := [("_law_many", 8), ("_law_at", 5)]) rfl nd (pi_list (pe_callB cr_sortedPO (by rfl) T.n_sorted (by decide +kernel) (pa_cons (pv 4) pa_nil))) (blkOk_by (own := [("_law_many", 8), ("_law_at", 5)]) (N := N_L_lots) (sc := (defScope s_L_lots)) (by decide +kernel)) (fun _ _ _ _ _ => (pg_tup rfl (pgs_cons (pg_name (i := 8) nd rfl (Or.inl rfl)) (pgs_cons (pg_name (i := 5) nd rfl (Or.inl rfl)) pgs_nil)))) (fun _ _ _ _ _ => pts_nil) (fun _ _ _ _ _ => (pe_ix ix_list (pv 1) (pv 5) (fun _ _ => rfl)))))))))), ?_⟩
  refine body_okG h fun gh ds mr hn hP B => ?_
  obtain ⟨V, S, R⟩ := gh
  obtain ⟨rfl, rfl, net, hR⟩ := (show ds = [reachD V R] ∧ mr = [] ∧ Net V S ∧ ∀ a ∈ V, ∀ b, b ∈ R a ↔ Rp S a b from hP)
  have few := net.few
  refine sm_setN (ds := []) (evn_lst ea_nil (by decide)) fun pl fl => ?_
  refine sm_forL (ds := V.map pD) rfl (SrcL.is (sl_keysT rfl (kn_var rfl)) (by rw [List.map_map]; rfl)) (fun i b ρ => ∃ (ys : List Lo) (x y : Option D), (pl, M.lst (ys.map fun y => .ref y.1)) ∈ b.rt ∧ (∀ y ∈ ys, (y.1, M.lst (y.l.map pD)) ∈ b.rt) ∧ (pl :: ys.map (·.1)).Nodup ∧ LotI S (V.take i) (ys.map Lo.l) ∧ ys.length ≤ i ∧ ρ = [some (reachD V R), some (.ref pl), x, y, none, none, none, none, none]) ⟨[], none, none, mem_add, (fun y hy => nomatch hy), by simp, .nil, Nat.le_refl _, rfl⟩ ?t ?f
  case t =>
    rintro B' i b ρ ⟨ys, x, y, hp, hl, ndp, L, hlen, rfl⟩ d hd
    have hi : i < V.length := by
      have := (List.getElem?_eq_some_iff.mp hd).1
      simpa using this
    rw [List.getElem?_map, List.getElem?_eq_getElem hi] at hd
    cases hd
    have ht : V.take (i + 1) = V.take i ++ [V[i]] := by rw [List.take_add_one, List.getElem?_eq_getElem hi]; rfl
    have hpV := List.getElem_mem hi
    have hpn : V[i] ∉ V.take i := by
      have h := net.nd
      have h2 : (V.take (i + 1)).Nodup := List.Pairwise.sublist (List.take_sublist _ _) h
      rw [ht, List.nodup_append] at h2
      exact fun z => h2.2.2 _ z _ (by simp) rfl
    generalize V[i] = p at ht hpV hpn ⊢
    refine ⟨_, _, tg_name (vs := [2]) (by decide), ?_⟩
    have hsub : ∀ a ∈ V.take i, a ∈ V := fun a ha => List.mem_of_mem_take ha
    have inV : ∀ y ∈ ys, ∀ a ∈ y.l, a ∈ V.take i := fun y hy a ha => L.perm.mem_iff.mp (List.mem_flatten.mpr ⟨y.l, List.mem_map.mpr ⟨y, hy, rfl⟩, ha⟩)
    have hdV : ∀ y ∈ ys, y.2.1 ∈ V := fun y hy => hsub _ (inV y hy _ List.mem_cons_self)
    rw [List.nodup_cons] at ndp
    have ney : ∀ y ∈ ys, y.1 ≠ pl := fun y hy e => ndp.1 (e ▸ List.mem_map.mpr ⟨y, hy, rfl⟩)
    refine sm_set (d := .lst ((ys.filter fun y => decide (p ∈ R y.2.1) && decide (y.2.1 ∈ R p)).map fun y => .ref y.1)) (EvN.ev (evn_as (i := 1) hp rfl (fun d hd => by obtain ⟨y, _, rfl⟩ := List.mem_map.mp hd; exact trivial) (evn_lc (xs := ys) (enc := fun y => .ref y.1) (c := fun y => decide (p ∈ R y.2.1) && decide (y.2.1 ∈ R p)) (f := fun y => .ref y.1) (src_list (ev_var rfl)) (by omega) fun y hy => ?_))) ?_
    · exact lct (tg_name (by decide)) (et_test (ev_call (ea_cons (ev_var rfl) (ea_cons (ev_op (ev_var rfl) ev_int (rd_ixLR (mem_drop (hl y hy) (ney y hy)) (atI_nat (j := 0) rfl))) (ea_cons (ev_var rfl) ea_nil))) rfl ⟨V, R, y.2.1, p, rfl, hdV y hy, hpV, rfl⟩ (fun z => by cases z))) fun _ => ev_var rfl
    cases hf : ys.filter fun y => decide (p ∈ R y.2.1) && decide (y.2.1 ∈ R p) with
    | nil =>
      refine sm_last (sm_if (cc := false) (EvT.is (et_test (ev_op (ev_var rfl) (EvN.ev (evn_lst ea_nil (by decide))) rd_nil)) rfl) (fun z => by cases z) fun _ => ?_)
      refine sm_dropX (P1 := fun b1 d => ∃ q, Fre b q ∧ b1 = (b.add q (.lst [pD p])).put pl (.lst ((ys.map fun y => .ref y.1) ++ [.ref q]))) (ex_append (es := fun _ => True) (P1 := fun b1 d => ∃ q, Fre b q ∧ b1 = b.add q (.lst [pD p]) ∧ d = .ref q) (ev_var rfl) (ex_new (evn_lst (ea_cons (ev_var rfl) ea_nil) (by simp)) fun q fq => ⟨q, fq, rfl, rfl⟩) (fun b1 d ⟨q, fq, e1, e2⟩ => ⟨_, by subst e1; exact mem_add_of hp, by simp; omega, q, fq, by rw [e1, e2]⟩) ⟨_, hp⟩) fun b1 d e => ?_
      obtain ⟨q, fq, rfl⟩ := e
      have hqp : q ≠ pl := fun e => fq _ hp e.symm
      have hqy : ∀ y ∈ ys, y.1 ≠ q := fun y hy => fq _ (hl y hy)
      refine sm_next ⟨ys ++ [(q, p, [])], _, _, ?_, ?_, ?_, ?_, ?_, rfl⟩
      · rw [List.map_append]; exact mem_put (mem_add_of hp)
      · intro y hy
        rcases List.mem_append.mp hy with h | h
        · exact mem_put_ne (mem_add_of (hl y h)) (ney y h)
        · rw [List.mem_singleton.mp h]
          exact mem_put_ne mem_add hqp
      · rw [List.nodup_cons, List.map_append, List.nodup_append]
        refine ⟨fun z => ?_, ndp.2, by simp, fun a ha c hc e => ?_⟩
        · rcases List.mem_append.mp z with h | h
          · exact ndp.1 h
          · simp at h; exact hqp h.symm
        · simp at hc
          obtain ⟨y, hy, ey⟩ := List.mem_map.mp ha
          exact hqy y hy (by rw [ey, e, hc])
      · rw [ht, List.map_append]
        refine L.new (lotI_other L hR hsub hpn hpV fun l hl' a ha => ?_)
        obtain ⟨y, hy, rfl⟩ := List.mem_map.mp hl'
        cases ha
        rintro ⟨h1, h2⟩
        rw [List.filter_eq_nil_iff] at hf
        exact hf y hy (by simp [h1, h2])
      · rw [List.length_append, List.length_singleton]; omega
    | cons y0 rest =>
      obtain ⟨A, C, hA, hB, hc, _⟩ := List.filter_eq_cons_iff.mp hf
      subst hA
      obtain ⟨q, hh, ht0⟩ := y0
      simp only [Bool.and_eq_true, decide_eq_true_eq] at hc
      have hq := hl (q, hh, ht0) (by simp)
      refine sm_last (sm_if (cc := true) (EvT.is (et_test (ev_op (ev_var rfl) (EvN.ev (evn_lst ea_nil (by decide))) rd_nil)) rfl) (fun _ => ?_) (fun z => by cases z))
      refine sm_dropX (P1 := fun b1 d => b1 = b.put q (.lst ((hh :: ht0).map pD ++ [pD p]))) (ex_append (es := fun _ => True) (P1 := fun b1 d => b1 = b ∧ d = pD p) (p := q) (ev_op (ev_var rfl) ev_int (rd_ixL (atI_nat (j := 0) rfl))) (ex_pure (ev_var rfl) ⟨rfl, rfl⟩) (fun b1 d ⟨e1, e2⟩ => ⟨_, by subst e1; exact hq, ?_, by rw [e1, e2]; rfl⟩) ⟨_, hq⟩) fun b1 d e => ?_
      · have h1 : (hh :: ht0).length ≤ (V.take i).length := nodup_le (List.Pairwise.sublist (List.sublist_flatten_of_mem (List.mem_map.mpr ⟨(q, hh, ht0), by simp, rfl⟩)) (L.perm.nodup_iff.mpr (List.Pairwise.sublist (List.take_sublist _ _) net.nd))) fun a ha => inV (q, hh, ht0) (by simp) a ha
        rw [List.length_take] at h1
        show ((hh :: ht0).map pD).length ≤ 100000
        rw [List.length_map]
        omega
      subst e
      have nd2 := ndp.2
      rw [List.map_append, List.map_cons, List.nodup_append, List.nodup_cons] at nd2
      obtain ⟨n1, ⟨n2, n3⟩, n4⟩ := nd2
      have keys : (A ++ (q, hh, ht0 ++ [p]) :: C).map (·.1) = (A ++ (q, hh, ht0) :: C).map (·.1) := by simp
      have refs : (A ++ (q, hh, ht0 ++ [p]) :: C).map (fun y : Lo => D.ref y.1) = (A ++ (q, hh, ht0) :: C).map fun y => D.ref y.1 := by simp
      refine sm_next ⟨A ++ (q, hh, ht0 ++ [p]) :: C, _, _, ?_, ?_, ?_, ?_, ?_, rfl⟩
      · rw [refs]
        exact mem_put_ne hp fun e => ney (q, hh, ht0) (by simp) e.symm
      · intro y hy
        rcases List.mem_append.mp hy with h | h
        · refine mem_put_ne (hl y (by simp [h])) fun e => ?_
          exact n4 y.1 (List.mem_map.mpr ⟨y, h, rfl⟩) q List.mem_cons_self e
        · rcases List.mem_cons.mp h with rfl | h
          · have : M.lst ((hh :: ht0).map pD ++ [pD p]) = M.lst (Lo.l (q, hh, ht0 ++ [p]) |>.map pD) := by simp [Lo.l]
            rw [this]
            exact mem_put hq
          · refine mem_put_ne (hl y (by simp [h])) fun e => ?_
            exact n2 (e ▸ List.mem_map.mpr ⟨y, h, rfl⟩)
      · rw [keys, List.nodup_cons]; exact ndp
      · rw [ht, List.map_append, List.map_cons]
        rw [List.map_append, List.map_cons] at L
        exact L.add ((hR hh (hdV (q, hh, ht0) (by simp)) p).mp hc.1).rs ((hR p hpV hh).mp hc.2).rs
      · simp at hlen ⊢; omega
  case f =>
    rintro b ρ ⟨ys, x, y, hp, hl, ndp, L, hlen, rfl⟩
    rw [List.length_map] at hlen L
    rw [List.take_length] at L
    refine sm_frzLs (b := b.ul) (xs := ys) (ad := fun y => y.1) (f := fun y => .lst (y.l.map pD)) (i := 1) hp hl ndp rfl fun b1 hfl1 hold => ?_
    have eD : D.lst (ys.map fun y => (M.lst (y.l.map pD)).d) = .lst ((ys.map Lo.l).map lD) := by rw [List.map_map]; rfl
    rw [eD]
    have hLl : (ys.map Lo.l).length ≤ 33 := by rw [List.length_map]; omega
    generalize ys.map Lo.l = Ls at L hLl ⊢
    have hfl1 : b1.fl = true := hfl1
    have hrl : (ranksL V R Ls).length = Ls.length := by simp [ranksL]
    refine sm_setN (ds := []) (evn_lst ea_nil (by decide)) fun pr fr => ?_
    refine sm_for (P2 := fun b3 ds => b3 = b1.add pr (.lst []) ∧ ds = (Ls.map lD).zipIdx.map fun q => .tup [.int (q.2 : Nat), q.1]) (sx_pure (src_enum (ea_cons (ev_var rfl) ea_nil)) ⟨rfl, rfl⟩) ?_
    rintro b3 ds ⟨rfl, rfl⟩
    refine ⟨fun i b ρ => ∃ x y u v, b.fl = true ∧ (pr, M.lst (((ranksL V R Ls).take i).map qD)) ∈ b.rt ∧ ρ = [some (reachD V R), some (.lst (Ls.map lD)), x, y, some (.ref pr), u, v, none, none], ⟨_, _, _, _, hfl1, mem_add, rfl⟩, ?_, ?_⟩
    · rintro i b ρ ⟨x, y, u, v, hfl, hm, rfl⟩ d hd
      have hi : i < Ls.length := by
        have := (List.getElem?_eq_some_iff.mp hd).1
        simpa using this
      have hl0 : Ls[i]? = some Ls[i] := List.getElem?_eq_getElem hi
      have hlm := List.getElem_mem hi
      have hd' : d = .tup [.int (i : Nat), lD Ls[i]] := by
        rw [List.getElem?_map, List.getElem?_zipIdx, List.getElem?_map, hl0] at hd
        simp at hd
        exact hd.symm
      have hr : (ranksL V R Ls).take (i + 1) = (ranksL V R Ls).take i ++ [(((rankL V R Ls[i] : Nat) : Int), ((i : Nat) : Int))] := by
        rw [List.take_add_one]
        congr 1
        unfold ranksL
        rw [List.getElem?_map, List.getElem?_zipIdx, hl0]
        simp
      subst hd'
      generalize Ls[i] = l at hl0 hlm hr ⊢
      cases l with
      | nil => exact absurd rfl (L.ne _ hlm)
      | cons hh t =>
        refine ⟨_, _, tg_pair (vs := [5, 6]) (by decide) (by decide), ?_⟩
        refine sm_last (sm_dropX (P1 := fun b1 d => b1 = b.put pr (.lst (((ranksL V R Ls).take (i + 1)).map qD))) (ex_append (es := fun _ => True) (P1 := fun b1 d => b1 = b ∧ d = qD ((rankL V R (hh :: t) : Nat), ((i : Nat) : Int))) (ev_var rfl) (ex_pure (Ev.is (ev_tup (ea_cons (ev_cb (ea_cons (EvN.ev (evn_lcL (xs := V) (enc := pD) (c := fun a => decide (hh ∈ R a) && !decide (a ∈ hh :: t)) (f := pD) (SrcL.is (sl_keysT hfl (kn_var rfl)) (by rw [List.map_map]; rfl)) (by omega) fun a ha => ?_)) ea_nil) rc_lenQ) (ea_cons (ev_var rfl) ea_nil)) (by simp)) ?_) ⟨rfl, rfl⟩) (fun b1 d ⟨e1, e2⟩ => by subst e1 e2; exact ⟨_, hm, by simp; omega, by rw [hr, List.map_append]; rfl⟩) ⟨_, hm⟩) fun b1 d e => ?_)
        · exact lct (tg_name (by decide)) (et_and (et_B (ev_inT (p := hh) (ev_op (ev_var rfl) ev_int (rd_ixL (atI_nat (j := 0) rfl))) (ev_dgetT (ev_var rfl) (ev_var rfl) (valD_map pK_inj' ha)) metD_is)) fun _ => et_test (ev_op (ev_var rfl) (ev_var rfl) rd_ninPr)) fun _ => ev_var rfl
        · have e : (V.filter fun a => decide (hh ∈ R a) && !decide (a ∈ hh :: t)).length = rankL V R (hh :: t) := by
            unfold rankL
            refine congrArg List.length (List.filter_congr fun a _ => ?_)
            rw [Bool.eq_iff_iff]
            simp
          rw [List.length_map, e]
          rfl
        · subst e
          exact sm_next ⟨_, _, _, _, hfl, mem_put hm, rfl⟩
    · rintro b ρ ⟨x, y, u, v, hfl, hm, rfl⟩
      rw [List.length_map, List.length_zipIdx, List.length_map, ← hrl, List.take_length] at hm
      refine sm_frz (i := 4) hm rfl ?_
      refine sm_retX (ex_lcX (enc := qD) (c := fun _ => true) (f := fun q => lD (atL Ls q)) (P1 := fun b' ds => ∃ qs : List (Int × Int), ds = qs.map qD ∧ qs.Perm (ranksL V R Ls) ∧ qs.Pairwise fun x y => SrtO.lexB y x = false) (sx_list (ex_sortedPO (ps := ranksL V R Ls) (ea_cons (ev_var rfl) ea_nil) fun qs p h => ⟨qs.map qD, rfl, qs, rfl, p, h⟩)) ?_)
      rintro b' ds ⟨qs, rfl, p, hpw⟩
      refine ⟨qs, rfl, by rw [p.length_eq, hrl]; omega, fun q hq => ?_, [], ⟨rfl, qs.map (atL Ls), ?_, lots_sorted net.nd hR L p hpw⟩, rfl, (fun x hx => nomatch hx)⟩
      · obtain ⟨j, l, h1, h2, h3, h4⟩ := ranks_mem (p.mem_iff.mp hq)
        rw [h4]
        refine lct (tg_pair (x := .int q.1) (y := .int q.2) (by decide) (by decide)) et_yes fun _ => ev_op (ev_var rfl) (ev_var rfl) (rd_ixL (i := q.2) ?_)
        rw [h2]
        exact atI_nat (by rw [List.getElem?_map, h1]; rfl)
      · rw [List.filter_eq_self.mpr (fun _ _ => rfl), List.map_map]
        rfl
end
end Sh
set_option Elab.async false
set_option linter.all false
set_option maxRecDepth 100000
/-! Ml: the law's papers: what joins lots, levels, lacks and the judge. -/
namespace Sh
open PySem L2
theorem rightB_eq (lv : Pr → Int) (lk : Int → Option Str) (p : Pr) (ss : List Pr) : rightB lv lk p ss = rightG (fun q : Pr => q.1) lv lk p ss := by
  unfold rightB rightG
  cases lk (lv p) <;> rfl
theorem lackL_eq (W : List Str) (l : List Pr) (R : Pr → List Pr) : lackL W l R = lackG (fun q : Pr => q.1) W l R := by
  have e : (l.any fun p => decide (p ∈ R p)) = true ↔ ∃ p ∈ l, p ∈ R p := by simp
  unfold lackL lackG
  congr 1
  congr 1
  by_cases h : ∃ p ∈ l, p ∈ R p
  · rw [if_pos (e.mpr h), if_pos (by simpa using h)]
  · rw [if_neg (fun z => h (e.mp z)), if_neg (by simpa using h)]
def nsL (k : Int) (m : Nat) : List Int := (List.range m).map fun (i : Nat) => (i : Int) * k - 7
def LkL (k : Int) (Ms : List (List Pr)) (W : List Str) (R : Pr → List Pr) (n : Int) : List (Option Str) := match Ms[((n + 7) / k).toNat]? with
  | some l => lackL W l R
  | none => []
def chL (k : Int) (Ms : List (List Pr)) (W : List Str) (R : Pr → List Pr) (n : Int) : List (Option Str) := if LkL k Ms W R n = [] then W.map some ++ [none] else LkL k Ms W R n
section
variable {V : List Pr} {S R : Pr → List Pr} {Ms : List (List Pr)} {W us : List Str} {k : Int}
theorem LkL_at (hk : 1 ≤ k) {i : Nat} {l : List Pr} (h : Ms[i]? = some l) : LkL k Ms W R ((i : Int) * k - 7) = lackL W l R := by
  unfold LkL
  rw [show (i : Int) * k - 7 + 7 = (i : Int) * k by omega, Int.mul_ediv_cancel _ (by omega), Int.toNat_natCast, h]
theorem LkL_len (n : Int) : (LkL k Ms W R n).length ≤ W.length + 1 := by
  unfold LkL
  split
  · unfold lackL
    rw [List.length_append, List.length_map, List.length_replicate]
    rename_i l _
    have := List.length_filter_le (fun w => !(l.any fun p => decide (p.1 = w))) W
    split <;> omega
  · exact Nat.zero_le _
theorem chL_len (n : Int) : 1 ≤ (chL k Ms W R n).length ∧ (chL k Ms W R n).length ≤ W.length + 1 := by
  unfold chL
  split
  · simp
  · rename_i h
    exact ⟨List.length_pos_iff.mpr h, LkL_len n⟩
theorem nsL_nodup (hk : 1 ≤ k) (m : Nat) : (nsL k m).Nodup := by
  unfold nsL
  refine List.pairwise_map.mpr (List.Pairwise.imp ?_ List.nodup_range)
  intro a b h e
  have e1 : (a : Int) * k = (b : Int) * k := by omega
  have := Int.eq_of_mul_eq_mul_right (by omega : k ≠ 0) e1
  exact h (by omega)
theorem lots_few (L : Lots V S Ms) : Ms.length ≤ V.length := by
  rw [← L.perm.length_eq, List.length_flatten]
  have ne := L.ne
  clear L
  induction Ms with
  | nil => exact Nat.zero_le _
  | cons l Ms ih =>
    have h1 := List.length_pos_iff.mpr (ne l List.mem_cons_self)
    have h2 := ih fun m hm => ne m (List.mem_cons_of_mem _ hm)
    simp only [List.map_cons, List.sum_cons, List.length_cons]
    omega
theorem num_at (L : Lots V S Ms) {i : Nat} {l : List Pr} (h : Ms[i]? = some l) {p : Pr} (hp : p ∈ l) : numL Ms k p = (i : Int) * k - 7 := by unfold numL; rw [ix_is L h hp]
theorem paper_of (L : Lots (pairsOf W us) S Ms) (hk : 1 ≤ k) (nd : W.Nodup) (few : (pairsOf W us).length ≤ 33) {lk : Int → Option Str} (hc : ∀ n ∈ nsL k Ms.length, lk n ∈ chL k Ms W R n) : Paper W us Ms.flatten (numL Ms k) (nsL k Ms.length) lk := by
  have lf := lots_few L
  refine ⟨L.perm, pairs_nodup nd, by rw [L.perm.length_eq]; omega, nsL_nodup hk _, fun n => ⟨fun h => ?_, fun h => ?_⟩, by simp [nsL]; omega, fun n hn => ?_⟩
  · obtain ⟨i, hi, rfl⟩ := List.mem_map.mp h
    have hi := List.mem_range.mp hi
    have g : Ms[i]? = some Ms[i] := List.getElem?_eq_getElem hi
    obtain ⟨p, hp⟩ := List.exists_mem_of_ne_nil _ (L.ne _ (List.getElem_mem hi))
    exact List.mem_map.mpr ⟨p, List.mem_flatten.mpr ⟨_, List.getElem_mem hi, hp⟩, num_at L g hp⟩
  · obtain ⟨p, hp, rfl⟩ := List.mem_map.mp h
    obtain ⟨h1, _⟩ := ix_lt L (L.perm.mem_iff.mp hp)
    exact List.mem_map.mpr ⟨_, List.mem_range.mpr h1, rfl⟩
  · have := hc n hn
    unfold chL at this
    split at this
    · rcases List.mem_append.mp this with h | h
      · exact List.mem_cons_of_mem _ h
      · rw [List.mem_singleton.mp h]; exact List.mem_cons_self
    · obtain ⟨i, hi, rfl⟩ := List.mem_map.mp hn
      have hi := List.mem_range.mp hi
      rw [LkL_at hk (List.getElem?_eq_getElem hi)] at this
      cases e : lk ((i : Int) * k - 7) with
      | none => exact List.mem_cons_self
      | some w =>
        rw [e, lackL_eq] at this
        exact List.mem_cons_of_mem _ (List.mem_map.mpr ⟨w, (lackG_some this).1, rfl⟩)
theorem right_eq (L : Lots V S Ms) (hR : ∀ a ∈ V, ∀ b, b ∈ R a ↔ Rp S a b) (cl : ∀ p ∈ V, ∀ s ∈ S p, s ∈ V) (hk : 1 ≤ k) {lk : Int → Option Str} (hc : ∀ n ∈ nsL k Ms.length, lk n ∈ chL k Ms W R n) :
    (Ms.flatten.all fun p => rightB (numL Ms k) lk p (S p)) = decide (∀ l ∈ Ms, lackL W l R ≠ []) := by
  have := right_all (wd := fun q : Pr => q.1) (W := W) L hR cl hk (lk := lk) fun i l h => by
    have hi := (List.getElem?_eq_some_iff.mp h).1
    have h2 := hc ((i : Int) * k - 7) (List.mem_map.mpr ⟨i, List.mem_range.mpr hi, rfl⟩)
    unfold chL at h2
    rw [LkL_at hk h, lackL_eq] at h2
    exact h2
  simp only [rightB_eq, lackL_eq]
  exact this
/-- the numbers that lack nothing -/
def fullN (k : Int) (Ms : List (List Pr)) (W : List Str) (R : Pr → List Pr) : List Int := (nsL k Ms.length).filter fun n => (LkL k Ms W R n).isEmpty
theorem fullN_nil (hk : 1 ≤ k) : fullN k Ms W R = [] ↔ ∀ l ∈ Ms, lackL W l R ≠ [] := by
  unfold fullN
  rw [List.filter_eq_nil_iff]
  constructor
  · intro h l hl e
    obtain ⟨i, hi, ei⟩ := List.getElem_of_mem hl
    have g : Ms[i]? = some l := by rw [List.getElem?_eq_getElem hi, ei]
    refine h ((i : Int) * k - 7) (List.mem_map.mpr ⟨i, List.mem_range.mpr hi, rfl⟩) ?_
    rw [LkL_at hk g, e]
    rfl
  · intro h n hn e
    obtain ⟨i, hi, rfl⟩ := List.mem_map.mp hn
    have hi := List.mem_range.mp hi
    rw [LkL_at hk (List.getElem?_eq_getElem hi), List.isEmpty_iff] at e
    exact h _ (List.getElem_mem hi) e
theorem unsafe_full (L : Lots V S Ms) (hR : ∀ a ∈ V, ∀ b, b ∈ R a ↔ Rp S a b) : UnsafeP W V S ↔ ¬ ∀ l ∈ Ms, lackL W l R ≠ [] := by
  have := full_iff (wd := fun q : Pr => q.1) (W := W) L hR
  unfold UnsafeP
  rw [← this]
  simp only [lackL_eq]
  constructor
  · rintro ⟨l, hl, e⟩ h
    exact h l hl e
  · intro h
    simp only [ne_eq, Classical.not_forall, Classical.not_not] at h
    obtain ⟨l, hl, e⟩ := h
    exact ⟨l, hl, e⟩
end
end Sh
set_option Elab.async false
set_option linter.all false
set_option maxRecDepth 100000
set_option maxHeartbeats 4000000
/-! WU: the law's right. -/
namespace Sh
open PySem L2
local macro_rules | `(tactic| walk_at "ev1") => `(tactic| first
  | (with_reducible apply ev_var); rfl
  | with_reducible exact ev_int
  | with_reducible exact ev_str
  | with_reducible exact ev_bl
  | with_reducible exact ev_non
  | with_reducible exact ev_ty
  | with_reducible apply ev_op
  | with_reducible apply ev_cb
  | with_reducible apply ea_cons
  | with_reducible exact ea_nil
  | with_reducible exact rd_I0 rfl
  | with_reducible exact rd_I0b rfl
  | with_reducible apply rd_I rfl
  | with_reducible exact rd_eqI
  | with_reducible exact rd_neI
  | with_reducible exact rd_eqS
  | with_reducible exact rd_neS
  | with_reducible exact rd_isN
  | with_reducible exact rd_notN
  | with_reducible exact rd_fst
  | with_reducible exact rd_snd
  | with_reducible exact rc_lenL
  | with_reducible exact rc_lenT
  | with_reducible apply rc_lenS
  | with_reducible exact rc_intB
  | with_reducible exact rc_min
  | with_reducible exact rc_all
  | with_reducible exact rc_any
  | with_reducible apply ev_slS
  | with_reducible exact eo_none
  | with_reducible apply eo_some
  | with_reducible apply et_test
  | with_reducible apply et_B
  | with_reducible apply et_not
  | with_reducible apply ev_notV
  | (with_reducible apply ev_un); rotate_left; rfl)
local macro_rules | `(tactic| walk_at "ev") => `(tactic| repeat' walk_at "ev1")
theorem StIn.puts0 {ps pg : Addr} {T : Nat} {b b' : Bx} (h : StIn ps pg T b) (pu : Puts b [] b') : StIn ps pg T b' := by
  obtain ⟨mr, h1, h2⟩ := h
  exact ⟨mr, h1, fun x hx => pu.old x (h2 x hx) (fun z => nomatch z)⟩
theorem takeFl {α : Type} (Ms : List (List α)) (i : Nat) : ((Ms.take i).flatten).Sublist Ms.flatten := by
  have e : Ms.flatten = (Ms.take i).flatten ++ (Ms.drop i).flatten := by rw [← List.flatten_append, List.take_append_drop]
  rw [e]
  exact List.sublist_append_left _ _
theorem bneB (x y : Bool) : (!decide (x = y)) = false ↔ x = y := by cases x <;> cases y <;> decide
section
variable {P : Program} {w : World} {K : PySem.W.Frag} {mg : Str → Option Value} {base : Heap}
/-! _law_right -/
abbrev s_L_right : Stmt := (topS 50)
abbrev N_L_right : List Str := ["_law_state", "_law_words", "_law_knots", "_law_line", "_law_size", "_law_parts", "_law_steps_here", "_law_reach", "_law_lots_here", "_law_numbers", "_law_by", "_law_at", "_law_lot", "_law_lacks", "_law_full", "_law_told", "_law_turn", "_law_chosen", "_law_number", "_law_pair"]
theorem sc_L_right : FnScope N_L_right ["_law_state", "_law_words", "_law_knots", "_law_line"] (defScope s_L_right) := ⟨rfl, rfl, rfl, by decide +kernel, rfl, by decide +kernel, by decide +kernel⟩
structure GRt where
  ps : Addr
  pg : Addr
  T : Nat
  W : List Str
  k : Nat
  row : Str
  us : List Str
def Pre_right (C : Addr) : GRt → List D → List (Addr × M) → Prop := fun g ds mr => ds = [.ref g.ps, sD g.W, gD C g.W, .str g.row] ∧ StAt g.ps g.pg g.T mr ∧ Ringy g.W g.k ∧ Along g.W g.k g.row g.us ∧ g.us.length ≤ 12 ∧ RowOk g.row ∧ g.T + 200 ≤ 1000000
def Post_right : GRt → D → List (Addr × M) → Prop := fun g d mr => StAt g.ps g.pg (g.T + 200) mr ∧ d = .bl true
theorem ok_L_right {C : Addr} {f : Addr} {fd : FuncData} (F : Fun K "_law_right" "_law_right" s_L_right f fd) (T : Bu K w mg) (F_L_take : Fn P w K mg base 1 "_law_take" ["_law_state", "_law_many"] (MutG false 2 Pre_take Post_take)) (F_L_pick : Fn P w K mg base 2 "_law_pick" ["_law_state", "_law_some"] (MutG false 2 Pre_pick Post_pick))
    (F_L_pairs : Fn P w K mg base 1 "_law_pairs" ["_law_words", "_law_parts"] (PureSp false 2 R_L_pairs)) (F_L_steps : Fn P w K mg base 2 "_law_steps" ["_law_words", "_law_parts", "_law_pair"] (PureSp false 3 R_L_steps)) (F_L_reached : Fn P w K mg base 1 "_law_reached" ["_law_steps_here", "_law_pair"] (MutG false 2 Pre_reached Post_reached))
    (F_L_lots : Fn P w K mg base 2 "_law_lots" ["_law_reach"] (MutG true 1 Pre_LL Post_LL)) (F_L_lacking : Fn P w K mg base 1 "_law_lacking" ["_law_words", "_law_lot", "_law_reach"] (PureSp false 3 R_L_lacking)) (F_safe_or_not : Fn P w K mg base 6 "safe_or_not" ["graph", "row"] (MutG true 2 (Pre_safe C) Post_safe)) (F_lets_by : Fn P w K mg base 4 "lets_by" ["graph", "row", "paper"] (PureSp true 3 (R_lets_by C))) :
    FnOk P w K mg base CX0 7 f fd ["_law_state", "_law_words", "_law_knots", "_law_line"] (MutG true 4 (Pre_right C) Post_right) := by
  refine F.ok sc_L_right (fun vs H Q E h => h.1) (fun cdv A outer s H vs Q E hr h => ?_)
  have nd := sc_L_right.nd
  have hu := hu_of hr
  have hu0 := hr.units0
  have hu65 := hu65_of hr
  have hu2 : _ + 2 < cLine := Nat.lt_of_le_of_lt (Nat.add_le_add_left (by decide : 2 ≤ 65) _) hu65
  refine ⟨_, (pss_cons (ps_set (i := 4) nd rfl (Or.inr rfl) (pe_callB call_len_str (by rfl) T.n_len (by decide +kernel) (pa_cons (pe_ix ix_list (pv 1) pe_int (fun _ _ => rfl)) pa_nil)))
  (pss_cons (ps_set (i := 5) nd rfl (Or.inr rfl) (pe_lc (g := (gName 11)) (tt := tYes) (te := (tSl rSlS (tVar 3) (tPart (tVar 11)) (tPart (tOp _ (tVar 11) (tVar 4))))) (own := [("_law_at", 11)]) rfl nd (pi_range1 (by rfl) T.n_range (pa_cons (pe_op op_add (pe_op op_sub (pe_callB call_len_str (by rfl) T.n_len (by decide +kernel) (pa_cons (pv 3) pa_nil)) (pv 4)) pe_int) pa_nil)) (blkOk_by (own := [("_law_at", 11)]) (N := N_L_right) (sc := (defScope s_L_right)) (by decide +kernel)) (fun _ _ _ _ _ => (pg_name (i := 11) nd rfl (Or.inl rfl))) (fun _ _ _ _ _ => pts_nil) (fun _ _ _ _ _ => (pe_slice sl_str (pv 3) (po_some (pv 11)) (po_some (pe_op op_add (pv 11) (pv 4)))))))
  (pss_cons (ps_set (i := 6) nd rfl (Or.inr rfl) (pe_callTy (call_dictPT rfl hu2) (by rfl) T.n_dict (by decide +kernel) (pa_cons (pe_lc (g := (gName 19)) (tt := tYes) (te := (tTup (tCons (tVar 19) (tCons (tCall _ _ _ (tCons (tVar 1) (tCons (tVar 5) (tCons (tVar 19) tNil)))) tNil)))) (own := [("_law_pair", 19)]) rfl nd (pi_list (pe_fn F_L_pairs (hr.mono (by decide)) rfl (pa_cons (pv 1) (pa_cons (pv 5) pa_nil)))) (blkOk_by (own := [("_law_pair", 19)]) (N := N_L_right) (sc := (defScope s_L_right)) (by decide +kernel)) (fun _ _ _ _ _ => (pg_name (i := 19) nd rfl (Or.inl rfl))) (fun _ _ _ _ _ => pts_nil) (fun _ _ _ _ _ => (pe_tup (pa_cons (pv 19) (pa_cons (pe_fn F_L_steps (hr.mono (by decide)) rfl (pa_cons (pv 1) (pa_cons (pv 5) (pa_cons (pv 19) pa_nil)))) pa_nil))))) pa_nil)))
  (pss_cons (ps_set (i := 7) nd rfl (Or.inr rfl) (pe_callTy (call_dictPT rfl hu2) (by rfl) T.n_dict (by decide +kernel) (pa_cons (pe_lock (pe_lc (g := (gName 19)) (tt := tYes) (te := (tTup (tCons (tVar 19) (tCons (tCall _ _ _ (tCons (tVar 6) (tCons (tVar 19) tNil))) tNil)))) (own := [("_law_pair", 19)]) rfl nd (pi_keys (pv 6)) (blkOk_by (own := [("_law_pair", 19)]) (N := N_L_right) (sc := (defScope s_L_right)) (by decide +kernel)) (fun _ _ _ _ _ => (pg_name (i := 19) nd rfl (Or.inl rfl))) (fun _ _ _ _ _ => pts_nil) (fun _ _ _ _ _ => (pe_tup (pa_cons (pv 19) (pa_cons (pe_fn F_L_reached (hr.mono (by decide)) rfl (pa_cons (pv 6) (pa_cons (pv 19) pa_nil))) pa_nil)))))) pa_nil)))
  (pss_cons (ps_asg (pe_tup (pa_cons (pe_fn F_L_lots (hr.mono (by decide)) rfl (pa_cons (pv 7) pa_nil)) (pa_cons pe_dnewT (pa_cons (pe_op op_add pe_int (pe_fn F_L_take (hr.mono (by decide)) rfl (pa_cons (pv 0) (pa_cons pe_int pa_nil)))) pa_nil)))) (pg_tup rfl (pgs_cons (pg_name (i := 8) nd rfl (Or.inl rfl)) (pgs_cons (pg_name (i := 9) nd rfl (Or.inl rfl)) (pgs_cons (pg_name (i := 10) nd rfl (Or.inr rfl)) pgs_nil)))))
  (pss_cons (ps_for PassesOwn.never rfl (pi_enum (by rfl) T.n_enumerate (pa_cons (pv 8) pa_nil)) (pg_tup rfl (pgs_cons (pg_name (i := 11) nd rfl (Or.inr rfl)) (pgs_cons (pg_name (i := 12) nd rfl (Or.inl rfl)) pgs_nil))) (pss_one (ps_expr (pe_bm PySem.F.plainAttrs_dict PySem.F.slot_dict_update PySem.F.type_dict_update (mt_updT hu) (pv 9) (pa_cons (pe_callTy (call_dictPT rfl hu2) (by rfl) T.n_dict (by decide +kernel) (pa_cons (pe_lc (g := (gName 19)) (tt := tYes) (te := (tTup (tCons (tVar 19) (tCons (tOp _ (tOp _ (tVar 11) (tVar 10)) (tC _)) tNil)))) (own := [("_law_pair", 19)]) rfl nd (pi_list (pv 12)) (blkOk_by (own := [("_law_pair", 19)]) (N := N_L_right) (sc := (defScope s_L_right)) (by decide +kernel)) (fun _ _ _ _ _ => (pg_name (i := 19) nd rfl (Or.inl rfl))) (fun _ _ _ _ _ => pts_nil) (fun _ _ _ _ _ => (pe_tup (pa_cons (pv 19) (pa_cons (pe_op op_sub (pe_op op_mul (pv 11) (pv 10)) pe_int) pa_nil))))) pa_nil)) pa_nil)))))
  (pss_cons (ps_set (i := 13) nd rfl (Or.inr rfl) (pe_callTy (call_dictP rfl) (by rfl) T.n_dict (by decide +kernel) (pa_cons (pe_lc (g := (gTup _ 2 (gCons (gName 11) (gCons (gName 12) gNil)))) (tt := tYes) (te := (tTup (tCons (tOp _ (tOp _ (tVar 11) (tVar 10)) (tC _)) (tCons (tCall _ _ _ (tCons (tVar 1) (tCons (tVar 12) (tCons (tVar 7) tNil)))) tNil)))) (own := [("_law_at", 11), ("_law_lot", 12)]) rfl nd (pi_enum (by rfl) T.n_enumerate (pa_cons (pv 8) pa_nil)) (blkOk_by (own := [("_law_at", 11), ("_law_lot", 12)]) (N := N_L_right) (sc := (defScope s_L_right)) (by decide +kernel)) (fun _ _ _ _ _ => (pg_tup rfl (pgs_cons (pg_name (i := 11) nd rfl (Or.inl rfl)) (pgs_cons (pg_name (i := 12) nd rfl (Or.inl rfl)) pgs_nil)))) (fun _ _ _ _ _ => pts_nil) (fun _ _ _ _ _ => (pe_tup (pa_cons (pe_op op_sub (pe_op op_mul (pv 11) (pv 10)) pe_int) (pa_cons (pe_fn F_L_lacking (hr.mono (by decide)) rfl (pa_cons (pv 1) (pa_cons (pv 12) (pa_cons (pv 7) pa_nil)))) pa_nil))))) pa_nil)))
  (pss_cons (ps_lock (ps_setLc (i := 14) (g := (gName 18)) (tt := (tTest (tOp (rNil false _) (tDGet (tVar 13) (tVar 18)) (tLst tNil)))) (te := (tVar 18)) (own := [("_law_number", 18)]) rfl nd rfl rfl (sw_true rfl rfl rfl (by decide +kernel)) (pi_keys (pv 13)) (blkOk_by (own := [("_law_number", 18)]) (N := N_L_right) (sc := (defScope s_L_right)) (by decide +kernel)) (fun _ _ _ _ _ => (pg_name (i := 18) nd rfl (Or.inl rfl))) (fun _ _ _ _ _ => (pts_one (pt_cmpR (op_eqNil hu0) (pe_dget hu (pv 13) (pv 18) (fun _ _ => rfl)) (pe_lst pa_nil) (nomark _)))) (fun _ _ _ _ _ => (pv 18))))
  (pss_cons (ps_set (i := 15) nd rfl (Or.inl rfl) (pe_fn F_safe_or_not (hr.mono (by decide)) rfl (pa_cons (pv 2) (pa_cons (pv 3) pa_nil))))
  (pss_cons (ps_if (pt_cmpR op_ne (pe_cmpR op_eq (pe_ix ix_tup (pv 15) pe_int (fun _ _ => rfl)) pe_str (nomark _)) (pe_cmpR (op_eqNil hu0) (pv 14) (pe_lst pa_nil) (nomark _)) (nomark _)) (pss_one (ps_ret pe_bl)) pss_nil)
  (pss_cons (ps_for PassesOwn.never rfl (pi_range1 (by rfl) T.n_range (pa_cons pe_int pa_nil)) (pg_name (i := 16) nd rfl (Or.inl rfl)) (pss_cons (ps_set (i := 17) nd rfl (Or.inl rfl) pe_dnewK)
  (pss_cons (ps_lock (ps_for PassesOwn.never rfl (pi_keys (pv 13)) (pg_name (i := 18) nd rfl (Or.inl rfl)) (pss_one (ps_dput hu (pv 17) (pv 18) (pe_fn F_L_pick (hr.mono (by decide)) rfl (pa_cons (pv 0) (pa_cons (pe_ifExp (pt_cmpR (op_neNil hu0) (pe_dget hu (pv 13) (pv 18) (fun _ _ => rfl)) (pe_lst pa_nil) (nomark _)) (pe_dget hu (pv 13) (pv 18) (fun _ _ => rfl)) (pe_op op_cat (pv 1) (pe_lst (pa_cons pe_non pa_nil)))) pa_nil))) rfl))))
  (pss_one (ps_if (pt_cmpR op_ne (pe_fn F_lets_by (hr.mono (by decide)) rfl (pa_cons (pv 2) (pa_cons (pv 3) (pa_cons (pe_tup (pa_cons (pv 9) (pa_cons (pv 17) pa_nil))) pa_nil)))) (pe_cmpR (op_eqNil hu0) (pv 14) (pe_lst pa_nil) (nomark _)) (nomark _)) (pss_one (ps_ret pe_bl)) pss_nil)))))
  (pss_one (ps_ret pe_bl))))))))))))), ?_⟩
  refine body_okG h fun gh ds mr hn hP B => ?_
  clear h hu hu0 hu65 hu2 hr nd F_L_take F_L_pick F_L_pairs F_L_steps F_L_reached F_L_lots F_L_lacking F_safe_or_not F_lets_by F
  obtain ⟨ps, pg, T, W, k, row, us⟩ := gh
  obtain ⟨rfl, hst, rg, al, h12, hro, hT⟩ := (show ds = [.ref ps, sD W, gD C W, .str row] ∧ StAt ps pg T mr ∧ Ringy W k ∧ Along W k row us ∧ us.length ≤ 12 ∧ RowOk row ∧ T + 200 ≤ 1000000 from hP)
  clear hP hn
  have g := rg.good
  have hk : 3 ≤ k ∧ k ≤ 7 := by have := g.size; omega
  have hW21 := rg.few
  have hws := al.words
  have hal := al.len
  have hus1 : 1 ≤ us.length := List.length_pos_iff.mpr al.ne
  obtain ⟨w0, W', eW⟩ : ∃ w0 W', W = w0 :: W' := by
    cases hc : W with
    | nil => exact absurd hc g.ne
    | cons a b => exact ⟨a, b, rfl⟩
  have hw0 : w0 ∈ W := by rw [eW]; exact List.mem_cons_self
  have hw0k := g.len w0 hw0
  have wl : ∀ x ∈ W, x.length ≤ 1000 := fun x hx => by rw [g.len x hx]; omega
  have hplen := pairs_len (W := W) (ws := us) hus1
  have net : Net (pairsOf W us) (stepsOf W us) := net_of (by omega) (pairs_nodup g.nd) (by omega)
  have hVW : ∀ p ∈ pairsOf W us, p.1 ∈ W := fun p hp => (mem_pairsOf.mp hp).1
  have hVl : ∀ p ∈ pairsOf W us, p.2 < us.length := fun p hp => pairs_lt hp hus1
  have sti : StIn ps pg T ⟨true, mr⟩ := ⟨mr, hst, fun x hx => hx⟩
  -- size, parts
  refine sm_set (d := .int (k : Nat)) (Ev.is (ev_cb (ea_cons (ev_op (ev_var rfl) ev_int (rd_ixL (d := .str w0) (atI_nat (j := 0) (by rw [eW]; rfl)))) ea_nil) (rc_lenS (sizeOk (by omega)))) (by rw [hw0k])) ?_
  refine sm_set (d := sD us) (EvN.ev (EvN.is (evn_lcY (xs := List.range (row.length + 1 - k)) (enc := fun (i : Nat) => .int i) (f := fun i => .str (cutS row (some (i : Int)) (some ((i : Int) + k)))) (Src.is (src_rng1 (n := (row.length : Int) - k + 1) (ea_cons (ev_op (ev_op (ev_cb (ea_cons (ev_var rfl) ea_nil) (rc_lenS (sizeOk (by omega)))) (ev_var rfl) (rd_I0 rfl)) ev_int (rd_I0 rfl)) ea_nil) (by omega)) (by congr 2; omega)) (by simp; omega) fun i hi => ?_) ?_)) ?_
  · exact lct (tg_name (by decide)) et_yes fun _ => ev_slS (ev_var rfl) (eo_some (ev_var rfl)) (eo_some (ev_op (ev_var rfl) (ev_var rfl) (rd_I0 rfl))) (sizeOk (by omega))
  · rw [← hws]; simp [wordsS]
  -- steps
  refine sm_set (d := SD (pairsOf W us) (stepsOf W us)) (Ev.is (ev_cb (ea_cons (EvN.ev (EvN.is (evn_lcY (xs := pairsOf W us) (enc := pD) (f := fun p => .tup [pD p, lD (stepsOf W us p)]) (src_list (ev_call (ea_cons (ev_var rfl) (ea_cons (ev_var rfl) ea_nil)) rfl ⟨W, us, rfl, by omega, hus1, by omega, rfl⟩ (fun z => by cases z))) (by omega) fun p hp => ?_) (es := prsT ((pairsOf W us).map fun p => (p, lD (stepsOf W us p)))) ?_)) ea_nil) rc_dictPT) ?_) ?_
  · exact lct (tg_name (by decide)) et_yes fun _ => ev_tup (ea_cons (ev_var rfl) (ea_cons (ev_call (ea_cons (ev_var rfl) (ea_cons (ev_var rfl) (ea_cons (ev_var rfl) ea_nil))) rfl ⟨W, us, p, rfl, wl, wl _ (hVW p hp), by omega, hVl p hp, by omega, rfl⟩ (fun z => by cases z)) ea_nil)) (by simp)
  · simp [prsT, Function.comp_def]
  · rw [List.map_map]
    show D.dT (mkD ((pairsOf W us).map fun p => (pK p, lD (stepsOf W us p)))) = _
    rw [mkD_map pK_inj' net.nd]
    rfl
  generalize hV : pairsOf W us = V at *
  generalize hS : stepsOf W us = S at *
  have few := net.few
  have tk : ∀ {i : Nat} (hi : i < V.length), V.take (i + 1) = V.take i ++ [V[i]] := fun {i} hi => by rw [List.take_add_one, List.getElem?_eq_getElem hi]; rfl
  -- reach
  refine sm_setX (P1 := fun b' d => b'.fl = true ∧ StIn ps pg T b' ∧ ∃ R : Pr → List Pr, d = reachD V R ∧ ∀ a ∈ V, ∀ q, q ∈ R a ↔ Rp S a q) (ex_cb (P2 := fun b' ds => b'.fl = true ∧ StIn ps pg T b' ∧ ∃ R : Pr → List Pr, ds = [.lst (prsT (V.map fun a => (a, .dT (metD (R a)))))] ∧ ∀ a ∈ V, ∀ q, q ∈ R a ↔ Rp S a q) (xa_cons (P' := fun b' d => b'.fl = true ∧ StIn ps pg T b' ∧ ∃ R : Pr → List Pr, d = .lst (prsT (V.map fun a => (a, .dT (metD (R a))))) ∧ ∀ a ∈ V, ∀ q, q ∈ R a ↔ Rp S a q) (EvX.frz (m := fun _ _ _ => True) (ex_lcEL (xs := V) (enc := pD) rfl (SrcL.is (sl_keysT rfl (kn_var rfl)) (by rw [List.map_map]; rfl)) (by omega) (fun p i ds b' => StIn ps pg T b' ∧ p ≠ ps ∧ p ≠ pg ∧ ∃ R : Pr → List Pr, ds = ((V.take i).map fun a => .tup [pD a, .dT (metD (R a))]) ∧ ∀ a ∈ V.take i, ∀ q, q ∈ R a ↔ Rp S a q) ?h0 ?turn ?q)) ?xa) ?qq) ?reach
  case h0 =>
    intro p fp
    obtain ⟨n1, n2⟩ := sti.ne fp
    exact ⟨⟨mr, hst, fun x hx => mem_add_of hx⟩, n1, n2, fun _ => [], rfl, (fun a ha => nomatch ha)⟩
  case turn =>
    rintro B' p i a b' ds hx ⟨hst1, np1, np2, R, rfl, hR⟩ hm
    have hi : i < V.length := (List.getElem?_eq_some_iff.mp hx).1
    have ht := tk hi
    rw [List.getElem?_eq_getElem hi] at hx
    have haV := List.getElem_mem hi
    have han : V[i] ∉ V.take i := by
      have h2 : (V.take (i + 1)).Nodup := List.Pairwise.sublist (List.take_sublist _ _) net.nd
      rw [ht, List.nodup_append] at h2
      exact fun z => h2.2.2 _ z _ (by simp) rfl
    injection hx with hx
    rw [hx] at ht haV han
    refine ⟨_, tg_name (by decide), ex_tup (P1 := fun b1 ds => StIn ps pg T b1 ∧ (p, M.lst ((V.take i).map fun a => .tup [pD a, .dT (metD (R a))])) ∈ b1.rt ∧ ∃ ms, ds = [pD a, .dT (metD ms)] ∧ ∀ q, q ∈ ms ↔ Rp S a q) (xa_cons (P' := fun b1 d => b1 = b' ∧ d = pD a) (ex_pure (ev_var rfl) ⟨rfl, rfl⟩) ?_) ?_⟩
    · rintro b1 d ⟨rfl, rfl⟩
      refine xa_cons (P' := fun b2 d => StIn ps pg T b2 ∧ (p, M.lst ((V.take i).map fun a => .tup [pD a, .dT (metD (R a))])) ∈ b2.rt ∧ ∃ ms, d = .dT (metD ms) ∧ ∀ q, q ∈ ms ↔ Rp S a q) (ex_callG (P1 := fun b2 ds => b2 = b1 ∧ ds = [SD V S, pD a]) (xa_pure (ea_cons (ev_var rfl) (ea_cons (ev_var rfl) ea_nil)) ⟨rfl, rfl⟩) ?_) ?_
      · rintro b2 ds ⟨rfl, rfl⟩
        refine ⟨rfl, (V, S, a), [], (fun x hx => nomatch hx), ⟨rfl, rfl, net, haV⟩, (fun z => by cases z), fun d ms' b3 hp ek pu => ?_⟩
        obtain ⟨rfl, ms, rfl, _, hms⟩ := hp
        exact ⟨hst1.puts0 pu, pu.old _ hm (fun z => nomatch z), ms, rfl, hms⟩
      · rintro b2 d ⟨h1, h2, ms, rfl, h3⟩
        exact xa_nil ⟨h1, h2, ms, rfl, h3⟩
    · rintro b2 ds ⟨h1, h2, ms, rfl, h3⟩
      refine ⟨by simp, h2, h1.put np1 np2 _, np1, np2, fun x => if x = a then ms else R x, ?_, fun x hx => ?_⟩
      · rw [ht, List.map_append, List.map_singleton]
        congr 1
        · refine List.map_congr_left fun x hx => ?_
          show D.tup [pD x, .dT (metD (R x))] = D.tup [pD x, .dT (metD (if x = a then ms else R x))]
          rw [if_neg (fun e : x = a => han (e ▸ hx))]
        · simp
      · rw [ht] at hx
        rcases List.mem_append.mp hx with h | h
        · show ∀ q, q ∈ (if x = a then ms else R x) ↔ _
          rw [if_neg (fun e : x = a => han (e ▸ h))]
          exact hR x h
        · rw [List.mem_singleton.mp h]
          show ∀ q, q ∈ (if a = a then ms else R a) ↔ _
          rw [if_pos rfl]
          exact h3
  case q =>
    rintro p b' ds ⟨hst1, np1, np2, R, rfl, hR⟩ hm
    rw [List.take_length] at hR hm
    refine ⟨p, _, rfl, hm, rfl, StIn.drop (b := b'.ul) hst1 np1 np2, R, ?_, hR⟩
    simp [M.d, prsT, Function.comp_def]
  case xa =>
    rintro b' d ⟨h1, h2, R, rfl, h3⟩
    exact xa_nil ⟨h1, h2, R, rfl, h3⟩
  case qq =>
    rintro b' ds ⟨h1, h2, R, rfl, h3⟩
    refine ⟨_, rc_dictPT, h1, h2, R, ?_, h3⟩
    rw [List.map_map]
    show D.dT (mkD (V.map fun p => (pK p, .dT (metD (R p))))) = _
    rw [mkD_map pK_inj' net.nd]
    rfl
  rintro b1 d ⟨hfl1, hst1, R, rfl, hR⟩
  -- lots, numbers, by
  refine sm_triX (P1 := fun b2 d => b2.fl = true ∧ StIn ps pg (T + 1) b2 ∧ ∃ (Ms : List (List Pr)) (pn : Addr) (j : Nat), d = .tup [.lst (Ms.map lD), .ref pn, .int (j : Nat)] ∧ Lots V S Ms ∧ pn ≠ ps ∧ pn ≠ pg ∧ (pn, M.dT []) ∈ b2.rt ∧ 1 ≤ j ∧ j ≤ 9) (ex_tup (P1 := fun b2 ds => b2.fl = true ∧ StIn ps pg (T + 1) b2 ∧ ∃ (Ms : List (List Pr)) (pn : Addr) (j : Nat), ds = [.lst (Ms.map lD), .ref pn, .int (j : Nat)] ∧ Lots V S Ms ∧ pn ≠ ps ∧ pn ≠ pg ∧ (pn, M.dT []) ∈ b2.rt ∧ 1 ≤ j ∧ j ≤ 9) (xa_cons (P' := fun b2 d => b2.fl = true ∧ StIn ps pg T b2 ∧ ∃ Ms : List (List Pr), d = .lst (Ms.map lD) ∧ Lots V S Ms) (ex_callG (P1 := fun b2 ds => b2 = b1 ∧ ds = [reachD V R]) (xa_pure (ea_cons (ev_var rfl) ea_nil) ⟨rfl, rfl⟩) ?c1) ?c2) ?c3) ?lots
  case c1 =>
    rintro b2 ds ⟨rfl, rfl⟩
    refine ⟨rfl, (V, S, R), [], (fun x hx => nomatch hx), ⟨rfl, rfl, net, hR⟩, (fun _ => hfl1), fun d ms' b3 hp ek pu => ?_⟩
    obtain ⟨rfl, Ms, rfl, hMs⟩ := hp
    exact ⟨pu.fl.trans hfl1, hst1.puts0 pu, Ms, rfl, hMs⟩
  case c2 =>
    rintro b2 d ⟨h1, h2, Ms, rfl, h3⟩
    refine xa_cons (P' := fun b3 d => b3.fl = true ∧ StIn ps pg T b3 ∧ ∃ pn, d = .ref pn ∧ pn ≠ ps ∧ pn ≠ pg ∧ (pn, M.dT []) ∈ b3.rt) (ex_dnewT fun pn fp => ⟨h1, h2.add _ _, pn, rfl, (h2.ne fp).1, (h2.ne fp).2, mem_add⟩) ?_
    rintro b3 d ⟨h4, h5, pn, rfl, h6, h7, h8⟩
    refine xa_cons (P' := fun b4 d => b4.fl = true ∧ StIn ps pg (T + 1) b4 ∧ (pn, M.dT []) ∈ b4.rt ∧ ∃ j : Nat, d = .int (j : Nat) ∧ 1 ≤ j ∧ j ≤ 9) (ex_opR ev_int (ex_take0 (n := 9) (T := T) rfl ev_int h5 (by decide) (by decide) (by omega) fun b4 j h9 h10 h11 => ⟨.int (1 + (j : Int)), rd_I0 rfl, h10.fl.trans h4, h9, h10.keep _ _ h6 h7 h8, j + 1, by congr 1; omega, by omega, by omega⟩)) ?_
    rintro b4 d ⟨h9, h10, h11, j, rfl, h12, h13⟩
    exact xa_nil ⟨h9, h10, Ms, pn, j, rfl, h3, h6, h7, h11, h12, h13⟩
  case c3 =>
    rintro b2 ds ⟨h1, h2, Ms, pn, j, rfl, h3⟩
    exact ⟨by simp, h1, h2, Ms, pn, j, rfl, h3⟩
  rintro b2 d ⟨hfl2, hst2, Ms, pn, j, rfl, L, np1, np2, hpn, hj1, hj2⟩
  refine ⟨_, _, _, rfl, ?_⟩
  have hby : (1 : Int) ≤ (j : Int) := by omega
  have lf := lots_few L
  have hVnd := net.nd
  have inV : ∀ l ∈ Ms, ∀ p ∈ l, p ∈ V := fun l hl p hp => L.perm.mem_iff.mp (List.mem_flatten.mpr ⟨l, hl, hp⟩)
  have flnd : Ms.flatten.Nodup := L.perm.nodup_iff.mpr hVnd
  have lnd : ∀ l ∈ Ms, l.Nodup := fun l hl => List.Pairwise.sublist (List.sublist_flatten_of_mem hl) flnd
  have llen : ∀ l ∈ Ms, l.length ≤ 33 := fun l hl => Nat.le_trans (nodup_le (lnd l hl) (inV l hl)) few
  have mtk : ∀ {i : Nat} (hi : i < Ms.length), Ms.take (i + 1) = Ms.take i ++ [Ms[i]] := fun {i} hi => by rw [List.take_add_one, List.getElem?_eq_getElem hi]; rfl
  have hfirst : ∃ u0, Ms[0]? = some [(u0, 0)] := by
    have h0 : us[0]? = some us[0] := List.getElem?_eq_getElem (by omega)
    refine ⟨us[0], first_lot L hVnd net.cl ?_ (fun p _ => ?_) ?_⟩
    · rw [← hV]; exact mem_pairsOf.mpr ⟨al.inW _ (List.getElem_mem _), .inl rfl⟩
    · rw [← hS]; exact first_no h0 p
    · rw [← hV, ← hS]; exact first_all rg.conn al.inW al.nx h0
  obtain ⟨u0, hfirst⟩ := hfirst
  -- the numbers
  refine sm_for (P2 := fun b3 ds => b3 = b2 ∧ ds = (Ms.map lD).zipIdx.map fun q => .tup [.int (q.2 : Nat), q.1]) (sx_pure (src_enum (ea_cons (ev_var rfl) ea_nil)) ⟨rfl, rfl⟩) ?_
  rintro b3 ds ⟨rfl, rfl⟩
  refine ⟨fun i b ρ => ∃ x y, b.fl = true ∧ StIn ps pg (T + 1) b ∧ (pn, M.dT (((Ms.take i).flatten).map fun p => (pK p, .int (numL Ms j p)))) ∈ b.rt ∧ ρ = [some (.ref ps), some (sD W), some (gD C W), some (.str row), some (.int (k : Nat)), some (sD us), some (SD V S), some (reachD V R), some (.lst (Ms.map lD)), some (.ref pn), some (.int (j : Nat)), x, y, none, none, none, none, none, none, none], ⟨_, _, hfl2, hst2, hpn, rfl⟩, ?_, ?_⟩
  · rintro i b ρ ⟨x, y, hfl, hst3, hm, rfl⟩ d hd
    have hi : i < Ms.length := by
      have := (List.getElem?_eq_some_iff.mp hd).1
      simpa using this
    have hl0 : Ms[i]? = some Ms[i] := List.getElem?_eq_getElem hi
    have hlm := List.getElem_mem hi
    have ht := mtk hi
    have hd' : d = .tup [.int (i : Nat), lD Ms[i]] := by
      rw [List.getElem?_map, List.getElem?_zipIdx, List.getElem?_map, hl0] at hd
      simp at hd
      exact hd.symm
    subst hd'
    generalize Ms[i] = l at hl0 hlm ht ⊢
    have hll := llen l hlm
    have hnum : ∀ p ∈ l, numL Ms (j : Int) p = (i : Int) * j - 7 := fun p hp => num_at L hl0 hp
    have more : (l.map fun p => (pK p, D.int ((i : Int) * j - 7))) = l.map fun p => (pK p, D.int (numL Ms j p)) := List.map_congr_left fun p hp => by rw [hnum p hp]
    have keys : (((((Ms.take i).flatten).map fun p => (pK p, D.int (numL Ms j p))) ++ (l.map fun p => (pK p, D.int (numL Ms j p)))).map (·.1)).Nodup := by
      rw [← List.map_append, List.map_map]
      have e : (Ms.take i).flatten ++ l = (Ms.take (i + 1)).flatten := by rw [ht, List.flatten_append]; simp
      rw [e]
      have : (Ms.take (i + 1)).flatten.Nodup := by
        exact List.Pairwise.sublist (takeFl Ms _) flnd
      exact List.pairwise_map.mpr (List.Pairwise.imp (fun {a c} h e => h (pK_inj' a c e)) this)
    refine ⟨_, _, tg_pair (vs := [11, 12]) (by decide) (by decide), ?_⟩
    refine sm_last (sm_dropX (P1 := fun b1 d => b1 = b.put pn (.dT (((Ms.take (i + 1)).flatten).map fun p => (pK p, .int (numL Ms j p))))) (ex_updT (more := l.map fun p => (pK p, D.int (numL Ms j p))) hfl (ev_var rfl) (Ev.is (ev_cb (ea_cons (EvN.ev (EvN.is (evn_lcY (xs := l) (enc := pD) (f := fun p => .tup [pD p, .int ((i : Int) * j - 7)]) (src_list (ev_var rfl)) (by omega) fun p hp => ?_) (es := prsT (l.map fun p => (p, .int ((i : Int) * j - 7)))) ?_)) ea_nil) rc_dictPT) ?_) hm ?_ ?_ ?_) fun b1 d e => ?_)
    · exact lct (tg_name (by decide)) et_yes fun _ => ev_tup (ea_cons (ev_var rfl) (ea_cons (ev_op (ev_op (ev_var rfl) (ev_var rfl) (rd_I rfl (.inl (by omega)))) ev_int (rd_I0 rfl)) ea_nil)) (by simp)
    · simp [prsT, Function.comp_def]
    · rw [List.map_map]
      show D.dT (mkD (l.map fun p => (pK p, D.int ((i : Int) * j - 7)))) = _
      rw [mkD_map pK_inj' (lnd l hlm), more]
    · rcases Nat.eq_zero_or_pos i with z | z
      · subst z
        rw [hfirst] at hl0
        injection hl0 with hl0
        refine .inr ?_
        rw [← hl0]
        simp
      · refine .inl fun e => ?_
        have : (u0, 0) ∈ (Ms.take i).flatten := List.mem_flatten.mpr ⟨[(u0, 0)], List.mem_of_getElem? (by rw [List.getElem?_take, if_pos z]; exact hfirst), List.mem_singleton.mpr rfl⟩
        rw [List.map_eq_nil_iff] at e
        rw [e] at this
        cases this
    · have h1 : (Ms.take i).flatten.length ≤ V.length := by
        rw [← L.perm.length_eq]
        exact (takeFl Ms i).length_le
      rw [List.length_map, List.length_map]
      omega
    · rw [mkD_nodup _ _ keys, ht, List.flatten_append, List.map_append]
      simp
    · subst e
      exact sm_next ⟨_, _, hfl, hst3.put np1 np2 _, mem_put hm, rfl⟩
  rintro b3 ρ3 ⟨x3, y3, hfl3, hst3, hm3, rfl⟩
  rw [List.length_map, List.length_zipIdx, List.length_map, List.take_length] at hm3
  refine sm_frz (i := 9) hm3 rfl ?_
  have hst4 := hst3.drop np1 np2
  have hfl4 : (b3.drop pn).fl = true := hfl3
  generalize b3.drop pn = b4 at hst4 hfl4
  clear hm3 hst3 hfl3 np1 np2 hpn
  have mle : Ms.length ≤ 33 := by omega
  -- lacks
  refine sm_set (d := .dK ((nsL j Ms.length).map fun n => (Sum.inl n, .lst ((LkL j Ms W R n).map oD)))) (Ev.is (ev_cb (ea_cons (EvN.ev (EvN.is (evn_lcY (xs := Ms.zipIdx) (enc := fun q => .tup [.int (q.2 : Nat), lD q.1]) (f := fun q => .tup [.int ((q.2 : Int) * j - 7), .lst ((lackL W q.1 R).map oD)]) (Src.is (src_enum (ea_cons (ev_var rfl) ea_nil)) ?la) (by simp; omega) fun q hq => ?lb) (es := prsK ((nsL j Ms.length).map fun n => (Sum.inl n, .lst ((LkL j Ms W R n).map oD)))) ?lc)) ea_nil) rc_dictP) ?ld) ?lacks
  case la =>
    refine List.ext_getElem? fun i => ?_
    rw [List.getElem?_map, List.getElem?_map, List.getElem?_zipIdx, List.getElem?_zipIdx, List.getElem?_map]
    cases Ms[i]? <;> rfl
  case lb =>
    have h3 := List.mem_zipIdx_iff_getElem?.mp hq
    have hi := (List.getElem?_eq_some_iff.mp h3).1
    have hm := List.mem_of_getElem? h3
    exact lct (tg_pair (by decide) (by decide)) et_yes fun _ => ev_tup (ea_cons (ev_op (ev_op (ev_var rfl) (ev_var rfl) (rd_I rfl (.inl (by omega)))) ev_int (rd_I0 rfl)) (ea_cons (ev_call (ea_cons (ev_var rfl) (ea_cons (ev_var rfl) (ea_cons (ev_var rfl) ea_nil))) rfl ⟨W, q.1, V, R, rfl, by omega, by have := llen _ hm; omega, inV _ hm, rfl⟩ (fun z => by cases z)) ea_nil)) (by simp)
  case lc =>
    unfold prsK nsL
    rw [List.map_map, List.map_map]
    refine List.ext_getElem? fun i => ?_
    rw [List.getElem?_map, List.getElem?_map, List.getElem?_zipIdx]
    by_cases hi : i < Ms.length
    · have hl0 : Ms[i]? = some Ms[i] := List.getElem?_eq_getElem hi
      rw [hl0, List.getElem?_range hi]
      show some (D.tup [.int (((0 + i : Nat) : Int) * j - 7), .lst ((lackL W Ms[i] R).map oD)]) = some (D.tup [.int ((i : Int) * j - 7), .lst ((LkL j Ms W R ((i : Int) * j - 7)).map oD)])
      rw [LkL_at hby hl0, Nat.zero_add]
    · rw [List.getElem?_eq_none (by omega), List.getElem?_eq_none (by simpa using hi)]
      rfl
  case ld =>
    rw [mkD_map inl_inj' (nsL_nodup hby _)]
  have nle : (nsL j Ms.length).length = Ms.length := by simp [nsL]
  have gLk : ∀ n ∈ nsL j Ms.length, valD ((nsL j Ms.length).map fun n => ((Sum.inl n : Key), D.lst ((LkL j Ms W R n).map oD))) (Sum.inl n) = some (.lst ((LkL j Ms W R n).map oD)) := fun n hn => valD_map inl_inj' hn
  -- full
  refine sm_lockAsg (sm_set (d := .lst ((fullN j Ms W R).map .int)) (EvN.ev (evn_lcL (xs := nsL j Ms.length) (enc := .int) (c := fun n => (LkL j Ms W R n).isEmpty) (f := .int) (SrcL.is (sl_keysK hfl4 (kn_var rfl)) (by rw [List.map_map]; rfl)) (by omega) fun n hn => ?fa)) ?full)
  case fa =>
    exact lct (tg_name (by decide)) (EvT.is (et_test (ev_op (ev_dgetK (k := Sum.inl n) (ev_var rfl) (ev_var rfl) (gLk n hn)) (EvN.ev (evn_lst ea_nil (by decide))) rd_nil)) (by simp)) fun _ => ev_var rfl
  have hfull : (∀ l ∈ Ms, lackL W l R ≠ []) ↔ fullN j Ms W R = [] := (fullN_nil hby).symm
  generalize hFN : fullN (j : Int) Ms W R = FN at hfull ⊢
  have hsz : (V.length + 1) * W.length ≤ 33 * 21 := Nat.mul_le_mul (by omega) hW21
  -- told
  refine sm_setX (P1 := fun b' d => b'.fl = true ∧ StIn ps pg (T + 1) b' ∧ ∃ t y, d = .tup [.str t, y] ∧ decide (t = "safe") = FN.isEmpty) (ex_callG (P1 := fun b' ds => b' = b4 ∧ ds = [gD C W, .str row]) (xa_pure (ea_cons (ev_var rfl) (ea_cons (ev_var rfl) ea_nil)) ⟨rfl, rfl⟩) ?ta) ?told
  case ta =>
    rintro b' ds ⟨rfl, rfl⟩
    refine ⟨rfl, (W, k, row), [], (fun x hx => nomatch hx), ⟨rfl, rfl, g, rg.conn, hro, by omega, by omega, by rw [hws, hV]; exact net.nd, by rw [hws, hV]; exact few, by rw [hws, hV]; omega⟩, (fun _ => hfl4), fun d ms' b5 hp ek pu => ?_⟩
    obtain ⟨rfl, t, y, rfl, h⟩ := hp
    refine ⟨pu.fl.trans hfl4, hst4.puts0 pu, t, y, rfl, ?_⟩
    rw [hws, hV, hS, unsafe_full L hR, hfull] at h
    rcases h with ⟨rfl, h⟩ | ⟨rfl, h⟩
    · cases FN with
      | nil => exact absurd rfl h
      | cons => show decide (("unsafe" : Str) = "safe") = false; decide +kernel
    · have h := Classical.not_not.mp h
      rw [h]
      decide +kernel
  rintro b5 d ⟨hfl5, hst5, t, y, rfl, ht⟩
  refine sm_if (cc := false) (EvT.is (et_test (ev_op (ev_op (ev_op (ev_var rfl) ev_int (rd_ixT (d := .str t) (atI_nat (j := 0) rfl))) ev_str rd_eqS) (ev_op (ev_var rfl) (EvN.ev (evn_lst ea_nil (by decide))) rd_nil) rd_neB)) ?_) (fun z => by cases z) fun _ => sm_unit ?_
  · rw [bneB, ht]; simp
  -- turns
  refine sm_for (P2 := fun b6 ds => b6 = b5 ∧ ds = (List.range 3).map fun (i : Nat) => D.int (i : Int)) (sx_pure (src_rng1 (n := 3) (ea_cons ev_int ea_nil) (by decide)) ⟨rfl, rfl⟩) ?_
  rintro b6 ds ⟨rfl, rfl⟩
  refine ⟨fun i b ρ => i ≤ 3 ∧ ∃ x y1 z, b.fl = true ∧ StIn ps pg (T + 1 + 40 * i) b ∧ ρ = [some (.ref ps), some (sD W), some (gD C W), some (.str row), some (.int (k : Nat)), some (sD us), some (SD V S), some (reachD V R), some (.lst (Ms.map lD)), some (levD Ms.flatten (numL Ms j)), some (.int (j : Nat)), x3, y3, some (.dK ((nsL j Ms.length).map fun n => (Sum.inl n, .lst ((LkL j Ms W R n).map oD)))), some (.lst (FN.map .int)), some (.tup [.str t, y]), x, y1, z, none], ⟨by decide, _, _, _, hfl5, hst5, rfl⟩, ?_, ?_⟩
  · rintro i b ρ ⟨_, x, y1, z, hfl, hst6, rfl⟩ d hd
    have hi : i < 3 := by
      have := (List.getElem?_eq_some_iff.mp hd).1
      simpa using this
    refine ⟨_, _, tg_name (vs := [16]) (by decide), ?_⟩
    refine sm_setX (P1 := fun b' d => ∃ pc, d = .ref pc ∧ b'.fl = true ∧ StIn ps pg (T + 1 + 40 * i) b' ∧ pc ≠ ps ∧ pc ≠ pg ∧ (pc, M.dK []) ∈ b'.rt) (ex_dnewK fun pc fp => ⟨pc, rfl, hfl, hst6.add _ _, (hst6.ne fp).1, (hst6.ne fp).2, mem_add⟩) ?_
    rintro b7 d7 ⟨pc, rfl, hfl7, hst7, nc1, nc2, hpc⟩
    refine sm_forL (ds := (nsL j Ms.length).map .int) hfl7 (SrcL.is (sl_keysK hfl7 (kn_var rfl)) (by rw [List.map_map]; rfl)) (fun m b ρ => m ≤ 33 ∧ ∃ (lk : Int → Option Str) (x : Option D), StIn ps pg (T + 1 + 40 * i + m) b ∧ (pc, M.dK (((nsL j Ms.length).take m).map fun n => (Sum.inl n, oD (lk n)))) ∈ b.rt ∧ (∀ n ∈ (nsL j Ms.length).take m, lk n ∈ chL j Ms W R n) ∧ ρ = [some (.ref ps), some (sD W), some (gD C W), some (.str row), some (.int (k : Nat)), some (sD us), some (SD V S), some (reachD V R), some (.lst (Ms.map lD)), some (levD Ms.flatten (numL Ms j)), some (.int (j : Nat)), x3, y3, some (.dK ((nsL j Ms.length).map fun n => (Sum.inl n, .lst ((LkL j Ms W R n).map oD)))), some (.lst (FN.map .int)), some (.tup [.str t, y]), some d, some (.ref pc), x, none]) ⟨by decide, fun _ => none, z, hst7, hpc, (fun n hn => nomatch hn), rfl⟩ ?_ ?_
    · rintro B' m b ρ ⟨_, lk, x, hst8, hm8, hlk, rfl⟩ d8 hd8
      have hm : m < (nsL j Ms.length).length := by
        have := (List.getElem?_eq_some_iff.mp hd8).1
        simpa using this
      have ht2 : (nsL j Ms.length).take (m + 1) = (nsL j Ms.length).take m ++ [(nsL j Ms.length)[m]] := by rw [List.take_add_one, List.getElem?_eq_getElem hm]; rfl
      have hnm := List.getElem_mem hm
      have hnn : (nsL j Ms.length)[m] ∉ (nsL j Ms.length).take m := by
        have h2 : ((nsL j Ms.length).take (m + 1)).Nodup := List.Pairwise.sublist (List.take_sublist _ _) (nsL_nodup hby _)
        rw [ht2, List.nodup_append] at h2
        exact fun z => h2.2.2 _ z _ (by simp) rfl
      rw [List.getElem?_map, List.getElem?_eq_getElem hm] at hd8
      cases hd8
      generalize (nsL j Ms.length)[m] = n at ht2 hnm hnn ⊢
      refine ⟨_, _, tg_name (vs := [18]) (by decide), ?_⟩
      have hcl := chL_len (k := (j : Int)) (Ms := Ms) (W := W) (R := R) n
      have hLl := LkL_len (k := (j : Int)) (Ms := Ms) (W := W) (R := R) n
      refine sm_last (sm_dputK (k := Sum.inl n) (P1 := fun b' d => StIn ps pg (T + 1 + 40 * i + m + 1) b' ∧ (pc, M.dK (((nsL j Ms.length).take m).map fun n => (Sum.inl n, oD (lk n)))) ∈ b'.rt ∧ ∃ o, o ∈ chL j Ms W R n ∧ d = oD o) (ex_pick0 (els := (chL j Ms W R n).map oD) (T := T + 1 + 40 * i + m) rfl (Ev.is (ev_if (c := !(LkL j Ms W R n).isEmpty) (EvT.is (et_test (ev_op (ev_dgetK (k := Sum.inl n) (ev_var rfl) (ev_var rfl) (gLk n hnm)) (EvN.ev (evn_lst ea_nil (by decide))) rd_nil)) (by simp)) (fun _ => ev_dgetK (k := Sum.inl n) (ev_var rfl) (ev_var rfl) (gLk n hnm)) (fun _ => EvN.ev (EvN.is (evn_op (ev_var rfl) (EvN.ev (evn_lst (ea_cons ev_non ea_nil) (by decide))) (rn_cat ?_)) (es := (W.map some ++ [none]).map oD) ?_))) (d' := .lst ((chL j Ms W R n).map oD)) ?_) (.inl rfl) hst8 (by rw [List.length_map]; omega) (by rw [List.length_map]; omega) (by omega) fun b9 x9 h1 h2 h3 => ?_) ?_)
      · simp; exact sizeOk (by omega)
      · rw [List.map_append, List.map_map]; rfl
      · unfold chL
        cases LkL (j : Int) Ms W R n <;> rfl
      · obtain ⟨o, ho, rfl⟩ := List.mem_map.mp h3
        exact ⟨h1, h2.keep _ _ nc1 nc2 hm8, o, ho, rfl⟩
      · rintro b9 x9 ⟨h1, h2, o, ho, rfl⟩
        have hno : valD (((nsL j Ms.length).take m).map fun n => ((Sum.inl n : Key), oD (lk n))) (Sum.inl n) = none := valD_map_none inl_inj' hnn
        refine ⟨pc, _, ev_var rfl, ev_var rfl, h2, by simp; omega, sm_next ⟨by omega, fun q => if q = n then o else lk q, _, h1.put nc1 nc2 _, ?_, fun q hq => ?_, rfl⟩⟩
        · rw [putD_none hno, ht2, List.map_append, List.map_singleton]
          have e1 : (((nsL j Ms.length).take m).map fun q => ((Sum.inl q : Key), oD (if q = n then o else lk q))) = ((nsL j Ms.length).take m).map fun q => ((Sum.inl q : Key), oD (lk q)) := List.map_congr_left fun q hq => by rw [if_neg (fun e : q = n => hnn (e ▸ hq))]
          rw [e1]
          simp only [if_true]
          exact mem_put h2
        · rw [ht2] at hq
          show (if q = n then o else lk q) ∈ _
          rcases List.mem_append.mp hq with h | h
          · rw [if_neg (fun e : q = n => hnn (e ▸ h))]; exact hlk q h
          · rw [List.mem_singleton.mp h, if_pos rfl]; exact ho
    · rintro b ρ ⟨_, lk, x, hst8, hm8, hlk, rfl⟩
      rw [List.length_map, List.take_length] at hm8 hlk
      rw [List.length_map] at hst8
      refine sm_frz (b := b.ul) (i := 17) hm8 rfl ?_
      have hst9 := StIn.drop (b := b.ul) hst8 nc1 nc2
      have hfl9 : (b.ul.drop pc).fl = true := rfl
      generalize b.ul.drop pc = b9 at hst9 hfl9 ⊢
      have pap := paper_of (us := us) (by rw [hV]; exact L) hby g.nd (by rw [hV]; exact few) hlk
      have req := right_eq L hR net.cl hby hlk
      refine sm_last (sm_if (cc := false) (EvT.is (et_test (ev_op (ev_call (ea_cons (ev_var rfl) (ea_cons (ev_var rfl) (ea_cons (ev_tup (ea_cons (ev_var rfl) (ea_cons (ev_var rfl) ea_nil)) (by simp)) ea_nil))) rfl ⟨W, k, row, Ms.flatten, numL Ms j, nsL j Ms.length, lk, rfl, g, rg.conn, hro, by omega, by omega, by rw [hws]; exact pap, rfl⟩ (fun _ => hfl9)) (ev_op (ev_var rfl) (EvN.ev (evn_lst ea_nil (by decide))) rd_nil) rd_neB)) ?_) (fun z => by cases z) fun _ => sm_unit (sm_next ⟨by omega, _, _, _, hfl9, hst9.mono (by omega), rfl⟩))
      rw [bneB, hws, hS, req]
      have : decide (∀ l ∈ Ms, lackL W l R ≠ []) = decide (FN = []) := decide_eq_decide.mpr hfull
      rw [this]
      cases FN <;> rfl
  · rintro b ρ ⟨_, x, y1, z, hfl, ⟨mr', hst', hin⟩, rfl⟩
    rw [List.length_map, List.length_range] at hst'
    exact sm_ret ev_bl ⟨mr', ⟨hst'.mono (by show T + 1 + 40 * 3 ≤ T + 200; omega), rfl⟩, by rw [hst'.keys, hst.keys], hin⟩
end
end Sh
set_option Elab.async false
set_option linter.all false
set_option maxRecDepth 100000
set_option maxHeartbeats 4000000
/-! WV: the law. -/
namespace Sh
open PySem L2
local macro_rules | `(tactic| walk_at "ev1") => `(tactic| first
  | (with_reducible apply ev_var); rfl
  | with_reducible exact ev_int
  | with_reducible exact ev_str
  | with_reducible exact ev_bl
  | with_reducible exact ev_non
  | with_reducible exact ev_ty
  | with_reducible apply ev_op
  | with_reducible apply ev_cb
  | with_reducible apply ea_cons
  | with_reducible exact ea_nil
  | with_reducible exact rd_I0 rfl
  | with_reducible exact rd_I0b rfl
  | with_reducible apply rd_I rfl
  | with_reducible exact rd_eqI
  | with_reducible exact rd_neI
  | with_reducible exact rd_eqS
  | with_reducible exact rd_neS
  | with_reducible exact rd_isN
  | with_reducible exact rd_notN
  | with_reducible exact rd_fst
  | with_reducible exact rd_snd
  | with_reducible exact rc_lenL
  | with_reducible exact rc_lenT
  | with_reducible apply rc_lenS
  | with_reducible exact rc_intB
  | with_reducible exact rc_min
  | with_reducible exact rc_all
  | with_reducible exact rc_any
  | with_reducible apply ev_slS
  | with_reducible exact eo_none
  | with_reducible apply eo_some
  | with_reducible apply et_test
  | with_reducible apply et_B
  | with_reducible apply et_not
  | with_reducible apply ev_notV
  | (with_reducible apply ev_un); rotate_left; rfl)
local macro_rules | `(tactic| walk_at "ev") => `(tactic| repeat' walk_at "ev1")
section
variable {P : Program} {w : World} {K : PySem.W.Frag} {mg : Str → Option Value} {base : Heap}
/-! law -/
abbrev s_law : Stmt := (topS 51)
abbrev N_law : List Str := ["_law_script", "_law_state", "_law_turn", "_law_size", "_law_signs_here", "_law_words", "_law_knots", "_law_more"]
theorem sc_law : FnScope N_law ["_law_script"] (defScope s_law) := ⟨rfl, rfl, rfl, by decide +kernel, rfl, by decide +kernel, by decide +kernel⟩
theorem ok_law {C : Addr} {f : Addr} {fd : FuncData} (F : Fun K "law" "law" s_law f fd) (T : Bu K w mg) (F_L_begun : Fn P w K mg base 1 "_law_begun" ["_law_script"] (NewS K Post_begun)) (F_L_take : Fn P w K mg base 1 "_law_take" ["_law_state", "_law_many"] (MutG false 2 Pre_take Post_take)) (F_L_drawn : Fn P w K mg base 4 "_law_drawn" ["_law_state", "_law_most"] (MutG false 2 Pre_drawn Post_drawn))
    (F_L_walk : Fn P w K mg base 3 "_law_walk" ["_law_state", "_law_words", "_law_many"] (MutG false 3 Pre_walk Post_walk)) (F_L_right : Fn P w K mg base 7 "_law_right" ["_law_state", "_law_words", "_law_knots", "_law_line"] (MutG true 4 (Pre_right C) Post_right)) (F_Graph : Mke P w K mg base 5 C "Graph" ["self", "words"] (MutSp false 2 (Pre_Graph C) (Post_Graph C))) :
    FnOk P w K mg base CX0 8 f fd ["_law_script"] (spLaw K) := by
  refine F.ok sc_law (fun vs H Q E h => by obtain ⟨a, ns, rfl, _⟩ := h; rfl) (fun cdv A outer s H vs Q E hr h => ?_)
  have nd := sc_law.nd
  have hu := hu_of hr
  refine ⟨_, (pss_cons (ps_set (i := 1) nd rfl (Or.inl rfl) (pe_fn F_L_begun (hr.mono (by decide)) rfl (pa_cons (pv 0) pa_nil)))
  (pss_cons (ps_for PassesOwn.never rfl (pi_range1 (by rfl) T.n_range (pa_cons pe_int pa_nil)) (pg_name (i := 2) nd rfl (Or.inl rfl)) (pss_cons (ps_asg (pe_fn F_L_drawn (hr.mono (by decide)) rfl (pa_cons (pv 1) (pa_cons pe_int pa_nil))) (pg_tup rfl (pgs_cons (pg_name (i := 3) nd rfl (Or.inl rfl)) (pgs_cons (pg_name (i := 4) nd rfl (Or.inl rfl)) (pgs_cons (pg_name (i := 5) nd rfl (Or.inl rfl)) pgs_nil)))))
  (pss_cons (ps_set (i := 6) nd rfl (Or.inl rfl) (pe_mk F_Graph (hr.mono (by decide)) rfl (pa_cons (pv 5) pa_nil)))
  (pss_one (ps_for PassesOwn.never rfl (pi_range1 (by rfl) T.n_range (pa_cons pe_int pa_nil)) (pg_name (i := 7) nd rfl (Or.inl rfl)) (pss_one (ps_if (pt_not (pt_val (pe_fn F_L_right (hr.mono (by decide)) rfl (pa_cons (pv 1) (pa_cons (pv 5) (pa_cons (pv 6) (pa_cons (pe_fn F_L_walk (hr.mono (by decide)) rfl (pa_cons (pv 1) (pa_cons (pv 5) (pa_cons (pe_op op_add pe_int (pe_fn F_L_take (hr.mono (by decide)) rfl (pa_cons (pv 1) (pa_cons pe_int pa_nil)))) pa_nil)))) pa_nil))))))) (pss_one (ps_ret pe_bl)) pss_nil)))))))
  (pss_one (ps_ret pe_bl)))), ?_⟩
  refine body_okL h fun a ns B hl hG => ?_
  refine sm_setX (P1 := fun b1 d => ∃ ps pg, d = .ref ps ∧ b1.fl = true ∧ StIn ps pg 0 b1) (ex_callS hG rfl hl fun d ms' hp hf => ?_) ?_
  · obtain ⟨ps, pg, rfl, hst⟩ := hp
    exact ⟨ps, pg, rfl, rfl, ms', hst, fun x hx => List.mem_append_left _ hx⟩
  rintro b1 d ⟨ps, pg, rfl, hfl1, hst1⟩
  refine sm_for (P2 := fun b2 ds => b2 = b1 ∧ ds = (List.range 2).map fun (i : Nat) => D.int (i : Int)) (sx_pure (src_rng1 (n := 2) (ea_cons ev_int ea_nil) (by decide)) ⟨rfl, rfl⟩) ?_
  rintro b2 ds ⟨rfl, rfl⟩
  refine ⟨fun i b ρ => i ≤ 2 ∧ ∃ x y z u v t, b.fl = true ∧ StIn ps pg (1000 * i) b ∧ ρ = [some (.ref a), some (.ref ps), x, y, z, u, v, t], ⟨by decide, _, _, _, _, _, _, hfl1, hst1, rfl⟩, ?_, ?_⟩
  · rintro i b ρ ⟨_, x, y, z, u, v, t, hfl, hst, rfl⟩ d hd
    have hi : i < 2 := by
      have := (List.getElem?_eq_some_iff.mp hd).1
      simpa using this
    refine ⟨_, _, tg_name (vs := [2]) (by decide), ?_⟩
    refine sm_triX (P1 := fun b3 d => b3.fl = true ∧ StIn ps pg (1000 * i + 30) b3 ∧ ∃ k z W, d = .tup [.int (k : Nat), z, sD W] ∧ Ringy W k) (ex_callG (P1 := fun b3 ds => b3 = b ∧ ds = [.ref ps, .int 9]) (xa_pure (ea_cons (ev_var rfl) (ea_cons ev_int ea_nil)) ⟨rfl, rfl⟩) ?_) ?_
    · rintro b3 ds ⟨rfl, rfl⟩
      obtain ⟨mr, hst, hin⟩ := hst
      refine ⟨rfl, ⟨ps, pg, 1000 * i⟩, mr, hin, ⟨rfl, hst, by show 1000 * i + 100 ≤ 1000000; omega⟩, (fun z => by cases z), fun d ms' b4 hp ek pu => ?_⟩
      exact ⟨pu.fl.trans hfl, ⟨ms', hp.1, pu.new⟩, hp.2⟩
    rintro b3 d3 ⟨hfl3, hst3, k, z3, W, rfl, rg⟩
    refine ⟨_, _, _, rfl, ?_⟩
    refine sm_set (d := gD C W) (ev_make (fs := gFs W) (ea_cons (ev_var rfl) ea_nil) rfl (fun z => by cases z) (fun x => ⟨x, W, k, rfl, rfl, rg.good, rg.su⟩) fun x d ms' hp hk => ?_) ?_
    · obtain ⟨x', W', e, rfl, rfl⟩ := hp
      have e1 : D.ref x = .ref x' := (List.cons.inj e).1
      have e2 : sD W = sD W' := (List.cons.inj (List.cons.inj e).2).1
      cases e1
      have e3 : W = W' := by
        have e4 : W.map D.str = W'.map D.str := by injection e2
        exact (List.map_inj_right (fun a c h => by injection h)).mp e4
      subst e3
      exact ⟨rfl, rfl⟩
    refine sm_last (sm_for (P2 := fun b4 ds => b4 = b3 ∧ ds = (List.range 2).map fun (i : Nat) => D.int (i : Int)) (sx_pure (src_rng1 (n := 2) (ea_cons ev_int ea_nil) (by decide)) ⟨rfl, rfl⟩) ?_)
    rintro b4 ds ⟨rfl, rfl⟩
    refine ⟨fun j b ρ => j ≤ 2 ∧ ∃ x t, b.fl = true ∧ StIn ps pg (1000 * i + 30 + 300 * j) b ∧ ρ = [some (.ref a), some (.ref ps), x, some (.int (k : Nat)), some z3, some (sD W), some (gD C W), t], ⟨by decide, _, _, hfl3, hst3, rfl⟩, ?_, ?_⟩
    · rintro j b ρ ⟨_, x, t, hfl, hst, rfl⟩ d hd
      have hj : j < 2 := by
        have := (List.getElem?_eq_some_iff.mp hd).1
        simpa using this
      refine ⟨_, _, tg_name (vs := [7]) (by decide), ?_⟩
      refine sm_last (sm_ifNotX (P1 := fun b5 d => d = .bl true ∧ b5.fl = true ∧ StIn ps pg (1000 * i + 30 + 300 * (j + 1)) b5) (ex_callG (P1 := fun b5 ds => b5.fl = true ∧ StIn ps pg (1000 * i + 30 + 300 * j + 13) b5 ∧ ∃ row us, ds = [.ref ps, sD W, gD C W, .str row] ∧ Along W k row us ∧ us.length ≤ 12 ∧ RowOk row) (xa_cons (P' := fun b5 d => b5 = b ∧ d = .ref ps) (ex_pure (ev_var rfl) ⟨rfl, rfl⟩) ?c1) ?c2) ?c3)
      case c1 =>
        rintro b5 d5 ⟨rfl, rfl⟩
        refine xa_cons (P' := fun b6 d => b6 = b5 ∧ d = sD W) (ex_pure (ev_var rfl) ⟨rfl, rfl⟩) ?_
        rintro b6 d6 ⟨rfl, rfl⟩
        refine xa_cons (P' := fun b7 d => b7 = b6 ∧ d = gD C W) (ex_pure (ev_var rfl) ⟨rfl, rfl⟩) ?_
        rintro b7 d7 ⟨rfl, rfl⟩
        refine xa_cons (P' := fun b8 d => b8.fl = true ∧ StIn ps pg (1000 * i + 30 + 300 * j + 13) b8 ∧ ∃ row us, d = .str row ∧ Along W k row us ∧ us.length ≤ 12 ∧ RowOk row) (ex_callG (P1 := fun b8 ds => b8.fl = true ∧ StIn ps pg (1000 * i + 30 + 300 * j + 1) b8 ∧ ∃ n : Nat, ds = [.ref ps, sD W, .int (n : Nat)] ∧ 1 ≤ n ∧ n ≤ 12) (xa_cons (P' := fun b8 d => b8 = b7 ∧ d = .ref ps) (ex_pure (ev_var rfl) ⟨rfl, rfl⟩) ?_) ?_) ?_
        · rintro b8 d8 ⟨rfl, rfl⟩
          refine xa_cons (P' := fun b9 d => b9 = b8 ∧ d = sD W) (ex_pure (ev_var rfl) ⟨rfl, rfl⟩) ?_
          rintro b9 d9 ⟨rfl, rfl⟩
          refine xa_cons (P' := fun b10 d => b10.fl = true ∧ StIn ps pg (1000 * i + 30 + 300 * j + 1) b10 ∧ ∃ n : Nat, d = .int (n : Nat) ∧ 1 ≤ n ∧ n ≤ 12) (ex_opR ev_int (ex_take0 (n := 12) (T := 1000 * i + 30 + 300 * j) rfl ev_int hst (by decide) (by decide) (by omega) fun b10 m h1 h2 h3 => ⟨.int (1 + (m : Int)), rd_I0 rfl, h2.fl.trans hfl, h1, m + 1, by congr 1; omega, by omega, by omega⟩)) ?_
          rintro b10 d10 ⟨h1, h2, n, rfl, h3, h4⟩
          exact xa_nil ⟨h1, h2, n, rfl, h3, h4⟩
        · rintro b8 ds ⟨h1, ⟨mr, h2, hin⟩, n, rfl, h3, h4⟩
          refine ⟨rfl, (⟨ps, pg, 1000 * i + 30 + 300 * j + 1⟩, W, k, n), mr, hin, ⟨rfl, h2, rg, h3, h4, by show 1000 * i + 30 + 300 * j + 1 + 12 ≤ 1000000; omega⟩, (fun z => by cases z), fun d ms' b9 hp ek pu => ?_⟩
          obtain ⟨hp1, row, us, rfl, al, hul, ro⟩ := hp
          exact ⟨pu.fl.trans h1, StIn.mono (T := 1000 * i + 30 + 300 * j + 1 + n) ⟨ms', hp1, pu.new⟩ (by omega), row, us, rfl, al, by omega, ro⟩
        · rintro b8 d8 ⟨h1, h2, row, us, rfl, h3⟩
          exact xa_nil ⟨h1, h2, row, us, rfl, h3⟩
      case c2 =>
        rintro b5 ds ⟨h1, ⟨mr, h2, hin⟩, row, us, rfl, al, hul, ro⟩
        refine ⟨rfl, ⟨ps, pg, 1000 * i + 30 + 300 * j + 13, W, k, row, us⟩, mr, hin, ⟨rfl, h2, rg, al, hul, ro, by show 1000 * i + 30 + 300 * j + 13 + 200 ≤ 1000000; omega⟩, (fun _ => h1), fun d ms' b6 hp ek pu => ?_⟩
        exact ⟨hp.2, pu.fl.trans h1, StIn.mono (T := 1000 * i + 30 + 300 * j + 13 + 200) ⟨ms', hp.1, pu.new⟩ (by omega)⟩
      case c3 =>
        rintro b5 d5 ⟨rfl, h1, h2⟩
        exact ⟨rfl, sm_unit (sm_next ⟨by omega, _, _, h1, h2, rfl⟩)⟩
    · rintro b ρ ⟨_, x, t, hfl, hst, rfl⟩
      rw [List.length_map, List.length_range] at hst
      exact sm_next ⟨by omega, _, _, _, _, _, _, hfl, hst.mono (by omega), rfl⟩
  · rintro b ρ ⟨_, x, y, z, u, v, t, hfl, hst, rfl⟩
    exact sm_ret ev_bl rfl
end
end Sh
set_option Elab.async false
set_option linter.all false
set_option maxRecDepth 100000
set_option maxHeartbeats 4000000
/-! WX: what the top has left, and the law's own head. -/
namespace Sh
open PySem L2
/-- a def as the top has left it -/
def FunAt (K : PySem.W.Frag) (x qual : Str) (st : Stmt) (f : Addr) : Prop := ∃ (oc : Value) (od : Option Addr) (kV doc pm : Value) (an : Option Addr) (cdv ct : Value) (osl : Array (Option Value)),
  K.lookup f = some ⟨oc, od, .func (PySem.W.fnOf x qual (defArgs st) (defBody st) (defScope st) .none kV doc pm an cdv ct), osl⟩ ∧ PySem.W.codeIn K cdv qual = true ∧ PySem.W.keepIn K (.ref f) = true
/-- one with defaults that are numbers -/
def FunDAt (K : PySem.W.Frag) (x qual : Str) (st : Stmt) (ns : List Int) (f : Addr) : Prop := ∃ (oc : Value) (od : Option Addr) (T : Addr) (kV doc pm : Value) (an : Option Addr) (cdv ct : Value) (osl : Array (Option Value)) (o : Obj) (its : List Value) (n : Nat),
  K.lookup f = some ⟨oc, od, .func (PySem.W.fnOf x qual (defArgs st) (defBody st) (defScope st) (.ref T) kV doc pm an cdv ct), osl⟩ ∧ PySem.W.codeIn K cdv qual = true ∧ PySem.W.keepIn K (.ref f) = true ∧ K.lookup T = some o ∧ o.data = .seq its.toArray n ∧ Vals (ns.map V.int) its
theorem FunAt.fun_ {K : PySem.W.Frag} {x qual : Str} {st : Stmt} {f : Addr} (h : FunAt K x qual st f) : ∃ fd, Fun K x qual st f fd := by
  obtain ⟨oc, od, kV, doc, pm, an, cdv, ct, osl, l, c, k⟩ := h
  exact ⟨_, fun_mk l c k⟩
theorem FunDAt.fun_ {K : PySem.W.Frag} {x qual : Str} {st : Stmt} {f : Addr} {n : Int} {ns : List Int} (h : FunDAt K x qual st (n :: ns) f) : ∃ fd, FunD K x qual (defArgs st) (defBody st) (defScope st) ((n :: ns).map V.int) [] f fd := by
  obtain ⟨oc, od, T, kV, doc, pm, an, cdv, ct, osl, o, its, m, l, c, k, lT, oT, r⟩ := h
  exact ⟨_, ⟨oc, od, .ref T, kV, doc, pm, an, cdv, ct, osl, rfl, l, c, .inr ⟨by simp, T, o, its, m, rfl, lT, oT, r⟩, .inl rfl⟩, k⟩
theorem all_mk {l : PySem.W.OpenLaw} {w : World} {K : PySem.W.Frag} {h : Heap} {mg : Str → Option Value} {fa CG CR pA sA f_is_number f_is_list f_is_row f_need_row f_is_size f_words_in f_is_word f_need_words f_Graph_init f_Graph_size f_Graph_words f_Graph_need_word f_Graph_behind f_Graph_reach f_Graph_cut f_need_asked f_borders_of f_read_so_far f_pairs_of f_steps_from f_is_pair f_are_levels f_are_lacks f_is_level_right f_lets_by f_Reading_init f_Reading_go_from f_Reading_gone_out f_Reading_elders f_Reading_levels f_Reading_lots f_Reading_lack_of f_Reading_goes_round f_Reading_way_within f_Reading_ring_round f_safe_or_not f_L_behind f_L_so_far f_L_steps f_L_pairs f_L_both f_L_lacking f_L_reached f_L_take f_L_pick f_L_signs f_L_round_words f_L_walk f_L_begun f_L_drawn f_L_lots f_L_right f_law : Addr} {tM : Tok} (X : K.In h) (G : h.Ns mainGlobals mg) (hfa : mg "law" = some (.ref fa))
    (nCG : PySem.W.nsIn K mainGlobals "Graph" = some (some (.ref CG)))
    (pgCG : PySem.W.plainGet K CG Str.empty = true) (hdCG : PySem.W.hasDictIn K CG = true) (poCG : PySem.W.plainOver K CG = true) (saCG : PySem.W.findIn K (.ref CG) "__setattr__" = some (some (.builtin "object.__setattr__"))) (mkCG : PySem.W.makesIn K CG = true) (kcCG : PySem.W.keepIn K (.ref CG) = true)
    (noCG_every : PySem.W.findIn K (.ref CG) "every" = some none)
    (noCG_nexts : PySem.W.findIn K (.ref CG) "nexts" = some none)
    (noCG_lasts : PySem.W.findIn K (.ref CG) "lasts" = some none)
    (nCR : PySem.W.nsIn K mainGlobals "Reading" = some (some (.ref CR)))
    (pgCR : PySem.W.plainGet K CR Str.empty = true) (hdCR : PySem.W.hasDictIn K CR = true) (poCR : PySem.W.plainOver K CR = true) (saCR : PySem.W.findIn K (.ref CR) "__setattr__" = some (some (.builtin "object.__setattr__"))) (mkCR : PySem.W.makesIn K CR = true) (kcCR : PySem.W.keepIn K (.ref CR) = true)
    (noCR_every : PySem.W.findIn K (.ref CR) "every" = some none)
    (noCR_pairs : PySem.W.findIn K (.ref CR) "pairs" = some none)
    (noCR_steps : PySem.W.findIn K (.ref CR) "steps" = some none)
    (a_is_number : PySem.W.nsIn K mainGlobals "is_number" = some (some (.ref f_is_number)))
    (l_is_number : FunAt K "is_number" "is_number" s_is_number f_is_number)
    (a_is_list : PySem.W.nsIn K mainGlobals "is_list" = some (some (.ref f_is_list)))
    (l_is_list : FunAt K "is_list" "is_list" s_is_list f_is_list)
    (a_is_row : PySem.W.nsIn K mainGlobals "is_row" = some (some (.ref f_is_row)))
    (l_is_row : FunAt K "is_row" "is_row" s_is_row f_is_row)
    (a_need_row : PySem.W.nsIn K mainGlobals "need_row" = some (some (.ref f_need_row)))
    (l_need_row : FunDAt K "need_row" "need_row" s_need_row [0] f_need_row)
    (a_is_size : PySem.W.nsIn K mainGlobals "is_size" = some (some (.ref f_is_size)))
    (l_is_size : FunAt K "is_size" "is_size" s_is_size f_is_size)
    (a_words_in : PySem.W.nsIn K mainGlobals "words_in" = some (some (.ref f_words_in)))
    (l_words_in : FunAt K "words_in" "words_in" s_words_in f_words_in)
    (a_is_word : PySem.W.nsIn K mainGlobals "is_word" = some (some (.ref f_is_word)))
    (l_is_word : FunAt K "is_word" "is_word" s_is_word f_is_word)
    (a_need_words : PySem.W.nsIn K mainGlobals "need_words" = some (some (.ref f_need_words)))
    (l_need_words : FunAt K "need_words" "need_words" s_need_words f_need_words)
    (a_Graph_init : PySem.W.findIn K (.ref CG) "__init__" = some (some (.ref f_Graph_init))) (i_Graph_init : PySem.W.isFn K (.ref f_Graph_init) = true)
    (l_Graph_init : FunAt K "__init__" "Graph.__init__" s_Graph_init f_Graph_init)
    (a_Graph_size : PySem.W.findIn K (.ref CG) "size" = some (some (.ref f_Graph_size))) (i_Graph_size : PySem.W.isFn K (.ref f_Graph_size) = true)
    (l_Graph_size : FunAt K "size" "Graph.size" s_Graph_size f_Graph_size)
    (a_Graph_words : PySem.W.findIn K (.ref CG) "words" = some (some (.ref f_Graph_words))) (i_Graph_words : PySem.W.isFn K (.ref f_Graph_words) = true)
    (l_Graph_words : FunAt K "words" "Graph.words" s_Graph_words f_Graph_words)
    (a_Graph_need_word : PySem.W.findIn K (.ref CG) "need_word" = some (some (.ref f_Graph_need_word))) (i_Graph_need_word : PySem.W.isFn K (.ref f_Graph_need_word) = true)
    (l_Graph_need_word : FunAt K "need_word" "Graph.need_word" s_Graph_need_word f_Graph_need_word)
    (a_Graph_behind : PySem.W.findIn K (.ref CG) "behind" = some (some (.ref f_Graph_behind))) (i_Graph_behind : PySem.W.isFn K (.ref f_Graph_behind) = true)
    (l_Graph_behind : FunAt K "behind" "Graph.behind" s_Graph_behind f_Graph_behind)
    (a_Graph_reach : PySem.W.findIn K (.ref CG) "reach" = some (some (.ref f_Graph_reach))) (i_Graph_reach : PySem.W.isFn K (.ref f_Graph_reach) = true)
    (l_Graph_reach : FunAt K "reach" "Graph.reach" s_Graph_reach f_Graph_reach)
    (a_Graph_cut : PySem.W.findIn K (.ref CG) "cut" = some (some (.ref f_Graph_cut))) (i_Graph_cut : PySem.W.isFn K (.ref f_Graph_cut) = true)
    (l_Graph_cut : FunAt K "cut" "Graph.cut" s_Graph_cut f_Graph_cut)
    (a_need_asked : PySem.W.nsIn K mainGlobals "need_asked" = some (some (.ref f_need_asked)))
    (l_need_asked : FunAt K "need_asked" "need_asked" s_need_asked f_need_asked)
    (a_borders_of : PySem.W.nsIn K mainGlobals "borders_of" = some (some (.ref f_borders_of)))
    (l_borders_of : FunAt K "borders_of" "borders_of" s_borders_of f_borders_of)
    (a_read_so_far : PySem.W.nsIn K mainGlobals "read_so_far" = some (some (.ref f_read_so_far)))
    (l_read_so_far : FunAt K "read_so_far" "read_so_far" s_read_so_far f_read_so_far)
    (a_pairs_of : PySem.W.nsIn K mainGlobals "pairs_of" = some (some (.ref f_pairs_of)))
    (l_pairs_of : FunAt K "pairs_of" "pairs_of" s_pairs_of f_pairs_of)
    (a_steps_from : PySem.W.nsIn K mainGlobals "steps_from" = some (some (.ref f_steps_from)))
    (l_steps_from : FunAt K "steps_from" "steps_from" s_steps_from f_steps_from)
    (a_is_pair : PySem.W.nsIn K mainGlobals "is_pair" = some (some (.ref f_is_pair)))
    (l_is_pair : FunAt K "is_pair" "is_pair" s_is_pair f_is_pair)
    (a_are_levels : PySem.W.nsIn K mainGlobals "are_levels" = some (some (.ref f_are_levels)))
    (l_are_levels : FunAt K "are_levels" "are_levels" s_are_levels f_are_levels)
    (a_are_lacks : PySem.W.nsIn K mainGlobals "are_lacks" = some (some (.ref f_are_lacks)))
    (l_are_lacks : FunAt K "are_lacks" "are_lacks" s_are_lacks f_are_lacks)
    (a_is_level_right : PySem.W.nsIn K mainGlobals "is_level_right" = some (some (.ref f_is_level_right)))
    (l_is_level_right : FunAt K "is_level_right" "is_level_right" s_is_level_right f_is_level_right)
    (a_lets_by : PySem.W.nsIn K mainGlobals "lets_by" = some (some (.ref f_lets_by)))
    (l_lets_by : FunAt K "lets_by" "lets_by" s_lets_by f_lets_by)
    (a_Reading_init : PySem.W.findIn K (.ref CR) "__init__" = some (some (.ref f_Reading_init))) (i_Reading_init : PySem.W.isFn K (.ref f_Reading_init) = true)
    (l_Reading_init : FunAt K "__init__" "Reading.__init__" s_Reading_init f_Reading_init)
    (a_Reading_go_from : PySem.W.findIn K (.ref CR) "go_from" = some (some (.ref f_Reading_go_from))) (i_Reading_go_from : PySem.W.isFn K (.ref f_Reading_go_from) = true)
    (l_Reading_go_from : FunAt K "go_from" "Reading.go_from" s_Reading_go_from f_Reading_go_from)
    (a_Reading_gone_out : PySem.W.findIn K (.ref CR) "gone_out" = some (some (.ref f_Reading_gone_out))) (i_Reading_gone_out : PySem.W.isFn K (.ref f_Reading_gone_out) = true)
    (l_Reading_gone_out : FunAt K "gone_out" "Reading.gone_out" s_Reading_gone_out f_Reading_gone_out)
    (a_Reading_elders : PySem.W.findIn K (.ref CR) "elders" = some (some (.ref f_Reading_elders))) (i_Reading_elders : PySem.W.isFn K (.ref f_Reading_elders) = true)
    (l_Reading_elders : FunAt K "elders" "Reading.elders" s_Reading_elders f_Reading_elders)
    (a_Reading_levels : PySem.W.findIn K (.ref CR) "levels" = some (some (.ref f_Reading_levels))) (i_Reading_levels : PySem.W.isFn K (.ref f_Reading_levels) = true)
    (l_Reading_levels : FunAt K "levels" "Reading.levels" s_Reading_levels f_Reading_levels)
    (a_Reading_lots : PySem.W.findIn K (.ref CR) "lots" = some (some (.ref f_Reading_lots))) (i_Reading_lots : PySem.W.isFn K (.ref f_Reading_lots) = true)
    (l_Reading_lots : FunAt K "lots" "Reading.lots" s_Reading_lots f_Reading_lots)
    (a_Reading_lack_of : PySem.W.findIn K (.ref CR) "lack_of" = some (some (.ref f_Reading_lack_of))) (i_Reading_lack_of : PySem.W.isFn K (.ref f_Reading_lack_of) = true)
    (l_Reading_lack_of : FunAt K "lack_of" "Reading.lack_of" s_Reading_lack_of f_Reading_lack_of)
    (a_Reading_goes_round : PySem.W.findIn K (.ref CR) "goes_round" = some (some (.ref f_Reading_goes_round))) (i_Reading_goes_round : PySem.W.isFn K (.ref f_Reading_goes_round) = true)
    (l_Reading_goes_round : FunAt K "goes_round" "Reading.goes_round" s_Reading_goes_round f_Reading_goes_round)
    (a_Reading_way_within : PySem.W.findIn K (.ref CR) "way_within" = some (some (.ref f_Reading_way_within))) (i_Reading_way_within : PySem.W.isFn K (.ref f_Reading_way_within) = true)
    (l_Reading_way_within : FunAt K "way_within" "Reading.way_within" s_Reading_way_within f_Reading_way_within)
    (a_Reading_ring_round : PySem.W.findIn K (.ref CR) "ring_round" = some (some (.ref f_Reading_ring_round))) (i_Reading_ring_round : PySem.W.isFn K (.ref f_Reading_ring_round) = true)
    (l_Reading_ring_round : FunAt K "ring_round" "Reading.ring_round" s_Reading_ring_round f_Reading_ring_round)
    (a_safe_or_not : PySem.W.nsIn K mainGlobals "safe_or_not" = some (some (.ref f_safe_or_not)))
    (l_safe_or_not : FunAt K "safe_or_not" "safe_or_not" s_safe_or_not f_safe_or_not)
    (a_L_behind : PySem.W.nsIn K mainGlobals "_law_behind" = some (some (.ref f_L_behind)))
    (l_L_behind : FunAt K "_law_behind" "_law_behind" s_L_behind f_L_behind)
    (a_L_so_far : PySem.W.nsIn K mainGlobals "_law_so_far" = some (some (.ref f_L_so_far)))
    (l_L_so_far : FunAt K "_law_so_far" "_law_so_far" s_L_so_far f_L_so_far)
    (a_L_steps : PySem.W.nsIn K mainGlobals "_law_steps" = some (some (.ref f_L_steps)))
    (l_L_steps : FunAt K "_law_steps" "_law_steps" s_L_steps f_L_steps)
    (a_L_pairs : PySem.W.nsIn K mainGlobals "_law_pairs" = some (some (.ref f_L_pairs)))
    (l_L_pairs : FunAt K "_law_pairs" "_law_pairs" s_L_pairs f_L_pairs)
    (a_L_both : PySem.W.nsIn K mainGlobals "_law_both" = some (some (.ref f_L_both)))
    (l_L_both : FunAt K "_law_both" "_law_both" s_L_both f_L_both)
    (a_L_lacking : PySem.W.nsIn K mainGlobals "_law_lacking" = some (some (.ref f_L_lacking)))
    (l_L_lacking : FunAt K "_law_lacking" "_law_lacking" s_L_lacking f_L_lacking)
    (a_L_reached : PySem.W.nsIn K mainGlobals "_law_reached" = some (some (.ref f_L_reached)))
    (l_L_reached : FunAt K "_law_reached" "_law_reached" s_L_reached f_L_reached)
    (a_L_take : PySem.W.nsIn K mainGlobals "_law_take" = some (some (.ref f_L_take)))
    (l_L_take : FunAt K "_law_take" "_law_take" s_L_take f_L_take)
    (a_L_pick : PySem.W.nsIn K mainGlobals "_law_pick" = some (some (.ref f_L_pick)))
    (l_L_pick : FunAt K "_law_pick" "_law_pick" s_L_pick f_L_pick)
    (a_L_signs : PySem.W.nsIn K mainGlobals "_law_signs" = some (some (.ref f_L_signs)))
    (l_L_signs : FunAt K "_law_signs" "_law_signs" s_L_signs f_L_signs)
    (a_L_round_words : PySem.W.nsIn K mainGlobals "_law_round_words" = some (some (.ref f_L_round_words)))
    (l_L_round_words : FunAt K "_law_round_words" "_law_round_words" s_L_round_words f_L_round_words)
    (a_L_walk : PySem.W.nsIn K mainGlobals "_law_walk" = some (some (.ref f_L_walk)))
    (l_L_walk : FunAt K "_law_walk" "_law_walk" s_L_walk f_L_walk)
    (a_L_begun : PySem.W.nsIn K mainGlobals "_law_begun" = some (some (.ref f_L_begun)))
    (l_L_begun : FunAt K "_law_begun" "_law_begun" s_L_begun f_L_begun)
    (a_L_drawn : PySem.W.nsIn K mainGlobals "_law_drawn" = some (some (.ref f_L_drawn)))
    (l_L_drawn : FunAt K "_law_drawn" "_law_drawn" s_L_drawn f_L_drawn)
    (a_L_lots : PySem.W.nsIn K mainGlobals "_law_lots" = some (some (.ref f_L_lots)))
    (l_L_lots : FunAt K "_law_lots" "_law_lots" s_L_lots f_L_lots)
    (a_L_right : PySem.W.nsIn K mainGlobals "_law_right" = some (some (.ref f_L_right)))
    (l_L_right : FunAt K "_law_right" "_law_right" s_L_right f_L_right)
    (a_law : PySem.W.nsIn K mainGlobals "law" = some (some (.ref f_law)))
    (l_law : FunAt K "law" "law" s_law f_law)
    (z_len : PySem.W.nsIn K mainGlobals "len" = some none)
    (z_isinstance : PySem.W.nsIn K mainGlobals "isinstance" = some none)
    (z_int : PySem.W.nsIn K mainGlobals "int" = some none)
    (z_bool : PySem.W.nsIn K mainGlobals "bool" = some none)
    (z_str : PySem.W.nsIn K mainGlobals "str" = some none)
    (z_list : PySem.W.nsIn K mainGlobals "list" = some none)
    (z_tuple : PySem.W.nsIn K mainGlobals "tuple" = some none)
    (z_dict : PySem.W.nsIn K mainGlobals "dict" = some none)
    (z_set : PySem.W.nsIn K mainGlobals "set" = some none)
    (z_all : PySem.W.nsIn K mainGlobals "all" = some none)
    (z_any : PySem.W.nsIn K mainGlobals "any" = some none)
    (z_range : PySem.W.nsIn K mainGlobals "range" = some none)
    (z_enumerate : PySem.W.nsIn K mainGlobals "enumerate" = some none)
    (z_zip : PySem.W.nsIn K mainGlobals "zip" = some none)
    (z_reversed : PySem.W.nsIn K mainGlobals "reversed" = some none)
    (z_sorted : PySem.W.nsIn K mainGlobals "sorted" = some none)
    (z_min : PySem.W.nsIn K mainGlobals "min" = some none)
    (z_MOST : PySem.W.nsIn K mainGlobals "MOST_WORDS" = some (some (.int 40 tM)))
    (aP : PySem.W.nsIn K mainGlobals "PARTNERS" = some (some (.ref pA))) (dP : KDic K w pA signs)
    (aS : PySem.W.nsIn K mainGlobals "SIZES" = some (some (.ref sA))) (dS : KTup K sA [3, 5, 7, 9]) :
    ∃ fd : FuncData, (∀ (s : Shared) (v : Value), BindsTo s fd ⟨[v], []⟩ [("_law_script", v)]) ∧ ∀ base : Heap, K.In base → base.Ns mainGlobals mg → FnOk l.prog w K mg base CX0 8 fa fd ["_law_script"] (spLaw K) := by
  have e := hfa.symm.trans (PySem.W.mg_of X G a_law)
  cases e
  have T : Bu K w mg := { n_len := PySem.W.mg_none_of X G z_len, n_isinstance := PySem.W.mg_none_of X G z_isinstance, n_int := PySem.W.mg_none_of X G z_int, n_bool := PySem.W.mg_none_of X G z_bool, n_str := PySem.W.mg_none_of X G z_str, n_list := PySem.W.mg_none_of X G z_list, n_tuple := PySem.W.mg_none_of X G z_tuple, n_dict := PySem.W.mg_none_of X G z_dict, n_set := PySem.W.mg_none_of X G z_set, n_all := PySem.W.mg_none_of X G z_all, n_any := PySem.W.mg_none_of X G z_any, n_range := PySem.W.mg_none_of X G z_range, n_enumerate := PySem.W.mg_none_of X G z_enumerate, n_zip := PySem.W.mg_none_of X G z_zip, n_reversed := PySem.W.mg_none_of X G z_reversed, n_sorted := PySem.W.mg_none_of X G z_sorted, n_min := PySem.W.mg_none_of X G z_min, gMOST := ⟨_, PySem.W.mg_of X G z_MOST⟩, gPARTNERS := ⟨_, PySem.W.mg_of X G aP, dP⟩, gSIZES := ⟨_, PySem.W.mg_of X G aS, dS⟩ }
  have clCG : Cl K CG gFlds := ⟨⟨pgCG, hdCG, poCG, saCG⟩, fun f hf => by
    simp only [gFlds, List.mem_cons, List.not_mem_nil, or_false] at hf
    rcases hf with rfl | rfl | rfl
    · exact noCG_every
    · exact noCG_nexts
    · exact noCG_lasts⟩
  have clCR : Cl K CR rFlds := ⟨⟨pgCR, hdCR, poCR, saCR⟩, fun f hf => by
    simp only [rFlds, List.mem_cons, List.not_mem_nil, or_false] at hf
    rcases hf with rfl | rfl | rfl
    · exact noCR_every
    · exact noCR_pairs
    · exact noCR_steps⟩
  obtain ⟨fd_is_number, F_is_number⟩ := l_is_number.fun_
  have b_is_number := F_is_number.binds (ps := ["thing"]) fun _ _ _ _ _ _ us hl => match us, hl with | [_], _ => rfl
  obtain ⟨fd_is_list, F_is_list⟩ := l_is_list.fun_
  have b_is_list := F_is_list.binds (ps := ["thing"]) fun _ _ _ _ _ _ us hl => match us, hl with | [_], _ => rfl
  obtain ⟨fd_is_row, F_is_row⟩ := l_is_row.fun_
  have b_is_row := F_is_row.binds (ps := ["thing"]) fun _ _ _ _ _ _ us hl => match us, hl with | [_], _ => rfl
  obtain ⟨fd_need_row, F_need_row⟩ := l_need_row.fun_
  have b_need_row : Binds K fd_need_row ["thing", "least"] [] := by
    obtain ⟨ds, hv, hb⟩ := F_need_row.binds1 (ps := ["thing", "least"]) 2 1 (by simp) (by rfl) (fun T kV doc pm an cdv ct us its h1 h2 => by
      match us, its, h1, h2 with
      | [_, _], [_], _, _ => exact ⟨_, rfl, rfl⟩)
    cases hv
    exact hb
  obtain ⟨fd_is_size, F_is_size⟩ := l_is_size.fun_
  have b_is_size := F_is_size.binds (ps := ["thing"]) fun _ _ _ _ _ _ us hl => match us, hl with | [_], _ => rfl
  obtain ⟨fd_words_in, F_words_in⟩ := l_words_in.fun_
  have b_words_in := F_words_in.binds (ps := ["row", "k"]) fun _ _ _ _ _ _ us hl => match us, hl with | [_, _], _ => rfl
  obtain ⟨fd_is_word, F_is_word⟩ := l_is_word.fun_
  have b_is_word := F_is_word.binds (ps := ["thing", "k"]) fun _ _ _ _ _ _ us hl => match us, hl with | [_, _], _ => rfl
  obtain ⟨fd_need_words, F_need_words⟩ := l_need_words.fun_
  have b_need_words := F_need_words.binds (ps := ["thing", "most"]) fun _ _ _ _ _ _ us hl => match us, hl with | [_, _], _ => rfl
  obtain ⟨fd_Graph_init, F_Graph_init⟩ := l_Graph_init.fun_
  have b_Graph_init := F_Graph_init.binds (ps := ["self", "words"]) fun _ _ _ _ _ _ us hl => match us, hl with | [_, _], _ => rfl
  obtain ⟨fd_Graph_size, F_Graph_size⟩ := l_Graph_size.fun_
  have b_Graph_size := F_Graph_size.binds (ps := ["self"]) fun _ _ _ _ _ _ us hl => match us, hl with | [_], _ => rfl
  obtain ⟨fd_Graph_words, F_Graph_words⟩ := l_Graph_words.fun_
  have b_Graph_words := F_Graph_words.binds (ps := ["self"]) fun _ _ _ _ _ _ us hl => match us, hl with | [_], _ => rfl
  obtain ⟨fd_Graph_need_word, F_Graph_need_word⟩ := l_Graph_need_word.fun_
  have b_Graph_need_word := F_Graph_need_word.binds (ps := ["self", "word"]) fun _ _ _ _ _ _ us hl => match us, hl with | [_, _], _ => rfl
  obtain ⟨fd_Graph_behind, F_Graph_behind⟩ := l_Graph_behind.fun_
  have b_Graph_behind := F_Graph_behind.binds (ps := ["self", "word"]) fun _ _ _ _ _ _ us hl => match us, hl with | [_, _], _ => rfl
  obtain ⟨fd_Graph_reach, F_Graph_reach⟩ := l_Graph_reach.fun_
  have b_Graph_reach := F_Graph_reach.binds (ps := ["self", "word"]) fun _ _ _ _ _ _ us hl => match us, hl with | [_, _], _ => rfl
  obtain ⟨fd_Graph_cut, F_Graph_cut⟩ := l_Graph_cut.fun_
  have b_Graph_cut := F_Graph_cut.binds (ps := ["self"]) fun _ _ _ _ _ _ us hl => match us, hl with | [_], _ => rfl
  obtain ⟨fd_need_asked, F_need_asked⟩ := l_need_asked.fun_
  have b_need_asked := F_need_asked.binds (ps := ["graph", "row"]) fun _ _ _ _ _ _ us hl => match us, hl with | [_, _], _ => rfl
  obtain ⟨fd_borders_of, F_borders_of⟩ := l_borders_of.fun_
  have b_borders_of := F_borders_of.binds (ps := ["words"]) fun _ _ _ _ _ _ us hl => match us, hl with | [_], _ => rfl
  obtain ⟨fd_read_so_far, F_read_so_far⟩ := l_read_so_far.fun_
  have b_read_so_far := F_read_so_far.binds (ps := ["words", "borders", "many", "word"]) fun _ _ _ _ _ _ us hl => match us, hl with | [_, _, _, _], _ => rfl
  obtain ⟨fd_pairs_of, F_pairs_of⟩ := l_pairs_of.fun_
  have b_pairs_of := F_pairs_of.binds (ps := ["graph", "words"]) fun _ _ _ _ _ _ us hl => match us, hl with | [_, _], _ => rfl
  obtain ⟨fd_steps_from, F_steps_from⟩ := l_steps_from.fun_
  have b_steps_from := F_steps_from.binds (ps := ["graph", "words", "pair"]) fun _ _ _ _ _ _ us hl => match us, hl with | [_, _, _], _ => rfl
  obtain ⟨fd_is_pair, F_is_pair⟩ := l_is_pair.fun_
  have b_is_pair := F_is_pair.binds (ps := ["thing"]) fun _ _ _ _ _ _ us hl => match us, hl with | [_], _ => rfl
  obtain ⟨fd_are_levels, F_are_levels⟩ := l_are_levels.fun_
  have b_are_levels := F_are_levels.binds (ps := ["graph", "words", "thing"]) fun _ _ _ _ _ _ us hl => match us, hl with | [_, _, _], _ => rfl
  obtain ⟨fd_are_lacks, F_are_lacks⟩ := l_are_lacks.fun_
  have b_are_lacks := F_are_lacks.binds (ps := ["graph", "levels", "thing"]) fun _ _ _ _ _ _ us hl => match us, hl with | [_, _, _], _ => rfl
  obtain ⟨fd_is_level_right, F_is_level_right⟩ := l_is_level_right.fun_
  have b_is_level_right := F_is_level_right.binds (ps := ["lacks", "levels", "pair", "steps"]) fun _ _ _ _ _ _ us hl => match us, hl with | [_, _, _, _], _ => rfl
  obtain ⟨fd_lets_by, F_lets_by⟩ := l_lets_by.fun_
  have b_lets_by := F_lets_by.binds (ps := ["graph", "row", "paper"]) fun _ _ _ _ _ _ us hl => match us, hl with | [_, _, _], _ => rfl
  obtain ⟨fd_Reading_init, F_Reading_init⟩ := l_Reading_init.fun_
  have b_Reading_init := F_Reading_init.binds (ps := ["self", "graph", "row"]) fun _ _ _ _ _ _ us hl => match us, hl with | [_, _, _], _ => rfl
  obtain ⟨fd_Reading_go_from, F_Reading_go_from⟩ := l_Reading_go_from.fun_
  have b_Reading_go_from := F_Reading_go_from.binds (ps := ["self", "first", "met", "found"]) fun _ _ _ _ _ _ us hl => match us, hl with | [_, _, _, _], _ => rfl
  obtain ⟨fd_Reading_gone_out, F_Reading_gone_out⟩ := l_Reading_gone_out.fun_
  have b_Reading_gone_out := F_Reading_gone_out.binds (ps := ["self"]) fun _ _ _ _ _ _ us hl => match us, hl with | [_], _ => rfl
  obtain ⟨fd_Reading_elders, F_Reading_elders⟩ := l_Reading_elders.fun_
  have b_Reading_elders := F_Reading_elders.binds (ps := ["self"]) fun _ _ _ _ _ _ us hl => match us, hl with | [_], _ => rfl
  obtain ⟨fd_Reading_levels, F_Reading_levels⟩ := l_Reading_levels.fun_
  have b_Reading_levels := F_Reading_levels.binds (ps := ["self"]) fun _ _ _ _ _ _ us hl => match us, hl with | [_], _ => rfl
  obtain ⟨fd_Reading_lots, F_Reading_lots⟩ := l_Reading_lots.fun_
  have b_Reading_lots := F_Reading_lots.binds (ps := ["self", "levels"]) fun _ _ _ _ _ _ us hl => match us, hl with | [_, _], _ => rfl
  obtain ⟨fd_Reading_lack_of, F_Reading_lack_of⟩ := l_Reading_lack_of.fun_
  have b_Reading_lack_of := F_Reading_lack_of.binds (ps := ["self", "lot"]) fun _ _ _ _ _ _ us hl => match us, hl with | [_, _], _ => rfl
  obtain ⟨fd_Reading_goes_round, F_Reading_goes_round⟩ := l_Reading_goes_round.fun_
  have b_Reading_goes_round := F_Reading_goes_round.binds (ps := ["self", "levels", "lot"]) fun _ _ _ _ _ _ us hl => match us, hl with | [_, _, _], _ => rfl
  obtain ⟨fd_Reading_way_within, F_Reading_way_within⟩ := l_Reading_way_within.fun_
  have b_Reading_way_within := F_Reading_way_within.binds (ps := ["self", "levels", "one", "other"]) fun _ _ _ _ _ _ us hl => match us, hl with | [_, _, _, _], _ => rfl
  obtain ⟨fd_Reading_ring_round, F_Reading_ring_round⟩ := l_Reading_ring_round.fun_
  have b_Reading_ring_round := F_Reading_ring_round.binds (ps := ["self", "levels", "lot"]) fun _ _ _ _ _ _ us hl => match us, hl with | [_, _, _], _ => rfl
  obtain ⟨fd_safe_or_not, F_safe_or_not⟩ := l_safe_or_not.fun_
  have b_safe_or_not := F_safe_or_not.binds (ps := ["graph", "row"]) fun _ _ _ _ _ _ us hl => match us, hl with | [_, _], _ => rfl
  obtain ⟨fd_L_behind, F_L_behind⟩ := l_L_behind.fun_
  have b_L_behind := F_L_behind.binds (ps := ["_law_words", "_law_word"]) fun _ _ _ _ _ _ us hl => match us, hl with | [_, _], _ => rfl
  obtain ⟨fd_L_so_far, F_L_so_far⟩ := l_L_so_far.fun_
  have b_L_so_far := F_L_so_far.binds (ps := ["_law_parts", "_law_many", "_law_word"]) fun _ _ _ _ _ _ us hl => match us, hl with | [_, _, _], _ => rfl
  obtain ⟨fd_L_steps, F_L_steps⟩ := l_L_steps.fun_
  have b_L_steps := F_L_steps.binds (ps := ["_law_words", "_law_parts", "_law_pair"]) fun _ _ _ _ _ _ us hl => match us, hl with | [_, _, _], _ => rfl
  obtain ⟨fd_L_pairs, F_L_pairs⟩ := l_L_pairs.fun_
  have b_L_pairs := F_L_pairs.binds (ps := ["_law_words", "_law_parts"]) fun _ _ _ _ _ _ us hl => match us, hl with | [_, _], _ => rfl
  obtain ⟨fd_L_both, F_L_both⟩ := l_L_both.fun_
  have b_L_both := F_L_both.binds (ps := ["_law_reach", "_law_one", "_law_other"]) fun _ _ _ _ _ _ us hl => match us, hl with | [_, _, _], _ => rfl
  obtain ⟨fd_L_lacking, F_L_lacking⟩ := l_L_lacking.fun_
  have b_L_lacking := F_L_lacking.binds (ps := ["_law_words", "_law_lot", "_law_reach"]) fun _ _ _ _ _ _ us hl => match us, hl with | [_, _, _], _ => rfl
  obtain ⟨fd_L_reached, F_L_reached⟩ := l_L_reached.fun_
  have b_L_reached := F_L_reached.binds (ps := ["_law_steps_here", "_law_pair"]) fun _ _ _ _ _ _ us hl => match us, hl with | [_, _], _ => rfl
  obtain ⟨fd_L_take, F_L_take⟩ := l_L_take.fun_
  have b_L_take := F_L_take.binds (ps := ["_law_state", "_law_many"]) fun _ _ _ _ _ _ us hl => match us, hl with | [_, _], _ => rfl
  obtain ⟨fd_L_pick, F_L_pick⟩ := l_L_pick.fun_
  have b_L_pick := F_L_pick.binds (ps := ["_law_state", "_law_some"]) fun _ _ _ _ _ _ us hl => match us, hl with | [_, _], _ => rfl
  obtain ⟨fd_L_signs, F_L_signs⟩ := l_L_signs.fun_
  have b_L_signs := F_L_signs.binds (ps := ["_law_state", "_law_signs_here", "_law_many"]) fun _ _ _ _ _ _ us hl => match us, hl with | [_, _, _], _ => rfl
  obtain ⟨fd_L_round_words, F_L_round_words⟩ := l_L_round_words.fun_
  have b_L_round_words := F_L_round_words.binds (ps := ["_law_signs_here", "_law_size"]) fun _ _ _ _ _ _ us hl => match us, hl with | [_, _], _ => rfl
  obtain ⟨fd_L_walk, F_L_walk⟩ := l_L_walk.fun_
  have b_L_walk := F_L_walk.binds (ps := ["_law_state", "_law_words", "_law_many"]) fun _ _ _ _ _ _ us hl => match us, hl with | [_, _, _], _ => rfl
  obtain ⟨fd_L_begun, F_L_begun⟩ := l_L_begun.fun_
  have b_L_begun := F_L_begun.binds (ps := ["_law_script"]) fun _ _ _ _ _ _ us hl => match us, hl with | [_], _ => rfl
  obtain ⟨fd_L_drawn, F_L_drawn⟩ := l_L_drawn.fun_
  have b_L_drawn := F_L_drawn.binds (ps := ["_law_state", "_law_most"]) fun _ _ _ _ _ _ us hl => match us, hl with | [_, _], _ => rfl
  obtain ⟨fd_L_lots, F_L_lots⟩ := l_L_lots.fun_
  have b_L_lots := F_L_lots.binds (ps := ["_law_reach"]) fun _ _ _ _ _ _ us hl => match us, hl with | [_], _ => rfl
  obtain ⟨fd_L_right, F_L_right⟩ := l_L_right.fun_
  have b_L_right := F_L_right.binds (ps := ["_law_state", "_law_words", "_law_knots", "_law_line"]) fun _ _ _ _ _ _ us hl => match us, hl with | [_, _, _, _], _ => rfl
  obtain ⟨fd_law, F_law⟩ := l_law.fun_
  have b_law := F_law.binds (ps := ["_law_script"]) fun _ _ _ _ _ _ us hl => match us, hl with | [_], _ => rfl
  have bl : ∀ (s : Shared) (v : Value), BindsTo s fd_law ⟨[v], []⟩ [("_law_script", v)] := fun s v => by
    obtain ⟨oc, od, kV, doc, pm, an, cdv, ct, osl, rfl, _⟩ := F_law.ex
    exact .of_eq rfl
  refine ⟨fd_law, bl, fun base _ _ => ?_⟩
  have O_is_number := ok_is_number (P := l.prog) (w := w) (mg := mg) (base := base) F_is_number T
  have H_is_number : Fn l.prog w K mg base _ "is_number" _ _ := ⟨⟨_, _, O_is_number, PySem.W.mg_of X G a_is_number, F_is_number.kp, b_is_number⟩⟩
  have O_is_list := ok_is_list (P := l.prog) (w := w) (mg := mg) (base := base) F_is_list T
  have H_is_list : Fn l.prog w K mg base _ "is_list" _ _ := ⟨⟨_, _, O_is_list, PySem.W.mg_of X G a_is_list, F_is_list.kp, b_is_list⟩⟩
  have O_is_row := ok_is_row (P := l.prog) (w := w) (mg := mg) (base := base) F_is_row T
  have H_is_row : Fn l.prog w K mg base _ "is_row" _ _ := ⟨⟨_, _, O_is_row, PySem.W.mg_of X G a_is_row, F_is_row.kp, b_is_row⟩⟩
  have O_need_row := ok_need_row (P := l.prog) (w := w) (mg := mg) (base := base) F_need_row T H_is_row
  have H_need_row : Fn l.prog w K mg base _ "need_row" _ _ := ⟨⟨_, _, O_need_row, PySem.W.mg_of X G a_need_row, F_need_row.kp, b_need_row⟩⟩
  have O_is_size := ok_is_size (P := l.prog) (w := w) (mg := mg) (base := base) F_is_size T H_is_number
  have H_is_size : Fn l.prog w K mg base _ "is_size" _ _ := ⟨⟨_, _, O_is_size, PySem.W.mg_of X G a_is_size, F_is_size.kp, b_is_size⟩⟩
  have O_words_in := ok_words_in (P := l.prog) (w := w) (mg := mg) (base := base) F_words_in T
  have H_words_in : Fn l.prog w K mg base _ "words_in" _ _ := ⟨⟨_, _, O_words_in, PySem.W.mg_of X G a_words_in, F_words_in.kp, b_words_in⟩⟩
  have O_is_word := ok_is_word (P := l.prog) (w := w) (mg := mg) (base := base) F_is_word T H_is_row H_is_size
  have H_is_word : Fn l.prog w K mg base _ "is_word" _ _ := ⟨⟨_, _, O_is_word, PySem.W.mg_of X G a_is_word, F_is_word.kp, b_is_word⟩⟩
  have O_need_words := ok_need_words (P := l.prog) (w := w) (mg := mg) (base := base) F_need_words T H_is_list H_is_word
  have H_need_words : Fn l.prog w K mg base _ "need_words" _ _ := ⟨⟨_, _, O_need_words, PySem.W.mg_of X G a_need_words, F_need_words.kp, b_need_words⟩⟩
  have O_Graph_init := ok_Graph_init (P := l.prog) (w := w) (mg := mg) (base := base) (C := CG) clCG F_Graph_init T H_need_words
  have H_Graph : Mke l.prog w K mg base _ CG "Graph" _ _ := ⟨⟨_, _, O_Graph_init, ⟨mkCG, a_Graph_init, i_Graph_init, kcCG⟩, PySem.W.mg_of X G nCG, b_Graph_init⟩⟩
  have O_Graph_size := ok_Graph_size (P := l.prog) (w := w) (mg := mg) (base := base) (C := CG) clCG F_Graph_size T
  have H_Graph_size : Me l.prog w K mg base _ CG "size" _ _ := ⟨⟨_, _, O_Graph_size, clCG.cls, ⟨a_Graph_size, i_Graph_size, F_Graph_size.kp⟩, b_Graph_size⟩⟩
  have O_Graph_words := ok_Graph_words (P := l.prog) (w := w) (mg := mg) (base := base) (C := CG) clCG F_Graph_words T
  have H_Graph_words : Me l.prog w K mg base _ CG "words" _ _ := ⟨⟨_, _, O_Graph_words, clCG.cls, ⟨a_Graph_words, i_Graph_words, F_Graph_words.kp⟩, b_Graph_words⟩⟩
  have O_Graph_need_word := ok_Graph_need_word (P := l.prog) (w := w) (mg := mg) (base := base) (C := CG) clCG F_Graph_need_word T
  have H_Graph_need_word : Me l.prog w K mg base _ CG "need_word" _ _ := ⟨⟨_, _, O_Graph_need_word, clCG.cls, ⟨a_Graph_need_word, i_Graph_need_word, F_Graph_need_word.kp⟩, b_Graph_need_word⟩⟩
  have O_Graph_behind := ok_Graph_behind (P := l.prog) (w := w) (mg := mg) (base := base) (C := CG) clCG F_Graph_behind T H_Graph_need_word
  have H_Graph_behind : Me l.prog w K mg base _ CG "behind" _ _ := ⟨⟨_, _, O_Graph_behind, clCG.cls, ⟨a_Graph_behind, i_Graph_behind, F_Graph_behind.kp⟩, b_Graph_behind⟩⟩
  have O_Graph_reach := ok_Graph_reach (P := l.prog) (w := w) (mg := mg) (base := base) (C := CG) clCG F_Graph_reach T
  have H_Graph_reach : Me l.prog w K mg base _ CG "reach" _ _ := ⟨⟨_, _, O_Graph_reach, clCG.cls, ⟨a_Graph_reach, i_Graph_reach, F_Graph_reach.kp⟩, b_Graph_reach⟩⟩
  have O_Graph_cut := ok_Graph_cut (P := l.prog) (w := w) (mg := mg) (base := base) (C := CG) clCG F_Graph_cut T H_Graph_reach
  have H_Graph_cut : Me l.prog w K mg base _ CG "cut" _ _ := ⟨⟨_, _, O_Graph_cut, clCG.cls, ⟨a_Graph_cut, i_Graph_cut, F_Graph_cut.kp⟩, b_Graph_cut⟩⟩
  have O_need_asked := ok_need_asked (P := l.prog) (w := w) (mg := mg) (base := base) (C := CG) clCG F_need_asked T H_need_row H_Graph_size H_Graph_cut
  have H_need_asked : Fn l.prog w K mg base _ "need_asked" _ _ := ⟨⟨_, _, O_need_asked, PySem.W.mg_of X G a_need_asked, F_need_asked.kp, b_need_asked⟩⟩
  have O_borders_of := ok_borders_of (P := l.prog) (w := w) (mg := mg) (base := base) F_borders_of T
  have H_borders_of : Fn l.prog w K mg base _ "borders_of" _ _ := ⟨⟨_, _, O_borders_of, PySem.W.mg_of X G a_borders_of, F_borders_of.kp, b_borders_of⟩⟩
  have O_read_so_far := ok_read_so_far (P := l.prog) (w := w) (mg := mg) (base := base) F_read_so_far T
  have H_read_so_far : Fn l.prog w K mg base _ "read_so_far" _ _ := ⟨⟨_, _, O_read_so_far, PySem.W.mg_of X G a_read_so_far, F_read_so_far.kp, b_read_so_far⟩⟩
  have O_pairs_of := ok_pairs_of (P := l.prog) (w := w) (mg := mg) (base := base) (C := CG) F_pairs_of T H_Graph_words
  have H_pairs_of : Fn l.prog w K mg base _ "pairs_of" _ _ := ⟨⟨_, _, O_pairs_of, PySem.W.mg_of X G a_pairs_of, F_pairs_of.kp, b_pairs_of⟩⟩
  have O_steps_from := ok_steps_from (P := l.prog) (w := w) (mg := mg) (base := base) (C := CG) F_steps_from T H_Graph_behind H_borders_of H_read_so_far
  have H_steps_from : Fn l.prog w K mg base _ "steps_from" _ _ := ⟨⟨_, _, O_steps_from, PySem.W.mg_of X G a_steps_from, F_steps_from.kp, b_steps_from⟩⟩
  have O_is_pair := ok_is_pair (P := l.prog) (w := w) (mg := mg) (base := base) F_is_pair T H_is_number
  have H_is_pair : Fn l.prog w K mg base _ "is_pair" _ _ := ⟨⟨_, _, O_is_pair, PySem.W.mg_of X G a_is_pair, F_is_pair.kp, b_is_pair⟩⟩
  have O_are_levels := ok_are_levels (P := l.prog) (w := w) (mg := mg) (base := base) (C := CG) F_are_levels T H_is_number H_is_pair H_pairs_of
  have H_are_levels : Fn l.prog w K mg base _ "are_levels" _ _ := ⟨⟨_, _, O_are_levels, PySem.W.mg_of X G a_are_levels, F_are_levels.kp, b_are_levels⟩⟩
  have O_are_lacks := ok_are_lacks (P := l.prog) (w := w) (mg := mg) (base := base) (C := CG) F_are_lacks T H_is_number H_Graph_words
  have H_are_lacks : Fn l.prog w K mg base _ "are_lacks" _ _ := ⟨⟨_, _, O_are_lacks, PySem.W.mg_of X G a_are_lacks, F_are_lacks.kp, b_are_lacks⟩⟩
  have O_is_level_right := ok_is_level_right (P := l.prog) (w := w) (mg := mg) (base := base) F_is_level_right T
  have H_is_level_right : Fn l.prog w K mg base _ "is_level_right" _ _ := ⟨⟨_, _, O_is_level_right, PySem.W.mg_of X G a_is_level_right, F_is_level_right.kp, b_is_level_right⟩⟩
  have O_lets_by := ok_lets_by (P := l.prog) (w := w) (mg := mg) (base := base) (C := CG) clCG F_lets_by T H_need_asked H_words_in H_Graph_size H_are_levels H_are_lacks H_is_level_right H_steps_from
  have H_lets_by : Fn l.prog w K mg base _ "lets_by" _ _ := ⟨⟨_, _, O_lets_by, PySem.W.mg_of X G a_lets_by, F_lets_by.kp, b_lets_by⟩⟩
  have O_Reading_init := ok_Reading_init (P := l.prog) (w := w) (mg := mg) (base := base) (C := CR) (C' := CG) clCR F_Reading_init T H_words_in H_Graph_size H_Graph_words H_pairs_of H_steps_from
  have H_Reading : Mke l.prog w K mg base _ CR "Reading" _ _ := ⟨⟨_, _, O_Reading_init, ⟨mkCR, a_Reading_init, i_Reading_init, kcCR⟩, PySem.W.mg_of X G nCR, b_Reading_init⟩⟩
  have O_Reading_go_from := ok_Reading_go_from (P := l.prog) (w := w) (mg := mg) (base := base) (C := CR) clCR F_Reading_go_from T
  have H_Reading_go_from : Me l.prog w K mg base _ CR "go_from" _ _ := ⟨⟨_, _, O_Reading_go_from, clCR.cls, ⟨a_Reading_go_from, i_Reading_go_from, F_Reading_go_from.kp⟩, b_Reading_go_from⟩⟩
  have O_Reading_gone_out := ok_Reading_gone_out (P := l.prog) (w := w) (mg := mg) (base := base) (C := CR) clCR F_Reading_gone_out T H_Reading_go_from
  have H_Reading_gone_out : Me l.prog w K mg base _ CR "gone_out" _ _ := ⟨⟨_, _, O_Reading_gone_out, clCR.cls, ⟨a_Reading_gone_out, i_Reading_gone_out, F_Reading_gone_out.kp⟩, b_Reading_gone_out⟩⟩
  have O_Reading_elders := ok_Reading_elders (P := l.prog) (w := w) (mg := mg) (base := base) (C := CR) clCR F_Reading_elders T
  have H_Reading_elders : Me l.prog w K mg base _ CR "elders" _ _ := ⟨⟨_, _, O_Reading_elders, clCR.cls, ⟨a_Reading_elders, i_Reading_elders, F_Reading_elders.kp⟩, b_Reading_elders⟩⟩
  have O_Reading_levels := ok_Reading_levels (P := l.prog) (w := w) (mg := mg) (base := base) (C := CR) clCR F_Reading_levels T H_Reading_elders H_Reading_gone_out
  have H_Reading_levels : Me l.prog w K mg base _ CR "levels" _ _ := ⟨⟨_, _, O_Reading_levels, clCR.cls, ⟨a_Reading_levels, i_Reading_levels, F_Reading_levels.kp⟩, b_Reading_levels⟩⟩
  have O_Reading_lots := ok_Reading_lots (P := l.prog) (w := w) (mg := mg) (base := base) (C := CR) F_Reading_lots T
  have H_Reading_lots : Me l.prog w K mg base _ CR "lots" _ _ := ⟨⟨_, _, O_Reading_lots, clCR.cls, ⟨a_Reading_lots, i_Reading_lots, F_Reading_lots.kp⟩, b_Reading_lots⟩⟩
  have O_Reading_lack_of := ok_Reading_lack_of (P := l.prog) (w := w) (mg := mg) (base := base) (C := CR) clCR F_Reading_lack_of T
  have H_Reading_lack_of : Me l.prog w K mg base _ CR "lack_of" _ _ := ⟨⟨_, _, O_Reading_lack_of, clCR.cls, ⟨a_Reading_lack_of, i_Reading_lack_of, F_Reading_lack_of.kp⟩, b_Reading_lack_of⟩⟩
  have O_Reading_goes_round := ok_Reading_goes_round (P := l.prog) (w := w) (mg := mg) (base := base) (C := CR) clCR F_Reading_goes_round T
  have H_Reading_goes_round : Me l.prog w K mg base _ CR "goes_round" _ _ := ⟨⟨_, _, O_Reading_goes_round, clCR.cls, ⟨a_Reading_goes_round, i_Reading_goes_round, F_Reading_goes_round.kp⟩, b_Reading_goes_round⟩⟩
  have O_Reading_way_within := ok_Reading_way_within (P := l.prog) (w := w) (mg := mg) (base := base) (C := CR) clCR F_Reading_way_within T
  have H_Reading_way_within : Me l.prog w K mg base _ CR "way_within" _ _ := ⟨⟨_, _, O_Reading_way_within, clCR.cls, ⟨a_Reading_way_within, i_Reading_way_within, F_Reading_way_within.kp⟩, b_Reading_way_within⟩⟩
  have O_Reading_ring_round := ok_Reading_ring_round (P := l.prog) (w := w) (mg := mg) (base := base) (C := CR) clCR F_Reading_ring_round T H_Reading_way_within
  have H_Reading_ring_round : Me l.prog w K mg base _ CR "ring_round" _ _ := ⟨⟨_, _, O_Reading_ring_round, clCR.cls, ⟨a_Reading_ring_round, i_Reading_ring_round, F_Reading_ring_round.kp⟩, b_Reading_ring_round⟩⟩
  have O_safe_or_not := ok_safe_or_not (P := l.prog) (w := w) (mg := mg) (base := base) (C := CR) (C' := CG) F_safe_or_not T H_need_asked H_Reading H_Reading_levels H_Reading_lots H_Reading_lack_of H_Reading_goes_round H_Reading_ring_round
  have H_safe_or_not : Fn l.prog w K mg base _ "safe_or_not" _ _ := ⟨⟨_, _, O_safe_or_not, PySem.W.mg_of X G a_safe_or_not, F_safe_or_not.kp, b_safe_or_not⟩⟩
  have O_L_behind := ok_L_behind (P := l.prog) (w := w) (mg := mg) (base := base) F_L_behind T
  have H_L_behind : Fn l.prog w K mg base _ "_law_behind" _ _ := ⟨⟨_, _, O_L_behind, PySem.W.mg_of X G a_L_behind, F_L_behind.kp, b_L_behind⟩⟩
  have O_L_so_far := ok_L_so_far (P := l.prog) (w := w) (mg := mg) (base := base) F_L_so_far T
  have H_L_so_far : Fn l.prog w K mg base _ "_law_so_far" _ _ := ⟨⟨_, _, O_L_so_far, PySem.W.mg_of X G a_L_so_far, F_L_so_far.kp, b_L_so_far⟩⟩
  have O_L_steps := ok_L_steps (P := l.prog) (w := w) (mg := mg) (base := base) F_L_steps T H_L_behind H_L_so_far
  have H_L_steps : Fn l.prog w K mg base _ "_law_steps" _ _ := ⟨⟨_, _, O_L_steps, PySem.W.mg_of X G a_L_steps, F_L_steps.kp, b_L_steps⟩⟩
  have O_L_pairs := ok_L_pairs (P := l.prog) (w := w) (mg := mg) (base := base) F_L_pairs T
  have H_L_pairs : Fn l.prog w K mg base _ "_law_pairs" _ _ := ⟨⟨_, _, O_L_pairs, PySem.W.mg_of X G a_L_pairs, F_L_pairs.kp, b_L_pairs⟩⟩
  have O_L_both := ok_L_both (P := l.prog) (w := w) (mg := mg) (base := base) F_L_both T
  have H_L_both : Fn l.prog w K mg base _ "_law_both" _ _ := ⟨⟨_, _, O_L_both, PySem.W.mg_of X G a_L_both, F_L_both.kp, b_L_both⟩⟩
  have O_L_lacking := ok_L_lacking (P := l.prog) (w := w) (mg := mg) (base := base) F_L_lacking T
  have H_L_lacking : Fn l.prog w K mg base _ "_law_lacking" _ _ := ⟨⟨_, _, O_L_lacking, PySem.W.mg_of X G a_L_lacking, F_L_lacking.kp, b_L_lacking⟩⟩
  have O_L_reached := ok_L_reached (P := l.prog) (w := w) (mg := mg) (base := base) F_L_reached T
  have H_L_reached : Fn l.prog w K mg base _ "_law_reached" _ _ := ⟨⟨_, _, O_L_reached, PySem.W.mg_of X G a_L_reached, F_L_reached.kp, b_L_reached⟩⟩
  have O_L_take := ok_L_take (P := l.prog) (w := w) (mg := mg) (base := base) F_L_take T
  have H_L_take : Fn l.prog w K mg base _ "_law_take" _ _ := ⟨⟨_, _, O_L_take, PySem.W.mg_of X G a_L_take, F_L_take.kp, b_L_take⟩⟩
  have O_L_pick := ok_L_pick (P := l.prog) (w := w) (mg := mg) (base := base) F_L_pick T H_L_take
  have H_L_pick : Fn l.prog w K mg base _ "_law_pick" _ _ := ⟨⟨_, _, O_L_pick, PySem.W.mg_of X G a_L_pick, F_L_pick.kp, b_L_pick⟩⟩
  have O_L_signs := ok_L_signs (P := l.prog) (w := w) (mg := mg) (base := base) F_L_signs T H_L_pick
  have H_L_signs : Fn l.prog w K mg base _ "_law_signs" _ _ := ⟨⟨_, _, O_L_signs, PySem.W.mg_of X G a_L_signs, F_L_signs.kp, b_L_signs⟩⟩
  have O_L_round_words := ok_L_round_words (P := l.prog) (w := w) (mg := mg) (base := base) F_L_round_words T
  have H_L_round_words : Fn l.prog w K mg base _ "_law_round_words" _ _ := ⟨⟨_, _, O_L_round_words, PySem.W.mg_of X G a_L_round_words, F_L_round_words.kp, b_L_round_words⟩⟩
  have O_L_walk := ok_L_walk (P := l.prog) (w := w) (mg := mg) (base := base) F_L_walk T H_L_behind H_L_pick
  have H_L_walk : Fn l.prog w K mg base _ "_law_walk" _ _ := ⟨⟨_, _, O_L_walk, PySem.W.mg_of X G a_L_walk, F_L_walk.kp, b_L_walk⟩⟩
  have O_L_begun := ok_L_begun (P := l.prog) (w := w) (mg := mg) (base := base) F_L_begun T
  have H_L_begun : Fn l.prog w K mg base _ "_law_begun" _ _ := ⟨⟨_, _, O_L_begun, PySem.W.mg_of X G a_L_begun, F_L_begun.kp, b_L_begun⟩⟩
  have O_L_drawn := ok_L_drawn (P := l.prog) (w := w) (mg := mg) (base := base) F_L_drawn T H_L_take H_L_pick H_L_signs H_L_round_words
  have H_L_drawn : Fn l.prog w K mg base _ "_law_drawn" _ _ := ⟨⟨_, _, O_L_drawn, PySem.W.mg_of X G a_L_drawn, F_L_drawn.kp, b_L_drawn⟩⟩
  have O_L_lots := ok_L_lots (P := l.prog) (w := w) (mg := mg) (base := base) F_L_lots T H_L_both
  have H_L_lots : Fn l.prog w K mg base _ "_law_lots" _ _ := ⟨⟨_, _, O_L_lots, PySem.W.mg_of X G a_L_lots, F_L_lots.kp, b_L_lots⟩⟩
  have O_L_right := ok_L_right (P := l.prog) (w := w) (mg := mg) (base := base) (C := CG) F_L_right T H_L_take H_L_pick H_L_pairs H_L_steps H_L_reached H_L_lots H_L_lacking H_safe_or_not H_lets_by
  have H_L_right : Fn l.prog w K mg base _ "_law_right" _ _ := ⟨⟨_, _, O_L_right, PySem.W.mg_of X G a_L_right, F_L_right.kp, b_L_right⟩⟩
  have O_law := ok_law (P := l.prog) (w := w) (mg := mg) (base := base) (C := CG) F_law T H_L_begun H_L_take H_L_drawn H_L_walk H_L_right H_Graph
  exact O_law
theorem walk {l : PySem.W.OpenLaw} {q : Program} {loose : List Str} {XP : (Str → Option Value) → Heap → Prop} {YP : World → Heap → Prop} {d : DefRec} {K : Params → PySem.W.Frag} (hn : l.most = some 63) (hdf : d.params.defaults = [])
    (hY : ∀ (w : World) (h : Heap), YP w h → (K w.params).In h)
    (F : ∀ (w : World) (mg : Str → Option Value) (fa : Addr) (h : Heap), (K w.params).In h → h.Ns mainGlobals mg → mg d.name = some (.ref fa) →
      ∃ fd : FuncData, (∀ (s : Shared) (u : Value), BindsTo s fd ⟨[u], []⟩ [("_law_script", u)]) ∧ ∀ base : Heap, (K w.params).In base → base.Ns mainGlobals mg → FnOk l.prog w (K w.params) mg base CX0 8 fa fd ["_law_script"] (spLaw (K w.params))) :
    PySem.W.WalkO q loose XP YP l.row.toRowW d [] (fun f vs => PySem.call f vs) :=
  L2.walk_of (n := 63) (k := 8) (x := "_law_script") (CX := fun _ => CX0) (sp := fun w => spLaw (K w.params)) hn (by decide) hdf ⟨rfl, by decide, by decide⟩ hY F (fun w H a ns hl hO hS => ⟨a, ns, rfl, Scr.of hO hS, hl, fun _ => rfl⟩) fun _ _ _ _ _ z => z
end Sh
set_option Elab.async false
open PySem PySem.W PyProof.Rows
set_option maxRecDepth 100000 in
set_option maxHeartbeats 0 in
theorem PySem.Challenge.cw_shardread_k36_whole_papers_by_hand_holds : PySem.Challenge.rw_shardread_k36_whole_papers_by_hand.Holds := by
  w_on; o_law; k_head; (case hw => w_witness2)
  k_fill
  refine Sh.walk (l := PySem.Challenge.rw_shardread_k36_whole_papers_by_hand) rfl rfl (fun w h Y => PySem.W.kIn_of Y) ?F
  case F =>
    intro w mg fa h KX G hmg
    refine' Sh.all_mk KX G hmg ?nCG ?pgCG ?hdCG ?poCG ?saCG ?mkCG ?kcCG ?noCG_every ?noCG_nexts ?noCG_lasts ?nCR ?pgCR ?hdCR ?poCR ?saCR ?mkCR ?kcCR ?noCR_every ?noCR_pairs ?noCR_steps ?a_is_number ?l_is_number ?a_is_list ?l_is_list ?a_is_row ?l_is_row ?a_need_row ?l_need_row ?a_is_size ?l_is_size ?a_words_in ?l_words_in ?a_is_word ?l_is_word ?a_need_words ?l_need_words ?a_Graph_init ?i_Graph_init ?l_Graph_init ?a_Graph_size ?i_Graph_size ?l_Graph_size ?a_Graph_words ?i_Graph_words ?l_Graph_words ?a_Graph_need_word ?i_Graph_need_word ?l_Graph_need_word ?a_Graph_behind ?i_Graph_behind ?l_Graph_behind ?a_Graph_reach ?i_Graph_reach ?l_Graph_reach ?a_Graph_cut ?i_Graph_cut ?l_Graph_cut ?a_need_asked ?l_need_asked ?a_borders_of ?l_borders_of ?a_read_so_far ?l_read_so_far ?a_pairs_of ?l_pairs_of ?a_steps_from ?l_steps_from ?a_is_pair ?l_is_pair ?a_are_levels ?l_are_levels ?a_are_lacks ?l_are_lacks ?a_is_level_right ?l_is_level_right ?a_lets_by ?l_lets_by ?a_Reading_init ?i_Reading_init ?l_Reading_init ?a_Reading_go_from ?i_Reading_go_from ?l_Reading_go_from ?a_Reading_gone_out ?i_Reading_gone_out ?l_Reading_gone_out ?a_Reading_elders ?i_Reading_elders ?l_Reading_elders ?a_Reading_levels ?i_Reading_levels ?l_Reading_levels ?a_Reading_lots ?i_Reading_lots ?l_Reading_lots ?a_Reading_lack_of ?i_Reading_lack_of ?l_Reading_lack_of ?a_Reading_goes_round ?i_Reading_goes_round ?l_Reading_goes_round ?a_Reading_way_within ?i_Reading_way_within ?l_Reading_way_within ?a_Reading_ring_round ?i_Reading_ring_round ?l_Reading_ring_round ?a_safe_or_not ?l_safe_or_not ?a_L_behind ?l_L_behind ?a_L_so_far ?l_L_so_far ?a_L_steps ?l_L_steps ?a_L_pairs ?l_L_pairs ?a_L_both ?l_L_both ?a_L_lacking ?l_L_lacking ?a_L_reached ?l_L_reached ?a_L_take ?l_L_take ?a_L_pick ?l_L_pick ?a_L_signs ?l_L_signs ?a_L_round_words ?l_L_round_words ?a_L_walk ?l_L_walk ?a_L_begun ?l_L_begun ?a_L_drawn ?l_L_drawn ?a_L_lots ?l_L_lots ?a_L_right ?l_L_right ?a_law ?l_law ?z_len ?z_isinstance ?z_int ?z_bool ?z_str ?z_list ?z_tuple ?z_dict ?z_set ?z_all ?z_any ?z_range ?z_enumerate ?z_zip ?z_reversed ?z_sorted ?z_min ?z_MOST ?aP ?dP ?aS ?dS
    (case nCG => k_is)
    (case pgCG => k_is)
    (case hdCG => k_is)
    (case poCG => k_is)
    (case saCG => k_is)
    (case mkCG => k_is)
    (case kcCG => k_is)
    (case noCG_every => k_is)
    (case noCG_nexts => k_is)
    (case noCG_lasts => k_is)
    (case nCR => k_is)
    (case pgCR => k_is)
    (case hdCR => k_is)
    (case poCR => k_is)
    (case saCR => k_is)
    (case mkCR => k_is)
    (case kcCR => k_is)
    (case noCR_every => k_is)
    (case noCR_pairs => k_is)
    (case noCR_steps => k_is)
    (case a_is_number => k_is)
    (case l_is_number => refine' ⟨_, _, _, _, _, _, _, _, _, ?l, ?c, ?k⟩; (case l => refine' Eq.trans ?h1 ?h2; (case h1 => k_is); (case h2 => exact rfl)); (case c => k_is); (case k => k_is))
    (case a_is_list => k_is)
    (case l_is_list => refine' ⟨_, _, _, _, _, _, _, _, _, ?l, ?c, ?k⟩; (case l => refine' Eq.trans ?h1 ?h2; (case h1 => k_is); (case h2 => exact rfl)); (case c => k_is); (case k => k_is))
    (case a_is_row => k_is)
    (case l_is_row => refine' ⟨_, _, _, _, _, _, _, _, _, ?l, ?c, ?k⟩; (case l => refine' Eq.trans ?h1 ?h2; (case h1 => k_is); (case h2 => exact rfl)); (case c => k_is); (case k => k_is))
    (case a_need_row => k_is)
    (case l_need_row => refine' ⟨_, _, _, _, _, _, _, _, _, _, _, _, _, ?l, ?c, ?k, ?t, ?o, ?r⟩; (case l => refine' Eq.trans ?h1 ?h2; (case h1 => k_is); (case h2 => exact rfl)); (case c => k_is); (case k => k_is); (case t => refine' Eq.trans ?h1 ?h2; (case h1 => k_is); (case h2 => exact rfl)); (case o => exact rfl); (case r => exact .cons ⟨_, rfl⟩ .nil))
    (case a_is_size => k_is)
    (case l_is_size => refine' ⟨_, _, _, _, _, _, _, _, _, ?l, ?c, ?k⟩; (case l => refine' Eq.trans ?h1 ?h2; (case h1 => k_is); (case h2 => exact rfl)); (case c => k_is); (case k => k_is))
    (case a_words_in => k_is)
    (case l_words_in => refine' ⟨_, _, _, _, _, _, _, _, _, ?l, ?c, ?k⟩; (case l => refine' Eq.trans ?h1 ?h2; (case h1 => k_is); (case h2 => exact rfl)); (case c => k_is); (case k => k_is))
    (case a_is_word => k_is)
    (case l_is_word => refine' ⟨_, _, _, _, _, _, _, _, _, ?l, ?c, ?k⟩; (case l => refine' Eq.trans ?h1 ?h2; (case h1 => k_is); (case h2 => exact rfl)); (case c => k_is); (case k => k_is))
    (case a_need_words => k_is)
    (case l_need_words => refine' ⟨_, _, _, _, _, _, _, _, _, ?l, ?c, ?k⟩; (case l => refine' Eq.trans ?h1 ?h2; (case h1 => k_is); (case h2 => exact rfl)); (case c => k_is); (case k => k_is))
    (case a_Graph_init => k_is)
    (case i_Graph_init => k_is)
    (case l_Graph_init => refine' ⟨_, _, _, _, _, _, _, _, _, ?l, ?c, ?k⟩; (case l => refine' Eq.trans ?h1 ?h2; (case h1 => k_is); (case h2 => exact rfl)); (case c => k_is); (case k => k_is))
    (case a_Graph_size => k_is)
    (case i_Graph_size => k_is)
    (case l_Graph_size => refine' ⟨_, _, _, _, _, _, _, _, _, ?l, ?c, ?k⟩; (case l => refine' Eq.trans ?h1 ?h2; (case h1 => k_is); (case h2 => exact rfl)); (case c => k_is); (case k => k_is))
    (case a_Graph_words => k_is)
    (case i_Graph_words => k_is)
    (case l_Graph_words => refine' ⟨_, _, _, _, _, _, _, _, _, ?l, ?c, ?k⟩; (case l => refine' Eq.trans ?h1 ?h2; (case h1 => k_is); (case h2 => exact rfl)); (case c => k_is); (case k => k_is))
    (case a_Graph_need_word => k_is)
    (case i_Graph_need_word => k_is)
    (case l_Graph_need_word => refine' ⟨_, _, _, _, _, _, _, _, _, ?l, ?c, ?k⟩; (case l => refine' Eq.trans ?h1 ?h2; (case h1 => k_is); (case h2 => exact rfl)); (case c => k_is); (case k => k_is))
    (case a_Graph_behind => k_is)
    (case i_Graph_behind => k_is)
    (case l_Graph_behind => refine' ⟨_, _, _, _, _, _, _, _, _, ?l, ?c, ?k⟩; (case l => refine' Eq.trans ?h1 ?h2; (case h1 => k_is); (case h2 => exact rfl)); (case c => k_is); (case k => k_is))
    (case a_Graph_reach => k_is)
    (case i_Graph_reach => k_is)
    (case l_Graph_reach => refine' ⟨_, _, _, _, _, _, _, _, _, ?l, ?c, ?k⟩; (case l => refine' Eq.trans ?h1 ?h2; (case h1 => k_is); (case h2 => exact rfl)); (case c => k_is); (case k => k_is))
    (case a_Graph_cut => k_is)
    (case i_Graph_cut => k_is)
    (case l_Graph_cut => refine' ⟨_, _, _, _, _, _, _, _, _, ?l, ?c, ?k⟩; (case l => refine' Eq.trans ?h1 ?h2; (case h1 => k_is); (case h2 => exact rfl)); (case c => k_is); (case k => k_is))
    (case a_need_asked => k_is)
    (case l_need_asked => refine' ⟨_, _, _, _, _, _, _, _, _, ?l, ?c, ?k⟩; (case l => refine' Eq.trans ?h1 ?h2; (case h1 => k_is); (case h2 => exact rfl)); (case c => k_is); (case k => k_is))
    (case a_borders_of => k_is)
    (case l_borders_of => refine' ⟨_, _, _, _, _, _, _, _, _, ?l, ?c, ?k⟩; (case l => refine' Eq.trans ?h1 ?h2; (case h1 => k_is); (case h2 => exact rfl)); (case c => k_is); (case k => k_is))
    (case a_read_so_far => k_is)
    (case l_read_so_far => refine' ⟨_, _, _, _, _, _, _, _, _, ?l, ?c, ?k⟩; (case l => refine' Eq.trans ?h1 ?h2; (case h1 => k_is); (case h2 => exact rfl)); (case c => k_is); (case k => k_is))
    (case a_pairs_of => k_is)
    (case l_pairs_of => refine' ⟨_, _, _, _, _, _, _, _, _, ?l, ?c, ?k⟩; (case l => refine' Eq.trans ?h1 ?h2; (case h1 => k_is); (case h2 => exact rfl)); (case c => k_is); (case k => k_is))
    (case a_steps_from => k_is)
    (case l_steps_from => refine' ⟨_, _, _, _, _, _, _, _, _, ?l, ?c, ?k⟩; (case l => refine' Eq.trans ?h1 ?h2; (case h1 => k_is); (case h2 => exact rfl)); (case c => k_is); (case k => k_is))
    (case a_is_pair => k_is)
    (case l_is_pair => refine' ⟨_, _, _, _, _, _, _, _, _, ?l, ?c, ?k⟩; (case l => refine' Eq.trans ?h1 ?h2; (case h1 => k_is); (case h2 => exact rfl)); (case c => k_is); (case k => k_is))
    (case a_are_levels => k_is)
    (case l_are_levels => refine' ⟨_, _, _, _, _, _, _, _, _, ?l, ?c, ?k⟩; (case l => refine' Eq.trans ?h1 ?h2; (case h1 => k_is); (case h2 => exact rfl)); (case c => k_is); (case k => k_is))
    (case a_are_lacks => k_is)
    (case l_are_lacks => refine' ⟨_, _, _, _, _, _, _, _, _, ?l, ?c, ?k⟩; (case l => refine' Eq.trans ?h1 ?h2; (case h1 => k_is); (case h2 => exact rfl)); (case c => k_is); (case k => k_is))
    (case a_is_level_right => k_is)
    (case l_is_level_right => refine' ⟨_, _, _, _, _, _, _, _, _, ?l, ?c, ?k⟩; (case l => refine' Eq.trans ?h1 ?h2; (case h1 => k_is); (case h2 => exact rfl)); (case c => k_is); (case k => k_is))
    (case a_lets_by => k_is)
    (case l_lets_by => refine' ⟨_, _, _, _, _, _, _, _, _, ?l, ?c, ?k⟩; (case l => refine' Eq.trans ?h1 ?h2; (case h1 => k_is); (case h2 => exact rfl)); (case c => k_is); (case k => k_is))
    (case a_Reading_init => k_is)
    (case i_Reading_init => k_is)
    (case l_Reading_init => refine' ⟨_, _, _, _, _, _, _, _, _, ?l, ?c, ?k⟩; (case l => refine' Eq.trans ?h1 ?h2; (case h1 => k_is); (case h2 => exact rfl)); (case c => k_is); (case k => k_is))
    (case a_Reading_go_from => k_is)
    (case i_Reading_go_from => k_is)
    (case l_Reading_go_from => refine' ⟨_, _, _, _, _, _, _, _, _, ?l, ?c, ?k⟩; (case l => refine' Eq.trans ?h1 ?h2; (case h1 => k_is); (case h2 => exact rfl)); (case c => k_is); (case k => k_is))
    (case a_Reading_gone_out => k_is)
    (case i_Reading_gone_out => k_is)
    (case l_Reading_gone_out => refine' ⟨_, _, _, _, _, _, _, _, _, ?l, ?c, ?k⟩; (case l => refine' Eq.trans ?h1 ?h2; (case h1 => k_is); (case h2 => exact rfl)); (case c => k_is); (case k => k_is))
    (case a_Reading_elders => k_is)
    (case i_Reading_elders => k_is)
    (case l_Reading_elders => refine' ⟨_, _, _, _, _, _, _, _, _, ?l, ?c, ?k⟩; (case l => refine' Eq.trans ?h1 ?h2; (case h1 => k_is); (case h2 => exact rfl)); (case c => k_is); (case k => k_is))
    (case a_Reading_levels => k_is)
    (case i_Reading_levels => k_is)
    (case l_Reading_levels => refine' ⟨_, _, _, _, _, _, _, _, _, ?l, ?c, ?k⟩; (case l => refine' Eq.trans ?h1 ?h2; (case h1 => k_is); (case h2 => exact rfl)); (case c => k_is); (case k => k_is))
    (case a_Reading_lots => k_is)
    (case i_Reading_lots => k_is)
    (case l_Reading_lots => refine' ⟨_, _, _, _, _, _, _, _, _, ?l, ?c, ?k⟩; (case l => refine' Eq.trans ?h1 ?h2; (case h1 => k_is); (case h2 => exact rfl)); (case c => k_is); (case k => k_is))
    (case a_Reading_lack_of => k_is)
    (case i_Reading_lack_of => k_is)
    (case l_Reading_lack_of => refine' ⟨_, _, _, _, _, _, _, _, _, ?l, ?c, ?k⟩; (case l => refine' Eq.trans ?h1 ?h2; (case h1 => k_is); (case h2 => exact rfl)); (case c => k_is); (case k => k_is))
    (case a_Reading_goes_round => k_is)
    (case i_Reading_goes_round => k_is)
    (case l_Reading_goes_round => refine' ⟨_, _, _, _, _, _, _, _, _, ?l, ?c, ?k⟩; (case l => refine' Eq.trans ?h1 ?h2; (case h1 => k_is); (case h2 => exact rfl)); (case c => k_is); (case k => k_is))
    (case a_Reading_way_within => k_is)
    (case i_Reading_way_within => k_is)
    (case l_Reading_way_within => refine' ⟨_, _, _, _, _, _, _, _, _, ?l, ?c, ?k⟩; (case l => refine' Eq.trans ?h1 ?h2; (case h1 => k_is); (case h2 => exact rfl)); (case c => k_is); (case k => k_is))
    (case a_Reading_ring_round => k_is)
    (case i_Reading_ring_round => k_is)
    (case l_Reading_ring_round => refine' ⟨_, _, _, _, _, _, _, _, _, ?l, ?c, ?k⟩; (case l => refine' Eq.trans ?h1 ?h2; (case h1 => k_is); (case h2 => exact rfl)); (case c => k_is); (case k => k_is))
    (case a_safe_or_not => k_is)
    (case l_safe_or_not => refine' ⟨_, _, _, _, _, _, _, _, _, ?l, ?c, ?k⟩; (case l => refine' Eq.trans ?h1 ?h2; (case h1 => k_is); (case h2 => exact rfl)); (case c => k_is); (case k => k_is))
    (case a_L_behind => k_is)
    (case l_L_behind => refine' ⟨_, _, _, _, _, _, _, _, _, ?l, ?c, ?k⟩; (case l => refine' Eq.trans ?h1 ?h2; (case h1 => k_is); (case h2 => exact rfl)); (case c => k_is); (case k => k_is))
    (case a_L_so_far => k_is)
    (case l_L_so_far => refine' ⟨_, _, _, _, _, _, _, _, _, ?l, ?c, ?k⟩; (case l => refine' Eq.trans ?h1 ?h2; (case h1 => k_is); (case h2 => exact rfl)); (case c => k_is); (case k => k_is))
    (case a_L_steps => k_is)
    (case l_L_steps => refine' ⟨_, _, _, _, _, _, _, _, _, ?l, ?c, ?k⟩; (case l => refine' Eq.trans ?h1 ?h2; (case h1 => k_is); (case h2 => exact rfl)); (case c => k_is); (case k => k_is))
    (case a_L_pairs => k_is)
    (case l_L_pairs => refine' ⟨_, _, _, _, _, _, _, _, _, ?l, ?c, ?k⟩; (case l => refine' Eq.trans ?h1 ?h2; (case h1 => k_is); (case h2 => exact rfl)); (case c => k_is); (case k => k_is))
    (case a_L_both => k_is)
    (case l_L_both => refine' ⟨_, _, _, _, _, _, _, _, _, ?l, ?c, ?k⟩; (case l => refine' Eq.trans ?h1 ?h2; (case h1 => k_is); (case h2 => exact rfl)); (case c => k_is); (case k => k_is))
    (case a_L_lacking => k_is)
    (case l_L_lacking => refine' ⟨_, _, _, _, _, _, _, _, _, ?l, ?c, ?k⟩; (case l => refine' Eq.trans ?h1 ?h2; (case h1 => k_is); (case h2 => exact rfl)); (case c => k_is); (case k => k_is))
    (case a_L_reached => k_is)
    (case l_L_reached => refine' ⟨_, _, _, _, _, _, _, _, _, ?l, ?c, ?k⟩; (case l => refine' Eq.trans ?h1 ?h2; (case h1 => k_is); (case h2 => exact rfl)); (case c => k_is); (case k => k_is))
    (case a_L_take => k_is)
    (case l_L_take => refine' ⟨_, _, _, _, _, _, _, _, _, ?l, ?c, ?k⟩; (case l => refine' Eq.trans ?h1 ?h2; (case h1 => k_is); (case h2 => exact rfl)); (case c => k_is); (case k => k_is))
    (case a_L_pick => k_is)
    (case l_L_pick => refine' ⟨_, _, _, _, _, _, _, _, _, ?l, ?c, ?k⟩; (case l => refine' Eq.trans ?h1 ?h2; (case h1 => k_is); (case h2 => exact rfl)); (case c => k_is); (case k => k_is))
    (case a_L_signs => k_is)
    (case l_L_signs => refine' ⟨_, _, _, _, _, _, _, _, _, ?l, ?c, ?k⟩; (case l => refine' Eq.trans ?h1 ?h2; (case h1 => k_is); (case h2 => exact rfl)); (case c => k_is); (case k => k_is))
    (case a_L_round_words => k_is)
    (case l_L_round_words => refine' ⟨_, _, _, _, _, _, _, _, _, ?l, ?c, ?k⟩; (case l => refine' Eq.trans ?h1 ?h2; (case h1 => k_is); (case h2 => exact rfl)); (case c => k_is); (case k => k_is))
    (case a_L_walk => k_is)
    (case l_L_walk => refine' ⟨_, _, _, _, _, _, _, _, _, ?l, ?c, ?k⟩; (case l => refine' Eq.trans ?h1 ?h2; (case h1 => k_is); (case h2 => exact rfl)); (case c => k_is); (case k => k_is))
    (case a_L_begun => k_is)
    (case l_L_begun => refine' ⟨_, _, _, _, _, _, _, _, _, ?l, ?c, ?k⟩; (case l => refine' Eq.trans ?h1 ?h2; (case h1 => k_is); (case h2 => exact rfl)); (case c => k_is); (case k => k_is))
    (case a_L_drawn => k_is)
    (case l_L_drawn => refine' ⟨_, _, _, _, _, _, _, _, _, ?l, ?c, ?k⟩; (case l => refine' Eq.trans ?h1 ?h2; (case h1 => k_is); (case h2 => exact rfl)); (case c => k_is); (case k => k_is))
    (case a_L_lots => k_is)
    (case l_L_lots => refine' ⟨_, _, _, _, _, _, _, _, _, ?l, ?c, ?k⟩; (case l => refine' Eq.trans ?h1 ?h2; (case h1 => k_is); (case h2 => exact rfl)); (case c => k_is); (case k => k_is))
    (case a_L_right => k_is)
    (case l_L_right => refine' ⟨_, _, _, _, _, _, _, _, _, ?l, ?c, ?k⟩; (case l => refine' Eq.trans ?h1 ?h2; (case h1 => k_is); (case h2 => exact rfl)); (case c => k_is); (case k => k_is))
    (case a_law => k_is)
    (case l_law => refine' ⟨_, _, _, _, _, _, _, _, _, ?l, ?c, ?k⟩; (case l => refine' Eq.trans ?h1 ?h2; (case h1 => k_is); (case h2 => exact rfl)); (case c => k_is); (case k => k_is))
    (case z_len => k_is)
    (case z_isinstance => k_is)
    (case z_int => k_is)
    (case z_bool => k_is)
    (case z_str => k_is)
    (case z_list => k_is)
    (case z_tuple => k_is)
    (case z_dict => k_is)
    (case z_set => k_is)
    (case z_all => k_is)
    (case z_any => k_is)
    (case z_range => k_is)
    (case z_enumerate => k_is)
    (case z_zip => k_is)
    (case z_reversed => k_is)
    (case z_sorted => k_is)
    (case z_min => k_is)
    (case z_MOST => k_is)
    (case aP => k_is)
    (case dP => refine' ⟨_, _, ?l, ?c, ?k, ?v⟩; (case l => refine' Eq.trans ?h1 ?h2; (case h1 => k_is); (case h2 => exact rfl)); (case c => exact ⟨⟨_, _, rfl, rfl⟩, ⟨_, _, rfl, rfl⟩, ⟨_, _, rfl, rfl⟩, ⟨_, _, rfl, rfl⟩, trivial⟩); (case k => rfl); (case v => intro x hx; simp only [Sh.signs, List.mem_cons, List.not_mem_nil, or_false] at hx; rcases hx with rfl | rfl | rfl | rfl; (refine' ⟨_, ?h0⟩; (case h0 => refine' Eq.trans ?h1 ?h2; (case h1 => k_is); (case h2 => exact rfl))); (refine' ⟨_, ?h0⟩; (case h0 => refine' Eq.trans ?h1 ?h2; (case h1 => k_is); (case h2 => exact rfl))); (refine' ⟨_, ?h0⟩; (case h0 => refine' Eq.trans ?h1 ?h2; (case h1 => k_is); (case h2 => exact rfl))); (refine' ⟨_, ?h0⟩; (case h0 => refine' Eq.trans ?h1 ?h2; (case h1 => k_is); (case h2 => exact rfl)))))
    (case aS => k_is)
    (case dS => refine' ⟨_, _, _, ?l, ?c, ?d, ?z, ?v⟩; (case l => refine' Eq.trans ?h1 ?h2; (case h1 => k_is); (case h2 => exact rfl)); (case c => exact rfl); (case d => exact rfl); (case z => decide); (case v => exact .cons ⟨_, rfl⟩ (.cons ⟨_, rfl⟩ (.cons ⟨_, rfl⟩ (.cons ⟨_, rfl⟩ .nil)))))
