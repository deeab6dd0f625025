import PyProof.Rows.All
import Wide.All
import OpenK.AllK
import Wide.FinOn
import HandS.ForMost
import HandS.ForExc
import HandS.Deep
import KE.KEqNest
import HandS.IsInst
import HandS.StrMore
import HandS.TryElse
import HandS.TryMany
import HandS.ExcInit
import PySem.Challenge.RW_citeward_k23_whole_each_pointing_tells_o
set_option Elab.async false
set_option linter.all false
set_option maxRecDepth 100000
section
namespace Dx
open PySem L2

/-! data -/
inductive D where
  | non
  | bl (b : Bool)
  | int (i : Int)
  | str (x : Str)
  | lst (xs : List D)
  | tup (xs : List D)
  | dic (kvs : List (Key × D))
  | dct (kvs : List (List Key × D))

mutual
def Rep (H : Hp) : D → V → Prop
  | .non, v => v = .non
  | .bl b, v => v = .bl b
  | .int i, v => v = .int i
  | .str x, v => v = .str x
  | .lst ds, v => ∃ a vs, v = .ref a ∧ Rd H a (.lst vs) ∧ Reps H ds vs
  | .tup ds, v => ∃ a vs, v = .ref a ∧ H a = some (.tup vs) ∧ Reps H ds vs
  | .dic kvs, v => ∃ a ws, v = .ref a ∧ Rd H a (.dK ws) ∧ RepK H kvs ws
  | .dct kvs, v => ∃ a ws, v = .ref a ∧ Rd H a (.dT ws) ∧ RepT H kvs ws
def Reps (H : Hp) : List D → List V → Prop
  | [], vs => vs = []
  | d :: ds, vs => ∃ v r, vs = v :: r ∧ Rep H d v ∧ Reps H ds r
def RepK (H : Hp) : List (Key × D) → List (Key × V) → Prop
  | [], ws => ws = []
  | (k, d) :: ds, ws => ∃ v r, ws = (k, v) :: r ∧ Rep H d v ∧ RepK H ds r
def RepT (H : Hp) : List (List Key × D) → List (List Key × V) → Prop
  | [], ws => ws = []
  | (k, d) :: ds, ws => ∃ v r, ws = (k, v) :: r ∧ Rep H d v ∧ RepT H ds r
end

/-- what may be read stays -/
def Keeps (H H' : Hp) : Prop := (∀ a u, Rd H a u → Rd H' a u) ∧ ∀ a xs, H a = some (.tup xs) → H' a = some (.tup xs)
theorem Keeps.refl (H : Hp) : Keeps H H := ⟨fun _ _ h => h, fun _ _ h => h⟩
theorem Keeps.of_same {H H' : Hp} (s : Same H H') : Keeps H H' := ⟨fun a u h => h.elim (fun h => .inl (s _ _ h)) fun ⟨o, h⟩ => .inr ⟨o, s _ _ h⟩, fun a xs h => s _ _ h⟩
theorem Keeps.trans {H H1 H2 : Hp} (s : Keeps H H1) (t : Keeps H1 H2) : Keeps H H2 := ⟨fun a u h => t.1 _ _ (s.1 _ _ h), fun a u h => t.2 _ _ (s.2 _ _ h)⟩

mutual
theorem Rep.mono {H H' : Hp} (k : Keeps H H') : ∀ (d : D) (v : V), Rep H d v → Rep H' d v
  | .non, v, h => by simpa [Rep] using h
  | .bl b, v, h => by simpa [Rep] using h
  | .int i, v, h => by simpa [Rep] using h
  | .str x, v, h => by simpa [Rep] using h
  | .lst ds, v, h => by
    rw [Rep] at h ⊢
    obtain ⟨a, vs, e, r, q⟩ := h
    exact ⟨a, vs, e, k.1 _ _ r, Reps.mono k ds vs q⟩
  | .tup ds, v, h => by
    rw [Rep] at h ⊢
    obtain ⟨a, vs, e, r, q⟩ := h
    exact ⟨a, vs, e, k.2 _ _ r, Reps.mono k ds vs q⟩
  | .dic ds, v, h => by
    rw [Rep] at h ⊢
    obtain ⟨a, vs, e, r, q⟩ := h
    exact ⟨a, vs, e, k.1 _ _ r, RepK.mono k ds vs q⟩
  | .dct ds, v, h => by
    rw [Rep] at h ⊢
    obtain ⟨a, vs, e, r, q⟩ := h
    exact ⟨a, vs, e, k.1 _ _ r, RepT.mono k ds vs q⟩
theorem Reps.mono {H H' : Hp} (k : Keeps H H') : ∀ (ds : List D) (vs : List V), Reps H ds vs → Reps H' ds vs
  | [], vs, h => by simpa [Reps] using h
  | d :: ds, vs, h => by
    rw [Reps] at h ⊢
    obtain ⟨v, r, e, p, q⟩ := h
    exact ⟨v, r, e, Rep.mono k d v p, Reps.mono k ds r q⟩
theorem RepK.mono {H H' : Hp} (k : Keeps H H') : ∀ (ds : List (Key × D)) (vs : List (Key × V)), RepK H ds vs → RepK H' ds vs
  | [], vs, h => by simpa [RepK] using h
  | (_, d) :: ds, vs, h => by
    rw [RepK] at h ⊢
    obtain ⟨v, r, e, p, q⟩ := h
    exact ⟨v, r, e, Rep.mono k d v p, RepK.mono k ds r q⟩
theorem RepT.mono {H H' : Hp} (k : Keeps H H') : ∀ (ds : List (List Key × D)) (vs : List (List Key × V)), RepT H ds vs → RepT H' ds vs
  | [], vs, h => by simpa [RepT] using h
  | (_, d) :: ds, vs, h => by
    rw [RepT] at h ⊢
    obtain ⟨v, r, e, p, q⟩ := h
    exact ⟨v, r, e, Rep.mono k d v p, RepT.mono k ds r q⟩
end

section reps
variable {H : Hp}
theorem Rep.non_iff {v : V} : Rep H .non v ↔ v = .non := by simp [Rep]
theorem Rep.bl_iff {v : V} {b : Bool} : Rep H (.bl b) v ↔ v = .bl b := by simp [Rep]
theorem Rep.int_iff {v : V} {b : Int} : Rep H (.int b) v ↔ v = .int b := by simp [Rep]
theorem Rep.str_iff {v : V} {b : Str} : Rep H (.str b) v ↔ v = .str b := by simp [Rep]
theorem Rep.lst_iff {v : V} {ds : List D} : Rep H (.lst ds) v ↔ ∃ a vs, v = .ref a ∧ Rd H a (.lst vs) ∧ Reps H ds vs := by rw [Rep]
theorem Rep.tup_iff {v : V} {ds : List D} : Rep H (.tup ds) v ↔ ∃ a vs, v = .ref a ∧ H a = some (.tup vs) ∧ Reps H ds vs := by rw [Rep]
theorem Rep.dic_iff {v : V} {ds : List (Key × D)} : Rep H (.dic ds) v ↔ ∃ a ws, v = .ref a ∧ Rd H a (.dK ws) ∧ RepK H ds ws := by rw [Rep]
theorem Rep.dct_iff {v : V} {ds : List (List Key × D)} : Rep H (.dct ds) v ↔ ∃ a ws, v = .ref a ∧ Rd H a (.dT ws) ∧ RepT H ds ws := by rw [Rep]
theorem Reps.nil_iff {vs : List V} : Reps H [] vs ↔ vs = [] := by rw [Reps]
theorem Reps.cons_iff {d : D} {ds : List D} {vs : List V} : Reps H (d :: ds) vs ↔ ∃ v r, vs = v :: r ∧ Rep H d v ∧ Reps H ds r := by rw [Reps]
theorem Reps.length : ∀ {ds : List D} {vs : List V}, Reps H ds vs → ds.length = vs.length
  | [], vs, h => by rw [Reps.nil_iff] at h; subst h; rfl
  | d :: ds, vs, h => by
    obtain ⟨v, r, rfl, _, q⟩ := Reps.cons_iff.mp h
    simp [Reps.length q]
theorem Reps.get : ∀ {ds : List D} {vs : List V} {i : Nat} {d : D}, Reps H ds vs → ds[i]? = some d → ∃ v, vs[i]? = some v ∧ Rep H d v
  | [], vs, i, d, h, e => by simp at e
  | d0 :: ds, vs, 0, d, h, e => by
    obtain ⟨v, r, rfl, p, q⟩ := Reps.cons_iff.mp h
    simp at e; subst e; exact ⟨v, rfl, p⟩
  | d0 :: ds, vs, i + 1, d, h, e => by
    obtain ⟨v, r, rfl, p, q⟩ := Reps.cons_iff.mp h
    simpa using Reps.get q (by simpa using e)
theorem Reps.getV : ∀ {ds : List D} {vs : List V} {i : Nat} {v : V}, Reps H ds vs → vs[i]? = some v → ∃ d, ds[i]? = some d ∧ Rep H d v
  | [], vs, i, d, h, e => by rw [Reps.nil_iff] at h; subst h; simp at e
  | d0 :: ds, vs, 0, v', h, e => by
    obtain ⟨v, r, rfl, p, q⟩ := Reps.cons_iff.mp h
    simp at e; subst e; exact ⟨d0, rfl, p⟩
  | d0 :: ds, vs, i + 1, v', h, e => by
    obtain ⟨v, r, rfl, p, q⟩ := Reps.cons_iff.mp h
    simpa using Reps.getV q (by simpa using e)
theorem Reps.append : ∀ {ds es : List D} {vs ws : List V}, Reps H ds vs → Reps H es ws → Reps H (ds ++ es) (vs ++ ws)
  | [], es, vs, ws, h, k => by rw [Reps.nil_iff] at h; subst h; exact k
  | d :: ds, es, vs, ws, h, k => by
    obtain ⟨v, r, rfl, p, q⟩ := Reps.cons_iff.mp h
    exact Reps.cons_iff.mpr ⟨v, r ++ ws, rfl, p, Reps.append q k⟩
theorem Reps.take : ∀ {ds : List D} {vs : List V} (n : Nat), Reps H ds vs → Reps H (ds.take n) (vs.take n)
  | [], vs, n, h => by rw [Reps.nil_iff] at h; subst h; simp [Reps.nil_iff]
  | d :: ds, vs, 0, h => by simp [Reps.nil_iff]
  | d :: ds, vs, n + 1, h => by
    obtain ⟨v, r, rfl, p, q⟩ := Reps.cons_iff.mp h
    exact Reps.cons_iff.mpr ⟨v, r.take n, rfl, p, Reps.take n q⟩
theorem Reps.drop : ∀ {ds : List D} {vs : List V} (n : Nat), Reps H ds vs → Reps H (ds.drop n) (vs.drop n)
  | [], vs, n, h => by rw [Reps.nil_iff] at h; subst h; simp [Reps.nil_iff]
  | d :: ds, vs, 0, h => h
  | d :: ds, vs, n + 1, h => by
    obtain ⟨v, r, rfl, p, q⟩ := Reps.cons_iff.mp h
    exact Reps.drop n q
theorem Reps.set : ∀ {ds : List D} {vs : List V} {d : D} {v : V} (i : Nat), Reps H ds vs → Rep H d v → Reps H (ds.set i d) (vs.set i v)
  | [], vs, d, v, n, h, k => by rw [Reps.nil_iff] at h; subst h; simp [Reps.nil_iff]
  | d0 :: ds, vs, d, v, 0, h, k => by
    obtain ⟨v0, r, rfl, p, q⟩ := Reps.cons_iff.mp h
    exact Reps.cons_iff.mpr ⟨v, r, rfl, k, q⟩
  | d0 :: ds, vs, d, v, n + 1, h, k => by
    obtain ⟨v0, r, rfl, p, q⟩ := Reps.cons_iff.mp h
    exact Reps.cons_iff.mpr ⟨v0, _, rfl, p, Reps.set n q k⟩
theorem Reps.dropLast {ds : List D} {vs : List V} (h : Reps H ds vs) : Reps H ds.dropLast vs.dropLast := by
  rw [List.dropLast_eq_take, List.dropLast_eq_take, ← h.length]
  exact h.take _
theorem Reps.nil : Reps H [] [] := Reps.nil_iff.mpr rfl
theorem Reps.cons {d : D} {ds : List D} {v : V} {vs : List V} (h : Rep H d v) (k : Reps H ds vs) : Reps H (d :: ds) (v :: vs) := Reps.cons_iff.mpr ⟨v, vs, rfl, h, k⟩
theorem Reps.ints : ∀ {ns : List Int}, Reps H (ns.map D.int) (ns.map V.int)
  | [] => .nil
  | n :: ns => .cons (Rep.int_iff.mpr rfl) Reps.ints
theorem Reps.strs : ∀ {ns : List Str}, Reps H (ns.map D.str) (ns.map V.str)
  | [] => .nil
  | n :: ns => .cons (Rep.str_iff.mpr rfl) Reps.strs
theorem Reps.strs_inv : ∀ {ns : List Str} {vs : List V}, Reps H (ns.map D.str) vs → vs = ns.map V.str
  | [], vs, h => Reps.nil_iff.mp h
  | n :: ns, vs, h => by
    obtain ⟨v, r, rfl, p, q⟩ := Reps.cons_iff.mp h
    rw [Reps.strs_inv q, Rep.str_iff.mp p]; rfl
end reps

/-! hidden places -/
open Classical in
noncomputable def hide (O : Addr → Prop) (H : Hp) : Hp := fun a => if O a then none else H a
theorem hide_in {O : Addr → Prop} {H : Hp} {a : Addr} (h : O a) : hide O H a = none := by simp [hide, h]
theorem hide_out {O : Addr → Prop} {H : Hp} {a : Addr} (h : ¬ O a) : hide O H a = H a := by simp [hide, h]
theorem hide_some {O : Addr → Prop} {H : Hp} {a : Addr} {o : HO} (h : hide O H a = some o) : ¬ O a ∧ H a = some o := by
  by_cases q : O a
  · rw [hide_in q] at h; cases h
  · rw [hide_out q] at h; exact ⟨q, h⟩
theorem same_hide {O O' : Addr → Prop} {H H' : Hp} (s : ∀ a o, ¬ O a → H a = some o → H' a = some o) (i : ∀ a, O' a → O a ∨ H a = none) : Same (hide O H) (hide O' H') := fun a o h => by
  obtain ⟨h1, h2⟩ := hide_some h
  rw [hide_out]
  · exact s a o h1 h2
  · intro q
    rcases i a q with z | z
    · exact h1 z
    · rw [z] at h2; cases h2
theorem same_hide_sub {O : Addr → Prop} {H : Hp} : Same (hide O H) H := fun a o h => (hide_some h).2
theorem hide_same {O : Addr → Prop} {H H' : Hp} (s : Same H H') : Same (hide O H) (hide O H') := same_hide (fun a o _ h => s a o h) fun a h => .inl h

/-- the object at a, its items in the part that is shared -/
def Root (HS H : Hp) (d : D) (a : Addr) : Prop := match d with
  | .lst ds => ∃ vs, H a = some (.lst vs) ∧ Reps HS ds vs
  | .dic kvs => ∃ ws, H a = some (.dK ws) ∧ RepK HS kvs ws
  | .dct kvs => ∃ ws, H a = some (.dT ws) ∧ RepT HS kvs ws
  | _ => False
theorem Root.mono {HS HS' H H' : Hp} {d : D} {a : Addr} (k : Keeps HS HS') (e : H' a = H a) (h : Root HS H d a) : Root HS' H' d a := by
  cases d <;> simp only [Root] at h ⊢
  · obtain ⟨vs, h1, h2⟩ := h; exact ⟨vs, e.trans h1, Reps.mono k _ _ h2⟩
  · obtain ⟨vs, h1, h2⟩ := h; exact ⟨vs, e.trans h1, RepK.mono k _ _ h2⟩
  · obtain ⟨vs, h1, h2⟩ := h; exact ⟨vs, e.trans h1, RepT.mono k _ _ h2⟩
theorem Root.there {HS H : Hp} {d : D} {a : Addr} (h : Root HS H d a) : ∃ o, H a = some o := by
  cases d <;> simp only [Root] at h
  · obtain ⟨vs, h1, _⟩ := h; exact ⟨_, h1⟩
  · obtain ⟨vs, h1, _⟩ := h; exact ⟨_, h1⟩
  · obtain ⟨vs, h1, _⟩ := h; exact ⟨_, h1⟩
/-- shared from now on -/
theorem Root.rep {HS HS' H : Hp} {d : D} {a : Addr} (k : Keeps HS HS') (e : HS' a = H a) (h : Root HS H d a) : Rep HS' d (.ref a) := by
  cases d <;> simp only [Root] at h
  · obtain ⟨vs, h1, h2⟩ := h; exact Rep.lst_iff.mpr ⟨a, vs, rfl, .inl (e.trans h1), Reps.mono k _ _ h2⟩
  · obtain ⟨vs, h1, h2⟩ := h; exact Rep.dic_iff.mpr ⟨a, vs, rfl, .inl (e.trans h1), RepK.mono k _ _ h2⟩
  · obtain ⟨vs, h1, h2⟩ := h; exact Rep.dct_iff.mpr ⟨a, vs, rfl, .inl (e.trans h1), RepT.mono k _ _ h2⟩

/-! slots -/
inductive Slot where
  | no
  | sh (d : D)
  | ro (d : D)
abbrev Env := List Slot
def SlotOk (HS H : Hp) (s : Slot) (x : Option (Option V)) (F : List Addr) : Prop := match s with
  | .no => F = []
  | .sh d => F = [] ∧ ∃ v, x = some (some v) ∧ Rep HS d v
  | .ro d => ∃ a, F = [a] ∧ x = some (some (.ref a)) ∧ Root HS H d a
/-- all that is not to be read freely -/
def Oc (S : Addr → Prop) (F : Nat → List Addr) (a : Addr) : Prop := S a ∨ ∃ i, a ∈ F i
/-- what may be changed of what stood at the entry; what is shared from some time on -/
structure Gh where
  M : Addr → Prop
  Z : Hp
structure EOk (H0 : Hp) (S : Addr → Prop) (M : Gh) (σ : St) (H : Hp) (δ : Env) (F : Nat → List Addr) : Prop where
  len : σ.length = δ.length
  ext : ∀ a o, H0 a = some o → ¬ M.M a → H a = some o
  dom : ∀ a, S a → ∃ o, H a = some o
  ms : ∀ a, M.M a → ¬ S a
  dm : ∀ a, M.M a → ∃ o, H a = some o
  nd : ∀ i, (F i).Nodup
  dj : ∀ i j a, i ≠ j → a ∈ F i → a ∉ F j
  own : ∀ i a, a ∈ F i → (∃ o, H a = some o) ∧ (H0 a = none ∨ M.M a) ∧ ¬ S a
  fz : Same M.Z (hide (Oc S F) H)
  slot : ∀ i, SlotOk (hide (Oc S F) H) H (δ.getD i .no) σ[i]? (F i)

theorem SlotOk.mono {HS HS' H H' : Hp} {s : Slot} {x : Option (Option V)} {F : List Addr} (k : Keeps HS HS') (e : ∀ a ∈ F, H' a = H a) (h : SlotOk HS H s x F) : SlotOk HS' H' s x F := by
  cases s with
  | no => exact h
  | sh d => obtain ⟨h1, v, h2, h3⟩ := h; exact ⟨h1, v, h2, Rep.mono k _ _ h3⟩
  | ro d => obtain ⟨a, h1, h2, h3⟩ := h; exact ⟨a, h1, h2, h3.mono k (e a (by simp [h1]))⟩
section
variable {H0 H H' : Hp} {S : Addr → Prop} {M : Gh} {σ : St} {δ : Env} {F : Nat → List Addr}
theorem EOk.there (E : EOk H0 S M σ H δ F) {a : Addr} (h : Oc S F a) : ∃ o, H a = some o := by
  rcases h with h | ⟨i, h⟩
  · exact E.dom a h
  · exact (E.own i a h).1
theorem EOk.new (E : EOk H0 S M σ H δ F) {p : Addr} (h : H p = none) : ¬ Oc S F p := fun q => by
  obtain ⟨o, e⟩ := E.there q
  rw [h] at e; cases e
/-- more objects -/
theorem EOk.grow (E : EOk H0 S M σ H δ F) (s : Same H H') : EOk H0 S M σ H' δ F where
  len := E.len
  ext := fun a o h m => s _ _ (E.ext a o h m)
  dom := fun a h => let ⟨o, e⟩ := E.dom a h; ⟨o, s _ _ e⟩
  ms := E.ms
  dm := fun a h => let ⟨o, e⟩ := E.dm a h; ⟨o, s _ _ e⟩
  nd := E.nd
  dj := E.dj
  own := fun i a h => let ⟨⟨o, e⟩, r⟩ := E.own i a h; ⟨⟨o, s _ _ e⟩, r⟩
  fz := E.fz.trans (hide_same s)
  slot := fun i => (E.slot i).mono (Keeps.of_same (hide_same s)) fun a h => by
    obtain ⟨⟨o, e⟩, _⟩ := E.own i a h
    rw [e, s _ _ e]
/-- fewer owners: more is shared -/
theorem EOk.kk {i : Nat} : Same (hide (Oc S F) H) (hide (Oc S (fun j => if j = i then [] else F j)) H) := same_hide (fun _ _ _ h => h) fun a h => by
  rcases h with h | ⟨k, h⟩
  · exact .inl (.inl h)
  · try dsimp only at h
    split at h; cases h
    exact .inl (.inr ⟨k, h⟩)
/-- a slot stored: shared -/
theorem EOk.setSh (E : EOk H0 S M σ H δ F) {i : Nat} {v : V} {d : D} (r : Rep (hide (Oc S F) H) d v) :
    EOk H0 S M (σ.set i (some v)) H (δ.set i (.sh d)) (fun j => if j = i then [] else F j) where
  len := by simp [E.len]
  ext := E.ext
  dom := E.dom
  ms := E.ms
  dm := E.dm
  nd := fun j => by show (if j = i then [] else F j).Nodup; split; exact List.nodup_nil; exact E.nd j
  dj := fun j k a n h h' => by
    try dsimp only at h h'
    split at h; cases h
    split at h'; cases h'
    exact E.dj j k a n h h'
  own := fun j a h => by
    try dsimp only at h
    split at h; cases h
    exact E.own j a h
  fz := E.fz.trans EOk.kk
  slot := fun j => by
    have kk : Keeps (hide (Oc S F) H) (hide (Oc S (fun j => if j = i then [] else F j)) H) := Keeps.of_same EOk.kk
    by_cases hj : j = i
    · subst hj
      by_cases hi : j < δ.length
      · have e1 : (δ.set j (Slot.sh d)).getD j .no = .sh d := by simp [List.getD, List.getElem?_set, hi]
        have e2 : (σ.set j (some v))[j]? = some (some v) := by simp [List.getElem?_set, E.len, hi]
        rw [e1, e2]
        exact ⟨if_pos rfl, v, rfl, Rep.mono kk _ _ r⟩
      · have e1 : (δ.set j (Slot.sh d)).getD j .no = .no := by simp [List.getD, List.getElem?_eq_none, Nat.le_of_not_lt hi]
        rw [e1]
        exact if_pos rfl
    · have e1 : (δ.set i (Slot.sh d)).getD j .no = δ.getD j .no := by simp [List.getD, List.getElem?_set, Ne.symm hj]
      have e2 : (σ.set i (some v))[j]? = σ[j]? := by simp [List.getElem?_set, Ne.symm hj]
      rw [e1, e2]
      show SlotOk _ _ _ _ (if j = i then [] else F j)
      rw [if_neg hj]
      exact (E.slot j).mono kk fun _ _ => rfl
/-- a slot stored: a new object of one's own -/
theorem EOk.setRo (E : EOk H0 S M σ H δ F) (s : Same H H') {i : Nat} {p : Addr} {d : D} (hi : i < δ.length) (hp : H p = none) (r : Root (hide (fun a => Oc S F a ∨ a = p) H') H' d p) :
    EOk H0 S M (σ.set i (some (.ref p))) H' (δ.set i (.ro d)) (fun j => if j = i then [p] else F j) := by
  have hO : ¬ Oc S F p := E.new hp
  have h0 : H0 p = none ∨ M.M p := by
    cases q : H0 p with
    | none => exact .inl rfl
    | some o =>
      refine .inr (Classical.byContradiction fun m => ?_)
      rw [E.ext p o q m] at hp; cases hp
  have E' := E.grow s
  have kz : Same (hide (Oc S F) H) (hide (Oc S (fun j => if j = i then [p] else F j)) H') := same_hide (fun a o _ h => s a o h) fun a h => by
    rcases h with h | ⟨k, h⟩
    · exact .inl (.inl h)
    · try dsimp only at h
      split at h
      · simp at h; subst h; exact .inr hp
      · exact .inl (.inr ⟨k, h⟩)
  refine ⟨by simp [E.len], E'.ext, E'.dom, E'.ms, E'.dm, fun j => ?_, fun j k a n h h' => ?_, fun j a h => ?_, E.fz.trans kz, fun j => ?_⟩
  · show (if j = i then [p] else F j).Nodup; split; simp; exact E.nd j
  · try dsimp only at h h'
    split at h
    · split at h'
      · omega
      · simp at h; subst h; exact hO (.inr ⟨k, h'⟩)
    · split at h'
      · simp at h'; subst h'; exact hO (.inr ⟨j, h⟩)
      · exact E.dj j k a n h h'
  · try dsimp only at h
    split at h
    · simp at h; subst h
      exact ⟨r.there, h0, fun z => (hO (.inl z)).elim⟩
    · exact E'.own j a h
  · have kk : Keeps (hide (fun a => Oc S F a ∨ a = p) H') (hide (Oc S (fun j => if j = i then [p] else F j)) H') := Keeps.of_same (same_hide (fun _ _ _ h => h) fun a h => by
      rcases h with h | ⟨k, h⟩
      · exact .inl (.inl (.inl h))
      · try dsimp only at h
        split at h
        · simp at h; exact .inl (.inr h)
        · exact .inl (.inl (.inr ⟨k, h⟩)))
    by_cases hj : j = i
    · subst hj
      have e1 : (δ.set j (Slot.ro d)).getD j .no = .ro d := by simp [List.getD, List.getElem?_set, hi]
      have e2 : (σ.set j (some (V.ref p)))[j]? = some (some (.ref p)) := by simp [List.getElem?_set, E.len, hi]
      rw [e1, e2]
      exact ⟨p, if_pos rfl, rfl, r.mono kk rfl⟩
    · have e1 : (δ.set i (Slot.ro d)).getD j .no = δ.getD j .no := by simp [List.getD, List.getElem?_set, Ne.symm hj]
      have e2 : (σ.set i (some (V.ref p)))[j]? = σ[j]? := by simp [List.getElem?_set, Ne.symm hj]
      rw [e1, e2]
      show SlotOk _ _ _ _ (if j = i then [p] else F j)
      rw [if_neg hj]
      have k2 : Keeps (hide (Oc S F) H) (hide (fun a => Oc S F a ∨ a = p) H') := Keeps.of_same (same_hide (fun a o _ h => s a o h) fun a h => by
        rcases h with h | h
        · exact .inl h
        · subst h; exact .inr hp)
      exact (E.slot j).mono (k2.trans kk) fun a h => by
        obtain ⟨⟨o, e⟩, _⟩ := E.own j a h
        rw [e, s _ _ e]
/-- a slot's own object changed -/
theorem EOk.write (E : EOk H0 S M σ H δ F) {i : Nat} {a : Addr} {d d' : D} {o : HO} (hs : δ.getD i .no = .ro d) (hx : σ[i]? = some (some (.ref a))) (r : Root (hide (Oc S F) H) (upd H a o) d' a) :
    EOk H0 S M σ (upd H a o) (δ.set i (.ro d')) F := by
  have ha : F i = [a] := by
    have q := E.slot i
    rw [hs] at q
    obtain ⟨b, q1, q2, _⟩ := q
    rw [hx] at q2; cases q2; exact q1
  have hm : a ∈ F i := by simp [ha]
  have hi : i < δ.length := by
    rw [← E.len]
    exact (List.getElem?_eq_some_iff.mp hx).1
  have hO : Oc S F a := .inr ⟨i, hm⟩
  have he : hide (Oc S F) (upd H a o) = hide (Oc S F) H := by
    funext b
    by_cases hb : Oc S F b
    · rw [hide_in hb, hide_in hb]
    · rw [hide_out hb, hide_out hb, upd_ne (fun q => hb (by rw [q]; exact hO))]
  have hs2 : ∀ b o', H b = some o' → ∃ o'', (upd H a o) b = some o'' := fun b o' e => by
    by_cases hb : b = a
    · subst hb; exact ⟨_, upd_same⟩
    · exact ⟨o', by rw [upd_ne hb]; exact e⟩
  refine ⟨by simp [E.len], fun b o' e m => ?_, fun b h => let ⟨o', e⟩ := E.dom b h; hs2 b o' e, E.ms, fun b h => let ⟨o', e⟩ := E.dm b h; hs2 b o' e, E.nd, E.dj, fun j b h => let ⟨⟨o', e⟩, q⟩ := E.own j b h; ⟨hs2 b o' e, q⟩, by rw [he]; exact E.fz, fun j => ?_⟩
  · rw [upd_ne]
    · exact E.ext b o' e m
    · rintro rfl
      obtain ⟨_, q, _⟩ := E.own i b hm
      rcases q with q | q
      · rw [e] at q; cases q
      · exact m q
  · rw [he]
    by_cases hj : j = i
    · subst hj
      have e1 : (δ.set j (Slot.ro d')).getD j .no = .ro d' := by simp [List.getD, List.getElem?_set, hi]
      rw [e1]
      exact ⟨a, ha, hx, r⟩
    · have e1 : (δ.set i (Slot.ro d')).getD j .no = δ.getD j .no := by simp [List.getD, List.getElem?_set, Ne.symm hj]
      rw [e1]
      exact (E.slot j).mono (Keeps.refl _) fun b h => upd_ne fun q => E.dj j i b hj h (by rw [q]; exact hm)
/-- a slot's own object is shared from now on -/
theorem EOk.freeze (E : EOk H0 S M σ H δ F) {i : Nat} {d : D} (hs : δ.getD i .no = .ro d) : EOk H0 S M σ H (δ.set i (.sh d)) (fun j => if j = i then [] else F j) := by
  have q := E.slot i
  rw [hs] at q
  obtain ⟨a, q1, q2, q3⟩ := q
  have hi : i < δ.length := by
    rw [← E.len]
    exact (List.getElem?_eq_some_iff.mp q2).1
  have na : ¬ Oc S (fun j => if j = i then [] else F j) a := by
    rintro (h | ⟨k, h⟩)
    · exact (E.own i a (by simp [q1])).2.2 h
    · try dsimp only at h
      split at h; cases h
      rename_i hk
      exact E.dj k i a hk h (by simp [q1])
  have kk : Keeps (hide (Oc S F) H) (hide (Oc S (fun j => if j = i then [] else F j)) H) := Keeps.of_same (same_hide (fun _ _ _ h => h) fun a h => by
      rcases h with h | ⟨k, h⟩
      · exact .inl (.inl h)
      · try dsimp only at h
        split at h; cases h
        exact .inl (.inr ⟨k, h⟩))
  refine ⟨by simp [E.len], E.ext, E.dom, E.ms, E.dm, fun j => ?_, fun j k a n h h' => ?_, fun j a h => ?_, E.fz.trans EOk.kk, fun j => ?_⟩
  · show (if j = i then [] else F j).Nodup; split; exact List.nodup_nil; exact E.nd j
  · try dsimp only at h h'
    split at h; cases h
    split at h'; cases h'
    exact E.dj j k a n h h'
  · try dsimp only at h
    split at h; cases h
    exact E.own j a h
  · by_cases hj : j = i
    · subst hj
      have e1 : (δ.set j (Slot.sh d)).getD j .no = .sh d := by simp [List.getD, List.getElem?_set, hi]
      rw [e1]
      exact ⟨if_pos rfl, _, q2, q3.rep kk (hide_out na)⟩
    · have e1 : (δ.set i (Slot.sh d)).getD j .no = δ.getD j .no := by simp [List.getD, List.getElem?_set, Ne.symm hj]
      rw [e1]
      show SlotOk _ _ _ _ (if j = i then [] else F j)
      rw [if_neg hj]
      exact (E.slot j).mono kk fun _ _ => rfl
/-- a slot forgotten -/
theorem EOk.forget (E : EOk H0 S M σ H δ F) (i : Nat) : EOk H0 S M σ H (δ.set i .no) (fun j => if j = i then [] else F j) := by
  have kk : Keeps (hide (Oc S F) H) (hide (Oc S (fun j => if j = i then [] else F j)) H) := Keeps.of_same (same_hide (fun _ _ _ h => h) fun a h => by
      rcases h with h | ⟨k, h⟩
      · exact .inl (.inl h)
      · try dsimp only at h
        split at h; cases h
        exact .inl (.inr ⟨k, h⟩))
  refine ⟨by simp [E.len], E.ext, E.dom, E.ms, E.dm, fun j => ?_, fun j k a n h h' => ?_, fun j a h => ?_, E.fz.trans EOk.kk, fun j => ?_⟩
  · show (if j = i then [] else F j).Nodup; split; exact List.nodup_nil; exact E.nd j
  · try dsimp only at h h'
    split at h; cases h
    split at h'; cases h'
    exact E.dj j k a n h h'
  · try dsimp only at h
    split at h; cases h
    exact E.own j a h
  · by_cases hj : j = i
    · subst hj
      have e1 : (δ.set j Slot.no).getD j .no = .no := by
        by_cases hi : j < δ.length
        · simp [List.getD, List.getElem?_set, hi]
        · simp [List.getD, List.getElem?_eq_none, Nat.le_of_not_lt hi]
      rw [e1]
      exact if_pos rfl
    · have e1 : (δ.set i Slot.no).getD j .no = δ.getD j .no := by simp [List.getD, List.getElem?_set, Ne.symm hj]
      rw [e1]
      show SlotOk _ _ _ _ (if j = i then [] else F j)
      rw [if_neg hj]
      exact (E.slot j).mono kk fun _ _ => rfl
/-- another account of what is shared -/
theorem EOk.regh (E : EOk H0 S M σ H δ F) {Z : Hp} (z : Same Z (hide (Oc S F) H)) : EOk H0 S ⟨M.M, Z⟩ σ H δ F := ⟨E.len, E.ext, E.dom, E.ms, E.dm, E.nd, E.dj, E.own, z, E.slot⟩
end
end Dx
end
section
namespace Dx
open PySem L2

structure Exn where
  cls : Str
  arg : Option (Str × D)
inductive Res (α : Type) where
  | ok (a : α)
  | exc (e : Exn)
  | stuck
def Res.bind {α β : Type} (r : Res α) (k : α → Res β) : Res β := match r with
  | .ok a => k a
  | .exc e => .exc e
  | .stuck => .stuck
@[simp] theorem Res.bind_ok {α β : Type} (a : α) (k : α → Res β) : (Res.ok a).bind k = k a := rfl
@[simp] theorem Res.bind_exc {α β : Type} (e : Exn) (k : α → Res β) : (Res.exc e).bind k = .exc e := rfl
@[simp] theorem Res.bind_stuck {α β : Type} (k : α → Res β) : (Res.stuck).bind k = .stuck := rfl
inductive Md where
  | bo | sh | fr
def ResOk (S : Addr → Prop) (F : Nat → List Addr) (H H' : Hp) : Md → D → V → Prop
  | .bo, d, v => Rep (hide S H') d v
  | .sh, d, v => Rep (hide (Oc S F) H') d v
  | .fr, d, v => ∃ p, v = .ref p ∧ H p = none ∧ Root (hide (fun a => Oc S F a ∨ a = p) H') H' d p
def ExcAt (mg : Str → Option Value) (O : Addr → Prop) (H' : Hp) (e : Exn) (cls : Value) (dx : Option Addr) : Prop :=
  mg e.cls = some cls ∧ match e.arg with
  | none => True
  | some (f, d) => ∃ a v, dx = some a ∧ H' a = some (.xd [(f, v)]) ∧ Rep (hide O H') d v
section
variable {mg : Str → Option Value} {W : WX} {σ : St} {H H1 H' : Hp} {S : Addr → Prop} {M : Gh} {F : Nat → List Addr} {δ : Env} {H0 : Hp}

theorem hide_keeps {O : Addr → Prop} (s : Same H H') : Keeps (hide O H) (hide O H') := Keeps.of_same (hide_same s)
theorem oc_s {a : Addr} (h : S a) : Oc S F a := .inl h
theorem sh_bo : Keeps (hide (Oc S F) H) (hide S H) := Keeps.of_same (same_hide (fun _ _ _ h => h) fun a h => .inl (.inl h))
/-- the value of an expression, later on -/
theorem ResOk.later {m : Md} {d : D} {v : V} (s : Same H1 H') (r : ResOk S F H H1 m d v) : ResOk S F H H' m d v := by
  cases m with
  | bo => exact Rep.mono (hide_keeps s) _ _ r
  | sh => exact Rep.mono (hide_keeps s) _ _ r
  | fr =>
    obtain ⟨p, e, n, r⟩ := r
    obtain ⟨o, q⟩ := r.there
    exact ⟨p, e, n, r.mono (hide_keeps s) (by rw [q, s _ _ q])⟩
theorem ResOk.sooner {m : Md} {d : D} {v : V} (s : Same H H1) (r : ResOk S F H1 H' m d v) : ResOk S F H H' m d v := by
  cases m with
  | bo => exact r
  | sh => exact r
  | fr =>
    obtain ⟨p, e, n, r⟩ := r
    exact ⟨p, e, s.free n, r⟩
theorem ResOk.shared {d : D} {v : V} (E : EOk H0 S M σ H δ F) (r : ResOk S F H H' .fr d v) : ResOk S F H H' .sh d v := by
  obtain ⟨p, e, n, r⟩ := r
  subst e
  exact r.rep (Keeps.of_same (same_hide (fun _ _ _ h => h) fun a h => .inl (.inl h))) (hide_out (E.new n))
theorem ResOk.borrowed {d : D} {v : V} (r : ResOk S F H H' .sh d v) : ResOk S F H H' .bo d v := Rep.mono sh_bo _ _ r

def Out (mg : Str → Option Value) (W : WX) (σ : St) (H : Hp) (S : Addr → Prop) (F : Nat → List Addr) (m : Md) (r : Res D) (Q : VK) : Prop := match r with
  | .ok d => ∀ v H', Same H H' → ResOk S F H H' m d v → Q v H'
  | .exc e => ∀ cls dx H', Same H H' → ExcAt mg S H' e cls dx → W cls dx σ H'
  | .stuck => False
abbrev ER := Env → Res D
def tE (mg : Str → Option Value) (W : WX) (m : Md) (f : ER) : TE := fun σ H Q => ∃ H0 S M δ F, EOk H0 S M σ H δ F ∧ Out mg W σ H S F m (f δ) Q
theorem Out.mono {m : Md} {r : Res D} {Q : VK} (s : Same H H1) (h : Out mg W σ H S F m r Q) : Out mg W σ H1 S F m r Q := by
  cases r with
  | ok d => exact fun v H' s' q => h v H' (s.trans s') (q.sooner s)
  | exc e => exact fun cls dx H' s' q => h cls dx H' (s.trans s') q
  | stuck => exact h
theorem Out.bind {m m' : Md} {r : Res D} {k : D → Res D} {Q P : VK} (h : Out mg W σ H S F m' (r.bind k) Q)
    (hp : ∀ d v H1, r = .ok d → Same H H1 → ResOk S F H H1 m d v → Out mg W σ H1 S F m' (k d) Q → P v H1) : Out mg W σ H S F m r P := by
  cases r with
  | ok d => exact fun v H1 s q => hp d v H1 rfl s q (Out.mono s h)
  | exc e => exact h
  | stuck => exact h
end

section
variable {X : Cx} {W : WX}
def DE (X : Cx) (W : WX) (m : Md) (e : Expr) (f : ER) : Prop := PE X e (tE X.mg W m f)
theorem pe_weaken {e : Expr} {t t' : TE} (h : PE X e t) (hw : ∀ σ H Q, t' σ H Q → t σ H Q) : PE X e t' := ⟨fun pins s σ H Q I q => h.run pins s σ H Q I (hw σ H Q q)⟩

/-! coercions -/
theorem de_bo {e : Expr} {f : ER} (h : DE X W .sh e f) : DE X W .bo e f := pe_weaken h fun σ H Q ⟨H0, S, M, δ, F, E, q⟩ => by
  refine ⟨H0, S, M, δ, F, E, ?_⟩
  cases hf : f δ with
  | ok d => rw [hf] at q; exact fun v H' s r => q v H' s r.borrowed
  | exc e => rw [hf] at q; exact q
  | stuck => rw [hf] at q; exact q
theorem de_sh {e : Expr} {f : ER} (h : DE X W .fr e f) : DE X W .sh e f := pe_weaken h fun σ H Q ⟨H0, S, M, δ, F, E, q⟩ => by
  refine ⟨H0, S, M, δ, F, E, ?_⟩
  cases hf : f δ with
  | ok d => rw [hf] at q; exact fun v H' s r => q v H' s (r.shared E)
  | exc e => rw [hf] at q; exact q
  | stuck => rw [hf] at q; exact q
theorem de_frbo {e : Expr} {f : ER} (h : DE X W .fr e f) : DE X W .bo e f := de_bo (de_sh h)

/-- neither list nor tuple nor dict -/
def flat : D → Bool
  | .non => true
  | .bl _ => true
  | .int _ => true
  | .str _ => true
  | _ => false
theorem flat_rep {H H' : Hp} {d : D} {v : V} (h : flat d = true) (r : Rep H d v) : Rep H' d v := by
  cases d <;> first | (cases h; done) | (rw [Rep] at r ⊢; exact r)
def fval : D → V
  | .bl b => .bl b
  | .int i => .int i
  | .str x => .str x
  | _ => .non
theorem ResOk.flat_mk {S : Addr → Prop} {F : Nat → List Addr} {H H' : Hp} {m : Md} (d : D) (hf : flat d = true) (hm : m ≠ .fr) : ResOk S F H H' m d (fval d) := by
  cases d <;> first | (cases hf; done) | (cases m <;> first | exact (hm rfl).elim | (show Rep _ _ _; rw [Rep]; rfl))
theorem Rep.flat_inv {H : Hp} {d : D} {v : V} (hf : flat d = true) (r : Rep H d v) : v = fval d := by
  cases d <;> first | (cases hf; done) | (rw [Rep] at r; exact r)
theorem Rep.flat_mk {H : Hp} (d : D) (hf : flat d = true) : Rep H d (fval d) := by
  cases d <;> first | (cases hf; done) | (rw [Rep]; rfl)
theorem ResOk.flat_inv {S : Addr → Prop} {F : Nat → List Addr} {H H' : Hp} {m : Md} {d : D} {v : V} (hf : flat d = true) (r : ResOk S F H H' m d v) : v = fval d := by
  cases m with
  | bo => exact Rep.flat_inv hf r
  | sh => exact Rep.flat_inv hf r
  | fr => obtain ⟨p, _, _, q⟩ := r; cases d <;> first | (cases hf; done) | exact q.elim
def dImm (f : ER) : ER := fun δ => (f δ).bind fun d => if flat d then .ok d else .stuck
theorem de_imm {e : Expr} {f : ER} (h : DE X W .bo e f) : DE X W .sh e (dImm f) := pe_weaken h fun σ H Q ⟨H0, S, M, δ, F, E, q⟩ => by
  refine ⟨H0, S, M, δ, F, E, Out.bind q fun d v H1 _ s r o => ?_⟩
  by_cases hd : flat d = true
  · rw [if_pos hd] at o
    exact o v H1 (Same.refl _) (flat_rep hd r)
  · rw [if_neg hd] at o
    exact o.elim

/-! names, constants -/
def dVar (i : Nat) : ER := fun δ => match δ.getD i .no with
  | .sh d => .ok d
  | .ro d => .ok d
  | .no => .stuck
def dSh (i : Nat) : ER := fun δ => match δ.getD i .no with
  | .sh d => .ok d
  | .ro _ => .stuck
  | .no => .stuck
theorem de_var (i : Nat) {x : Str} {pos : Pos} (hN : X.N[i]? = some x := by rfl) (hv : Vis X.env.scope x := by first | exact Or.inl rfl | exact Or.inr (Or.inl rfl) | exact Or.inr (Or.inr rfl)) (hd : (x == ("__debug__" : Str)) = false := by decide)
    (hcd : (x == ("__classdict__" : Str)) = false := by decide) : DE X W .sh (.Name x pos) (dSh i) := pe_weaken (pe_var hN hv hd hcd) fun σ H Q ⟨H0, S, M, δ, F, E, q⟩ => by
  have z := E.slot i
  unfold dSh at q
  cases hs : δ.getD i .no with
  | no => rw [hs] at q; exact q.elim
  | ro d => rw [hs] at q; exact q.elim
  | sh d =>
    rw [hs] at q z
    obtain ⟨_, v, e, r⟩ := z
    exact ⟨v, e, q v H (Same.refl _) r⟩
theorem de_varB (i : Nat) {x : Str} {pos : Pos} (hN : X.N[i]? = some x := by rfl) (hv : Vis X.env.scope x := by first | exact Or.inl rfl | exact Or.inr (Or.inl rfl) | exact Or.inr (Or.inr rfl)) (hd : (x == ("__debug__" : Str)) = false := by decide)
    (hcd : (x == ("__classdict__" : Str)) = false := by decide) : DE X W .bo (.Name x pos) (dVar i) := pe_weaken (pe_var hN hv hd hcd) fun σ H Q ⟨H0, S, M, δ, F, E, q⟩ => by
  have z := E.slot i
  unfold dVar at q
  cases hs : δ.getD i .no with
  | no => rw [hs] at q; exact q.elim
  | ro d =>
    rw [hs] at q z
    obtain ⟨a, e1, e, r⟩ := z
    exact ⟨_, e, q _ H (Same.refl _) (r.rep sh_bo (hide_out (E.own i a (by simp [e1])).2.2))⟩
  | sh d =>
    rw [hs] at q z
    obtain ⟨_, v, e, r⟩ := z
    exact ⟨v, e, q v H (Same.refl _) (Rep.mono sh_bo _ _ r)⟩

/-- a text that the module's top holds -/
theorem de_gstr {x : Str} {z : Str} {pos : Pos} (hm : ∃ t, X.mg x = some (.str z t)) (hg : Gl X x := by rfl) (hd : (x == ("__debug__" : Str)) = false := by decide) : DE X W .sh (.Name x pos) (fun _ => .ok (.str z)) := by
  obtain ⟨t, hm⟩ := hm
  exact pe_weaken (pe_glob (v := .str z) hg hm ⟨_, rfl⟩ hd) fun σ H Q ⟨H0, S, M, δ, F, E, q⟩ => q _ H (Same.refl _) (ResOk.flat_mk (.str _) rfl (fun h => nomatch h))
theorem de_gint {x : Str} {z : Int} {pos : Pos} (hm : ∃ t, X.mg x = some (.int z t)) (hg : Gl X x := by rfl) (hd : (x == ("__debug__" : Str)) = false := by decide) : DE X W .sh (.Name x pos) (fun _ => .ok (.int z)) := by
  obtain ⟨t, hm⟩ := hm
  exact pe_weaken (pe_glob (v := .int z) hg hm ⟨_, rfl⟩ hd) fun σ H Q ⟨H0, S, M, δ, F, E, q⟩ => q _ H (Same.refl _) (ResOk.flat_mk (.int _) rfl (fun h => nomatch h))
def dC (d : D) : ER := fun _ => .ok d
theorem de_int {i j pos} : DE X W .sh (.Constant (.int i) j pos) (dC (.int i)) := pe_weaken pe_int fun σ H Q ⟨H0, S, M, δ, F, E, q⟩ => q _ H (Same.refl _) (ResOk.flat_mk (.int _) rfl (fun h => nomatch h))
theorem de_bl {i j pos} : DE X W .sh (.Constant (.bool i) j pos) (dC (.bl i)) := pe_weaken pe_bl fun σ H Q ⟨H0, S, M, δ, F, E, q⟩ => q _ H (Same.refl _) (ResOk.flat_mk (.bl _) rfl (fun h => nomatch h))
theorem de_non {j pos} : DE X W .sh (.Constant .none j pos) (dC .non) := pe_weaken pe_non fun σ H Q ⟨H0, S, M, δ, F, E, q⟩ => q _ H (Same.refl _) (ResOk.flat_mk .non rfl (fun h => nomatch h))
theorem de_str {i j pos} : DE X W .sh (.Constant (.str i) j pos) (dC (.str i)) := pe_weaken pe_str fun σ H Q ⟨H0, S, M, δ, F, E, q⟩ => q _ H (Same.refl _) (ResOk.flat_mk (.str _) rfl (fun h => nomatch h))

/-! two values -/
def Pm (m : Md) (S : Addr → Prop) (F : Nat → List Addr) : Addr → Prop := match m with
  | .bo => S
  | _ => Oc S F
section
variable {S : Addr → Prop} {M : Gh} {F : Nat → List Addr} {H0 H H' : Hp} {σ : St} {δ : Env}
theorem EOk.pm (E : EOk H0 S M σ H δ F) {m : Md} {a : Addr} (h : Pm m S F a) : ∃ o, H a = some o := by
  cases m with
  | bo => exact E.dom a h
  | sh => exact E.there h
  | fr => exact E.there h
theorem ResOk.rep {m : Md} {d : D} {v : V} (E : EOk H0 S M σ H δ F) (r : ResOk S F H H' m d v) : Rep (hide (Pm m S F) H') d v := by
  cases m with
  | bo => exact r
  | sh => exact r
  | fr => exact r.shared E
end
def R2D (r : R2) (g : D → D → Res D) : Prop := ∀ (P : Addr → Prop) (H : Hp) (x y : V) (d1 d2 d : D) (Q : VK), (∀ a, P a → ∃ o, H a = some o) → Rep (hide P H) d1 x → Rep (hide P H) d2 y → g d1 d2 = .ok d →
  (∀ z H', Same H H' → Rep (hide P H') d z → Q z H') → r x y H Q
def NoExc (g : D → D → Res D) : Prop := ∀ d1 d2 e, g d1 d2 ≠ .exc e
def dOp2 (g : D → D → Res D) (fa fb : ER) : ER := fun δ => (fa δ).bind fun x => (fb δ).bind fun y => g x y
/-- the mode of a result -/
def Md.res : Md → Md
  | .bo => .bo
  | _ => .sh
theorem ResOk.of_res {S : Addr → Prop} {F : Nat → List Addr} {H H' : Hp} {m : Md} {d : D} {v : V} (r : Rep (hide (Pm m S F) H') d v) : ResOk S F H H' m.res d v := by
  cases m <;> exact r
variable {a b : Expr} {fa fb : ER} {m : Md} {pos : Pos} {r : R2} {g : D → D → Res D} {S : Addr → Prop} {M : Gh} {F : Nat → List Addr} {H0 H H' : Hp} {σ : St} {δ : Env}
theorem tOp_ok (hr : R2D r g) (hx : NoExc g) {Q P : VK} (E : EOk H0 S M σ H δ F) (h : Out X.mg W σ H S F m.res (dOp2 g fa fb δ) Q) (hP : ∀ v H, Q v H → P v H) : tOp r (tE X.mg W m fa) (tE X.mg W m fb) σ H P := by
  refine ⟨H0, S, M, δ, F, E, Out.bind h fun d1 v1 H1 _ s1 r1 o1 => ?_⟩
  refine ⟨H0, S, M, δ, F, E.grow s1, Out.bind o1 fun d2 v2 H2 _ s2 r2 o2 => ?_⟩
  have E2 := (E.grow s1).grow s2
  have q1 := (r1.later s2).rep E
  have q2 := r2.rep (E.grow s1)
  cases hg : g d1 d2 with
  | stuck => rw [hg] at o2; exact o2.elim
  | exc e => exact (hx _ _ _ hg).elim
  | ok d =>
    rw [hg] at o2
    exact hr (Pm m S F) H2 v1 v2 d1 d2 d _ (fun a h => E2.pm h) q1 q2 hg fun z H' s' q => hP _ _ (o2 z H' s' (.of_res q))
theorem de_op2 {op : Operator} (ho : OpR X (binaryOp op) r) (hr : R2D r g) (hx : NoExc g) (ha : DE X W m a fa) (hb : DE X W m b fb) : DE X W m.res (.BinOp a op b pos) (dOp2 g fa fb) :=
  pe_weaken (pe_op ho ha hb) fun σ H Q ⟨H0, S, M, δ, F, E, q⟩ => tOp_ok hr hx E q fun _ _ h => h
theorem de_cmp2 {op : CmpOp} (ho : OpR X (compareOp op) r) (hr : R2D r g) (hx : NoExc g) (ha : DE X W m a fa) (hb : DE X W m b fb) (hm : behindInMarks op b = false) : DE X W m.res (.Compare a [op] [b] pos) (dOp2 g fa fb) :=
  pe_weaken (pe_cmpR ho ha hb hm) fun σ H Q ⟨H0, S, M, δ, F, E, q⟩ => tOp_ok hr hx E q fun _ _ h => h
/-- what gives flat answers gives them anywhere -/
def Flats (g : D → D → Res D) : Prop := ∀ d1 d2 d, g d1 d2 = .ok d → flat d = true
theorem Out.flats {mg : Str → Option Value} {m m' : Md} {r : Res D} {Q : VK} (hm : m ≠ .fr) (hf : ∀ d, r = .ok d → flat d = true) (h : Out mg W σ H S F m r Q) : Out mg W σ H S F m' r Q := by
  cases r with
  | ok d =>
    intro v H' s q
    have hd := hf d rfl
    rw [q.flat_inv hd]
    exact h _ H' s (.flat_mk d hd hm)
  | exc e => exact h
  | stuck => exact h
theorem Md.res_ne (m : Md) : m.res ≠ .fr := by cases m <;> exact fun h => nomatch h
theorem de_flat {e : Expr} {f : ER} (hf : ∀ δ d, f δ = .ok d → flat d = true) (h : DE X W m.res e f) : DE X W .sh e f :=
  pe_weaken h fun σ H Q ⟨H0, S, M, δ, F, E, q⟩ => ⟨H0, S, M, δ, F, E, Out.flats (m := .sh) (fun h => nomatch h) (fun d e => hf δ d e) q⟩
theorem flats_op2 (h : Flats g) : ∀ δ d, dOp2 g fa fb δ = .ok d → flat d = true := fun δ d e => by
  unfold dOp2 at e
  cases h1 : fa δ with
  | ok x =>
    rw [h1] at e
    cases h2 : fb δ with
    | ok y => rw [h2] at e; exact h _ _ _ e
    | exc _ => rw [h2] at e; cases e
    | stuck => rw [h2] at e; cases e
  | exc _ => rw [h1] at e; cases e
  | stuck => rw [h1] at e; cases e

/-! tests -/
abbrev TR := Env → Res Bool
def OutT (mg : Str → Option Value) (W : WX) (σ : St) (H : Hp) (S : Addr → Prop) (F : Nat → List Addr) (r : Res Bool) (Q : Bool → Hp → Prop) : Prop := match r with
  | .ok d => ∀ H', Same H H' → Q d H'
  | .exc e => ∀ cls dx H', Same H H' → ExcAt mg S H' e cls dx → W cls dx σ H'
  | .stuck => False
def tT (mg : Str → Option Value) (W : WX) (f : TR) : TT := fun σ H Q => ∃ H0 S M δ F, EOk H0 S M σ H δ F ∧ OutT mg W σ H S F (f δ) Q
def DT (X : Cx) (W : WX) (e : Expr) (f : TR) : Prop := PT X e (tT X.mg W f)
def DW (X : Cx) (W : WX) (e : Expr) (f : TR) : Prop := PW X e (tT X.mg W f)
theorem pt_weaken {e : Expr} {t t' : TT} (h : PT X e t) (hw : ∀ σ H Q, t' σ H Q → t σ H Q) : PT X e t' := ⟨fun pins s σ H Q I q => h.run pins s σ H Q I (hw σ H Q q)⟩
theorem pw_weaken {e : Expr} {t t' : TT} (h : PW X e t) (hw : ∀ σ H Q, t' σ H Q → t σ H Q) : PW X e t' := ⟨fun wh pins s σ H Q I q => h.run wh pins s σ H Q I (hw σ H Q q)⟩
theorem OutT.mono {mg : Str → Option Value} {H1 : Hp} {r : Res Bool} {Q : Bool → Hp → Prop} (s : Same H H1) (h : OutT mg W σ H S F r Q) : OutT mg W σ H1 S F r Q := by
  cases r with
  | ok d => exact fun H' s' => h H' (s.trans s')
  | exc e => exact fun cls dx H' s' q => h cls dx H' (s.trans s') q
  | stuck => exact h
def toB (d : D) : Res Bool := match d with
  | .bl b => .ok b
  | _ => .stuck
def dTst (f : ER) : TR := fun δ => (f δ).bind toB
theorem Out.ofT {mg : Str → Option Value} {r : Res D} {Q : Bool → Hp → Prop} {P : VK} (h : OutT mg W σ H S F (r.bind toB) Q)
    (hp : ∀ k H1, r = .ok (.bl k) → Q k H1 → P (.bl k) H1) : Out mg W σ H S F m r P := by
  cases r with
  | ok d =>
    intro v H1 s q
    cases d <;> try exact h.elim
    rename_i k
    have e : v = .bl k := q.flat_inv rfl
    subst e
    exact hp k H1 rfl (h H1 s)
  | exc e => exact h
  | stuck => exact h
theorem dt_val {e : Expr} {f : ER} (h : DE X W m e f) (he : ∀ whole, isTrue e X.env whole = (do let v ← whole; standAt e.pos; holding [v] (truthy v)) := by intro _; rfl) : DT X W e (dTst f) :=
  pt_weaken (pt_val h he) fun σ H Q ⟨H0, S, M, δ, F, E, q⟩ => ⟨H0, S, M, δ, F, E, Out.ofT q fun k H1 _ q => ⟨k, rfl, q⟩⟩
theorem dt_cmp2 {op : CmpOp} (ho : OpR X (compareOp op) r) (hr : R2D r g) (hx : NoExc g) (ha : DE X W m a fa) (hb : DE X W m b fb) (hm : behindInMarks op b = false) : DT X W (.Compare a [op] [b] pos) (dTst (dOp2 g fa fb)) :=
  pt_weaken (pt_cmpR ho ha hb hm) fun σ H Q ⟨H0, S, M, δ, F, E, q⟩ => tOp_ok hr hx E (Out.ofT (P := fun x H' => ∃ k, x = .bl k ∧ Q k H') q fun k H1 _ q => ⟨k, rfl, q⟩) fun _ _ h => h
def dAndT (f g : TR) : TR := fun δ => (f δ).bind fun b => if b = true then g δ else .ok false
def dOrT (f g : TR) : TR := fun δ => (f δ).bind fun b => if b = true then .ok true else g δ
def dNotT (f : TR) : TR := fun δ => (f δ).bind fun b => .ok (!b)
theorem OutT.bind {mg : Str → Option Value} {r : Res Bool} {k : Bool → Res Bool} {Q P : Bool → Hp → Prop} (h : OutT mg W σ H S F (r.bind k) Q)
    (hp : ∀ d H1, r = .ok d → Same H H1 → OutT mg W σ H1 S F (k d) Q → P d H1) : OutT mg W σ H S F r P := by
  cases r with
  | ok d => exact fun H1 s => hp d H1 rfl s (OutT.mono s h)
  | exc e => exact h
  | stuck => exact h
variable {c : Expr} {rest : List Expr} {tf tg : TR}
theorem dw_and1 (ha : DT X W a tf) : DW X W (.BoolOp .And [a] pos) tf := pw_and1 ha
theorem dw_or1 (ha : DT X W a tf) : DW X W (.BoolOp .Or [a] pos) tf := pw_or1 ha
theorem dw_and (ha : DT X W a tf) (hb : DW X W (.BoolOp .And (b :: rest) pos) tg) : DW X W (.BoolOp .And (a :: b :: rest) pos) (dAndT tf tg) :=
  pw_weaken (pw_and ha hb) fun σ H Q ⟨H0, S, M, δ, F, E, q⟩ => ⟨H0, S, M, δ, F, E, OutT.bind q fun d H1 _ s o => by
    cases d with
    | true => exact ⟨H0, S, M, δ, F, E.grow s, o⟩
    | false => exact o H1 (Same.refl _)⟩
theorem dw_or (ha : DT X W a tf) (hb : DW X W (.BoolOp .Or (b :: rest) pos) tg) : DW X W (.BoolOp .Or (a :: b :: rest) pos) (dOrT tf tg) :=
  pw_weaken (pw_or ha hb) fun σ H Q ⟨H0, S, M, δ, F, E, q⟩ => ⟨H0, S, M, δ, F, E, OutT.bind q fun d H1 _ s o => by
    cases d with
    | false => exact ⟨H0, S, M, δ, F, E.grow s, o⟩
    | true => exact o H1 (Same.refl _)⟩
theorem dw_dt {e : Expr} (h : DW X W e tf) : DT X W e tf := PW.pt h
theorem dt_not (ha : DT X W a tf) : DT X W (.UnaryOp .Not a pos) (dNotT tf) :=
  pt_weaken (pt_not ha) fun σ H Q ⟨H0, S, M, δ, F, E, q⟩ => ⟨H0, S, M, δ, F, E, OutT.bind q fun d H1 _ s o => o H1 (Same.refl _)⟩
/-- as values -/
def dAndV (f : ER) (g : ER) : ER := fun δ => (f δ).bind fun d => (toB d).bind fun b => if b = true then g δ else .ok (.bl false)
def dOrV (f : ER) (g : ER) : ER := fun δ => (f δ).bind fun d => (toB d).bind fun b => if b = true then .ok (.bl true) else g δ
def dNotV (f : ER) : ER := fun δ => (f δ).bind fun d => (toB d).bind fun b => .ok (.bl (!b))
theorem ResOk.bl_inv {d : Bool} {v : V} (r : ResOk S F H H' m (.bl d) v) : v = .bl d := r.flat_inv rfl
theorem ResOk.bl_mk {d : Bool} (hm : m ≠ .fr) : ResOk S F H H' m (.bl d) (.bl d) := .flat_mk (.bl d) rfl hm
theorem de_one {op} {f : ER} (h : DE X W m a f) : DE X W m (.BoolOp op [a] pos) f := pe_one h
theorem de_and (hm : m ≠ .fr := by intro h; cases h) (ha : DE X W m a fa) (hb : DE X W m (.BoolOp .And (b :: rest) pos) fb) : DE X W m (.BoolOp .And (a :: b :: rest) pos) (dAndV fa fb) :=
  pe_weaken (pe_and ha hb) fun σ H Q ⟨H0, S, M, δ, F, E, q⟩ => ⟨H0, S, M, δ, F, E, Out.bind q fun d v H1 hh s r o => by
    clear hh
    cases d <;> try exact o.elim
    rename_i k
    have e := r.bl_inv
    subst e
    refine ⟨k, rfl, ?_⟩
    cases k with
    | true => exact ⟨H0, S, M, δ, F, E.grow s, o⟩
    | false => exact o _ H1 (Same.refl _) (.bl_mk hm)⟩
theorem de_or (hm : m ≠ .fr := by intro h; cases h) (ha : DE X W m a fa) (hb : DE X W m (.BoolOp .Or (b :: rest) pos) fb) : DE X W m (.BoolOp .Or (a :: b :: rest) pos) (dOrV fa fb) :=
  pe_weaken (pe_or ha hb) fun σ H Q ⟨H0, S, M, δ, F, E, q⟩ => ⟨H0, S, M, δ, F, E, Out.bind q fun d v H1 hh s r o => by
    clear hh
    cases d <;> try exact o.elim
    rename_i k
    have e := r.bl_inv
    subst e
    refine ⟨k, rfl, ?_⟩
    cases k with
    | false => exact ⟨H0, S, M, δ, F, E.grow s, o⟩
    | true => exact o _ H1 (Same.refl _) (.bl_mk hm)⟩
theorem de_not (hm : m ≠ .fr := by intro h; cases h) (ha : DE X W m a fa) : DE X W m (.UnaryOp .Not a pos) (dNotV fa) :=
  pe_weaken (pe_not ha) fun σ H Q ⟨H0, S, M, δ, F, E, q⟩ => ⟨H0, S, M, δ, F, E, Out.bind q fun d v H1 hh s r o => by
    clear hh
    cases d <;> try exact o.elim
    rename_i k
    have e := r.bl_inv
    subst e
    exact ⟨k, rfl, o _ H1 (Same.refl _) (.bl_mk hm)⟩⟩
def dIfE (t : TR) (f g : ER) : ER := fun δ => (t δ).bind fun b => if b = true then f δ else g δ
end
end Dx
end
section
namespace Dx
open PySem L2 PyProof.Rows

/-! == -/
def flatEq : D → D → Bool
  | .non, .non => true
  | .bl a, .bl b => a == b
  | .bl a, .int b => (if a then 1 else 0) == b
  | .int a, .bl b => a == (if b then 1 else 0)
  | .int a, .int b => a == b
  | .str a, .str b => a == b
  | _, _ => false
def eqAll (f : D → D → Option Bool) : List D → List D → Option Bool
  | x :: xs, y :: ys => (f x y).bind fun a => (eqAll f xs ys).bind fun b => some (a && b)
  | _, _ => some true
def lookK {κ : Type} [DecidableEq κ] (ys : List (κ × D)) (k : κ) : Option D := (ys.find? fun p => decide (p.1 = k)).map (·.2)
def eqKs {κ : Type} [DecidableEq κ] (f : D → D → Option Bool) (ys : List (κ × D)) : List (κ × D) → Option Bool
  | [] => some true
  | (k, d) :: r => (match lookK ys k with | none => some false | some e => f d e).bind fun a => (eqKs f ys r).bind fun b => some (a && b)
def eqD : Nat → D → D → Option Bool
  | 0, d, e => if flat d && flat e then some (flatEq d e) else none
  | n + 1, .lst xs, .lst ys => if xs.length = ys.length then eqAll (eqD n) xs ys else some false
  | n + 1, .tup xs, .tup ys => (eqAll (eqD n) xs ys).map fun b => b && xs.length == ys.length
  | n + 1, .dic xs, .dic ys => (eqKs (eqD n) ys xs).map fun b => xs.length == ys.length && b
  | _ + 1, d, e => if flat d && flat e then some (flatEq d e) else none

theorem eqD_flat {n : Nat} {d e : D} (hd : flat d = true) (he : flat e = true) : eqD n d e = some (flatEq d e) := by
  cases n with
  | zero => simp [eqD, hd, he]
  | succ n => cases d <;> cases e <;> first | (cases hd; done) | (cases he; done) | rfl

theorem Rd.lst_inj {H : Hp} {a : Addr} {u w : HO} (h : Rd H a u) (k : Rd H a w) : u = w ∨ (∃ o, u = .frz o w) ∨ ∃ o, w = .frz o u := by
  rcases h with h | ⟨o, h⟩ <;> rcases k with k | ⟨o', k⟩ <;> rw [h] at k <;> injection k with k
  · exact .inl k
  · exact .inr (.inl ⟨o', k⟩)
  · exact .inr (.inr ⟨o, k.symm⟩)
  · injection k with _ k; exact .inl k
mutual
theorem Rep.inj {H : Hp} : ∀ (d e : D) (v : V), Rep H d v → Rep H e v → d = e
  | .non, e, v, h, k => by
    rw [Rep] at h; subst h
    cases e <;> rw [Rep] at k <;> first | rfl | (cases k; done) | (obtain ⟨_, _, z, _⟩ := k; cases z)
  | .bl b, e, v, h, k => by
    rw [Rep] at h; subst h
    cases e <;> rw [Rep] at k <;> first | (cases k; done) | (cases k; rfl) | (obtain ⟨_, _, z, _⟩ := k; cases z)
  | .int b, e, v, h, k => by
    rw [Rep] at h; subst h
    cases e <;> rw [Rep] at k <;> first | (cases k; done) | (cases k; rfl) | (obtain ⟨_, _, z, _⟩ := k; cases z)
  | .str b, e, v, h, k => by
    rw [Rep] at h; subst h
    cases e <;> rw [Rep] at k <;> first | (cases k; done) | (cases k; rfl) | (obtain ⟨_, _, z, _⟩ := k; cases z)
  | .lst ds, e, v, h, k => by
    obtain ⟨a, vs, rfl, r, q⟩ := Rep.lst_iff.mp h
    cases e <;> rw [Rep] at k <;> first | (cases k; done) | skip
    · obtain ⟨b, ws, z, r2, q2⟩ := k
      cases z
      rcases Rd.lst_inj r r2 with z | ⟨_, z⟩ | ⟨_, z⟩ <;> first | (cases z; done) | skip
      cases z
      rw [Reps.inj ds _ vs q q2]
    · obtain ⟨b, ws, z, r2, q2⟩ := k
      cases z
      rcases r with r | ⟨o, r⟩ <;> (rw [r] at r2; cases r2)
    · obtain ⟨b, ws, z, r2, q2⟩ := k
      cases z
      rcases Rd.lst_inj r r2 with z | ⟨_, z⟩ | ⟨_, z⟩ <;> cases z
    · obtain ⟨b, ws, z, r2, q2⟩ := k
      cases z
      rcases Rd.lst_inj r r2 with z | ⟨_, z⟩ | ⟨_, z⟩ <;> cases z
  | .tup ds, e, v, h, k => by
    obtain ⟨a, vs, rfl, r, q⟩ := Rep.tup_iff.mp h
    cases e <;> rw [Rep] at k <;> first | (cases k; done) | skip
    · obtain ⟨b, ws, z, r2, q2⟩ := k
      cases z
      rcases r2 with r2 | ⟨o, r2⟩ <;> (rw [r] at r2; cases r2)
    · obtain ⟨b, ws, z, r2, q2⟩ := k
      cases z
      rw [r] at r2; cases r2
      rw [Reps.inj ds _ vs q q2]
    · obtain ⟨b, ws, z, r2, q2⟩ := k
      cases z
      rcases r2 with r2 | ⟨o, r2⟩ <;> (rw [r] at r2; cases r2)
    · obtain ⟨b, ws, z, r2, q2⟩ := k
      cases z
      rcases r2 with r2 | ⟨o, r2⟩ <;> (rw [r] at r2; cases r2)
  | .dic ds, e, v, h, k => by
    obtain ⟨a, vs, rfl, r, q⟩ := Rep.dic_iff.mp h
    cases e <;> rw [Rep] at k <;> first | (cases k; done) | skip
    · obtain ⟨b, ws, z, r2, q2⟩ := k
      cases z
      rcases Rd.lst_inj r r2 with z | ⟨_, z⟩ | ⟨_, z⟩ <;> cases z
    · obtain ⟨b, ws, z, r2, q2⟩ := k
      cases z
      rcases r with r | ⟨o, r⟩ <;> (rw [r] at r2; cases r2)
    · obtain ⟨b, ws, z, r2, q2⟩ := k
      cases z
      rcases Rd.lst_inj r r2 with z | ⟨_, z⟩ | ⟨_, z⟩ <;> first | (cases z; done) | skip
      cases z
      rw [RepK.inj ds _ vs q q2]
    · obtain ⟨b, ws, z, r2, q2⟩ := k
      cases z
      rcases Rd.lst_inj r r2 with z | ⟨_, z⟩ | ⟨_, z⟩ <;> cases z
  | .dct ds, e, v, h, k => by
    obtain ⟨a, vs, rfl, r, q⟩ := Rep.dct_iff.mp h
    cases e <;> rw [Rep] at k <;> first | (cases k; done) | skip
    · obtain ⟨b, ws, z, r2, q2⟩ := k
      cases z
      rcases Rd.lst_inj r r2 with z | ⟨_, z⟩ | ⟨_, z⟩ <;> cases z
    · obtain ⟨b, ws, z, r2, q2⟩ := k
      cases z
      rcases r with r | ⟨o, r⟩ <;> (rw [r] at r2; cases r2)
    · obtain ⟨b, ws, z, r2, q2⟩ := k
      cases z
      rcases Rd.lst_inj r r2 with z | ⟨_, z⟩ | ⟨_, z⟩ <;> cases z
    · obtain ⟨b, ws, z, r2, q2⟩ := k
      cases z
      rcases Rd.lst_inj r r2 with z | ⟨_, z⟩ | ⟨_, z⟩ <;> first | (cases z; done) | skip
      cases z
      rw [RepT.inj ds _ vs q q2]
theorem Reps.inj {H : Hp} : ∀ (ds es : List D) (vs : List V), Reps H ds vs → Reps H es vs → ds = es
  | [], es, vs, h, k => by
    rw [Reps] at h; subst h
    cases es with
    | nil => rfl
    | cons e es => rw [Reps] at k; obtain ⟨_, _, z, _⟩ := k; cases z
  | d :: ds, es, vs, h, k => by
    rw [Reps] at h
    obtain ⟨v, r, rfl, p, q⟩ := h
    cases es with
    | nil => rw [Reps] at k; cases k
    | cons e es =>
      rw [Reps] at k
      obtain ⟨v', r', z, p', q'⟩ := k
      cases z
      rw [Rep.inj d e v p p', Reps.inj ds es r q q']
theorem RepK.inj {H : Hp} : ∀ (ds es : List (Key × D)) (vs : List (Key × V)), RepK H ds vs → RepK H es vs → ds = es
  | [], es, vs, h, k => by
    rw [RepK] at h; subst h
    cases es with
    | nil => rfl
    | cons e es => obtain ⟨k1, e⟩ := e; rw [RepK] at k; obtain ⟨_, _, z, _⟩ := k; cases z
  | (k0, d) :: ds, es, vs, h, k => by
    rw [RepK] at h
    obtain ⟨v, r, rfl, p, q⟩ := h
    cases es with
    | nil => rw [RepK] at k; cases k
    | cons e es =>
      obtain ⟨k1, e⟩ := e
      rw [RepK] at k
      obtain ⟨v', r', z, p', q'⟩ := k
      cases z
      rw [Rep.inj d e v p p', RepK.inj ds es r q q']
theorem RepT.inj {H : Hp} : ∀ (ds es : List (List Key × D)) (vs : List (List Key × V)), RepT H ds vs → RepT H es vs → ds = es
  | [], es, vs, h, k => by
    rw [RepT] at h; subst h
    cases es with
    | nil => rfl
    | cons e es => obtain ⟨k1, e⟩ := e; rw [RepT] at k; obtain ⟨_, _, z, _⟩ := k; cases z
  | (k0, d) :: ds, es, vs, h, k => by
    rw [RepT] at h
    obtain ⟨v, r, rfl, p, q⟩ := h
    cases es with
    | nil => rw [RepT] at k; cases k
    | cons e es =>
      obtain ⟨k1, e⟩ := e
      rw [RepT] at k
      obtain ⟨v', r', z, p', q'⟩ := k
      cases z
      rw [Rep.inj d e v p p', RepT.inj ds es r q q']
end
theorem flatEq_refl {d : D} (h : flat d = true) : flatEq d d = true := by cases d <;> first | (cases h; done) | simp [flatEq]
theorem eqAll_refl {f : D → D → Option Bool} (hf : ∀ d b, f d d = some b → b = true) : ∀ (xs : List D) (b : Bool), eqAll f xs xs = some b → b = true
  | [], b, h => by simp [eqAll] at h; exact h
  | x :: xs, b, h => by
    simp only [eqAll] at h
    cases h1 : f x x with
    | none => rw [h1] at h; cases h
    | some a =>
      rw [h1] at h
      cases h2 : eqAll f xs xs with
      | none => rw [h2] at h; cases h
      | some c =>
        rw [h2] at h
        cases h
        rw [hf x a h1, eqAll_refl hf xs c h2]; rfl

/-- == without dicts -/
def eqN : Nat → D → D → Option Bool
  | n + 1, .lst xs, .lst ys => if xs.length = ys.length then eqAll (eqN n) xs ys else some false
  | n + 1, .tup xs, .tup ys => (eqAll (eqN n) xs ys).map fun b => b && xs.length == ys.length
  | _, d, e => if flat d && flat e then some (flatEq d e) else none
theorem eqN_flat {n : Nat} {d e : D} (hd : flat d = true) (he : flat e = true) : eqN n d e = some (flatEq d e) := by
  cases n <;> cases d <;> cases e <;> first | (cases hd; done) | (cases he; done) | rfl
theorem eqN_refl : ∀ (n : Nat) (d : D) (b : Bool), eqN n d d = some b → b = true
  | 0, d, b, h => by
    cases hd : flat d with
    | true => rw [eqN_flat hd hd, flatEq_refl hd] at h; cases h; rfl
    | false => cases d <;> first | (cases hd; done) | (simp [eqN, flat] at h)
  | n + 1, d, b, h => by
    cases d with
    | lst xs => simp only [eqN, if_true] at h; exact eqAll_refl (eqN_refl n) xs b h
    | tup xs =>
      simp only [eqN, Option.map_eq_some_iff] at h
      obtain ⟨c, h, e⟩ := h
      rw [eqAll_refl (eqN_refl n) xs c h] at e
      simpa using e.symm
    | dic xs => simp [eqN, flat] at h
    | dct xs => simp [eqN, flat] at h
    | non => rw [eqN_flat rfl rfl, flatEq_refl rfl] at h; cases h; rfl
    | bl c => rw [eqN_flat rfl rfl, flatEq_refl rfl] at h; cases h; rfl
    | int c => rw [eqN_flat rfl rfl, flatEq_refl rfl] at h; cases h; rfl
    | str c => rw [eqN_flat rfl rfl, flatEq_refl rfl] at h; cases h; rfl
theorem eqAll_len {f : D → D → Option Bool} : ∀ {xs ys : List D} {b : Bool}, eqAll f xs ys = some b → ∀ (j : Nat) (x y : D), xs[j]? = some x → ys[j]? = some y → ∃ c, f x y = some c
  | [], ys, b, h, j, x, y, hx, hy => by simp at hx
  | x0 :: xs, [], b, h, j, x, y, hx, hy => by simp at hy
  | x0 :: xs, y0 :: ys, b, h, j, x, y, hx, hy => by
    simp only [eqAll, Option.bind_eq_some_iff] at h
    obtain ⟨a, h1, c, h2, _⟩ := h
    cases j with
    | zero => simp at hx hy; subst hx; subst hy; exact ⟨a, h1⟩
    | succ j => exact eqAll_len h2 j x y (by simpa using hx) (by simpa using hy)
theorem eqAll_val {f : D → D → Option Bool} {e : Nat → Bool} : ∀ {xs ys : List D} {b : Bool} (k : Nat), eqAll f xs ys = some b → (∀ (j : Nat) (x y : D), xs[j]? = some x → ys[j]? = some y → f x y = some (e (k + j))) →
    ((List.range' k (min xs.length ys.length)).all e) = b
  | [], ys, b, k, h, he => by simp [eqAll] at h; subst h; simp
  | x0 :: xs, [], b, k, h, he => by simp [eqAll] at h; subst h; simp
  | x0 :: xs, y0 :: ys, b, k, h, he => by
    simp only [eqAll, Option.bind_eq_some_iff] at h
    obtain ⟨a, h1, c, h2, h3⟩ := h
    cases h3
    have e0 := he 0 x0 y0 rfl rfl
    rw [h1] at e0
    have ih := eqAll_val (e := e) (k + 1) h2 fun j x y hx hy => by
      have := he (j + 1) x y (by simpa using hx) (by simpa using hy)
      rw [this]; congr 2; omega
    have em : min (x0 :: xs).length (y0 :: ys).length = min xs.length ys.length + 1 := by simp only [List.length_cons]; omega
    rw [em, List.range'_succ, List.all_cons, ih]
    injection e0 with e0
    rw [e0]
    rfl
section
variable {X : Cx} {pins : List (Addr × Obj)} {σ : L2.St} {H : Hp} {s : Shared}
theorem flat_flatV {d : D} (h : flat d = true) : flatV (fval d) = true := by cases d <;> first | (cases h; done) | rfl
theorem eqV_flatEq {d e : D} (hd : flat d = true) (he : flat e = true) : eqV (fval d) (fval e) = flatEq d e := by
  cases d <;> cases e <;> first | (cases hd; done) | (cases he; done) | rfl
theorem vget {vs : List V} {its : List Value} (r : Vals vs its) {j : Nat} {u : Value} (h : its[j]? = some u) : ∃ v, vs[j]? = some v ∧ RelV v u := by
  have hl := r.length
  have hj : j < its.length := (List.getElem?_eq_some_iff.mp h).1
  have hv : vs[j]? = some vs[j] := List.getElem?_eq_getElem (by omega)
  obtain ⟨u', h', r'⟩ := r.get hv
  rw [h] at h'; cases h'
  exact ⟨_, hv, r'⟩
theorem eqAtD (I : Inv X pins σ H s) : ∀ (n : Nat) (d e : D) (x y : V) (u v : Value) (b : Bool) (A : Around), eqN n d e = some b → A.units + n < cLine → Rep H d x → Rep H e y → RelV x u → RelV y v → SeqAt.EqAt A s u v b := by
  intro n
  induction n with
  | zero =>
    intro d e x y u v b A h hu rd re rx ry
    by_cases hf : flat d = true ∧ flat e = true
    · rw [eqN_flat hf.1 hf.2] at h; cases h
      rw [rd.flat_inv hf.1] at rx; rw [re.flat_inv hf.2] at ry
      rw [← eqV_flatEq hf.1 hf.2]
      exact eqAt_V rx ry (flat_flatV hf.1) (flat_flatV hf.2)
    · exfalso
      have : (flat d && flat e) = false := by
        cases h1 : flat d <;> cases h2 : flat e <;> simp_all
      have h' : (if flat d && flat e then some (flatEq d e) else none) = some b := by cases d <;> exact h
      rw [this] at h'; cases h'
  | succ n ih =>
    intro d e x y u v b A h hu rd re rx ry
    by_cases hf : flat d = true ∧ flat e = true
    · rw [eqN_flat hf.1 hf.2] at h; cases h
      rw [rd.flat_inv hf.1] at rx; rw [re.flat_inv hf.2] at ry
      rw [← eqV_flatEq hf.1 hf.2]
      exact eqAt_V rx ry (flat_flatV hf.1) (flat_flatV hf.2)
    · cases d <;> cases e <;> first | (exact absurd ⟨rfl, rfl⟩ hf) | (have h' : (none : Option Bool) = some b := h; cases h'; done) | skip
      · rename_i xs ys
        obtain ⟨a, vs, rfl, r1, q1⟩ := Rep.lst_iff.mp rd
        obtain ⟨a', ws, rfl, r2, q2⟩ := Rep.lst_iff.mp re
        cases rx; cases ry
        by_cases ha : a = a'
        · subst ha
          have := Rep.inj _ _ _ rd re
          cases this
          rw [eqN_refl _ _ _ h]
          exact SeqAt.EqAt.same _
        · obtain ⟨its, rv, pl, _⟩ := I.list (.inl r1)
          obtain ⟨its2, rv2, pl2, _⟩ := I.list (.inl r2)
          have l1 := q1.length; have l2 := q2.length; have l3 := rv.length; have l4 := rv2.length
          refine SeqAt.EqAt.of_refs ha ?_
          simp only [eqN] at h
          split at h
          · rename_i hl
            have key : ∀ j : Nat, ∃ c, ∀ x y, xs[j]? = some x → ys[j]? = some y → eqN n x y = some c := fun j => by
              cases hx : xs[j]? with
              | none => exact ⟨true, fun _ _ z => nomatch z⟩
              | some x =>
                cases hy : ys[j]? with
                | none => exact ⟨true, fun _ _ _ z => nomatch z⟩
                | some y =>
                  obtain ⟨c, hc⟩ := eqAll_len h j x y hx hy
                  exact ⟨c, fun x' y' e1 e2 => by cases e1; cases e2; exact hc⟩
            obtain ⟨E, hE⟩ := Classical.axiomOfChoice key
            have hb := eqAll_val (e := E) 0 h fun j x y hx hy => by rw [Nat.zero_add]; exact hE j x y hx hy
            rw [← hl, Nat.min_self, ← List.range_eq_range', l1, l3, show its.length = its.toArray.size by simp] at hb
            rw [← hb]
            refine SeqAt.RcAt.lists pl.isList pl2.isList (by simp; omega) (by omega) fun j h1 h2 => ?_
            have h1' : j < its.length := by simpa using h1
            have h2' : j < its2.length := by simpa using h2
            obtain ⟨v1, hv1, r1⟩ := vget rv (List.getElem?_eq_getElem h1')
            obtain ⟨v2, hv2, r2⟩ := vget rv2 (List.getElem?_eq_getElem h2')
            obtain ⟨d1, hd1, p1⟩ := q1.getV hv1
            obtain ⟨d2, hd2, p2⟩ := q2.getV hv2
            exact ih d1 d2 v1 v2 _ _ _ A.in1 (hE j d1 d2 hd1 hd2) (by show A.units + 1 + n < cLine; omega) p1 p2 (by simpa using r1) (by simpa using r2)
          · rename_i hl
            cases h
            exact SeqAt.RcAt.lists_lengths pl.isList pl2.isList (by simp; omega) (by omega)
      · rename_i xs ys
        obtain ⟨a, vs, rfl, r1, q1⟩ := Rep.tup_iff.mp rd
        obtain ⟨a', ws, rfl, r2, q2⟩ := Rep.tup_iff.mp re
        cases rx; cases ry
        by_cases ha : a = a'
        · subst ha
          have := Rep.inj _ _ _ rd re
          cases this
          rw [eqN_refl _ _ _ h]
          exact SeqAt.EqAt.same _
        · obtain ⟨its, rv, pl, _⟩ := I.tuple (.of r1)
          obtain ⟨its2, rv2, pl2, _⟩ := I.tuple (.of r2)
          have l1 := q1.length; have l2 := q2.length; have l3 := rv.length; have l4 := rv2.length
          refine SeqAt.EqAt.of_refs ha ?_
          simp only [eqN, Option.map_eq_some_iff] at h
          obtain ⟨c0, h, hb0⟩ := h
          have key : ∀ j : Nat, ∃ c, ∀ x y, xs[j]? = some x → ys[j]? = some y → eqN n x y = some c := fun j => by
              cases hx : xs[j]? with
              | none => exact ⟨true, fun _ _ z => nomatch z⟩
              | some x =>
                cases hy : ys[j]? with
                | none => exact ⟨true, fun _ _ _ z => nomatch z⟩
                | some y =>
                  obtain ⟨c, hc⟩ := eqAll_len h j x y hx hy
                  exact ⟨c, fun x' y' e1 e2 => by cases e1; cases e2; exact hc⟩
          obtain ⟨E, hE⟩ := Classical.axiomOfChoice key
          have hb := eqAll_val (e := E) 0 h fun j x y hx hy => by rw [Nat.zero_add]; exact hE j x y hx hy
          have eb : b = ((List.range (min its.toArray.size its2.toArray.size)).all E && its.toArray.size == its2.toArray.size) := by
            rw [← hb0, ← hb, ← List.range_eq_range']
            simp only [List.size_toArray, ← l3, ← l4, ← l1, ← l2]
          rw [eb]
          refine SeqAt.RcAt.tuples pl pl2 (by omega) fun j h1 h2 => ?_
          have h1' : j < its.length := by simpa using h1
          have h2' : j < its2.length := by simpa using h2
          obtain ⟨v1, hv1, r1⟩ := vget rv (List.getElem?_eq_getElem h1')
          obtain ⟨v2, hv2, r2⟩ := vget rv2 (List.getElem?_eq_getElem h2')
          obtain ⟨d1, hd1, p1⟩ := q1.getV hv1
          obtain ⟨d2, hd2, p2⟩ := q2.getV hv2
          exact ih d1 d2 v1 v2 _ _ _ A.in1 (hE j d1 d2 hd1 hd2) (by show A.units + 1 + n < cLine; omega) p1 p2 (by simpa using r1) (by simpa using r2)

/-! == with dicts -/
theorem lookK_cons {κ : Type} [DecidableEq κ] (k0 : κ) (d : D) (r : List (κ × D)) (k : κ) : lookK ((k0, d) :: r) k = if k0 = k then some d else lookK r k := by
  unfold lookK
  rw [List.find?_cons]
  by_cases h : k0 = k
  · simp [h]
  · simp [h]
theorem RepK.look {H : Hp} : ∀ {xs : List (Key × D)} {ws : List (Key × V)} (k : Key), RepK H xs ws → (lookK xs k = none ∧ valV ws k = none) ∨ ∃ d v, lookK xs k = some d ∧ valV ws k = some v ∧ Rep H d v
  | [], ws, k, h => by rw [RepK] at h; subst h; exact .inl ⟨rfl, rfl⟩
  | (k0, d) :: r, ws, k, h => by
    rw [RepK] at h
    obtain ⟨v, r', rfl, p, q⟩ := h
    by_cases e : k0 = k
    · subst e
      exact .inr ⟨d, v, by rw [lookK_cons, if_pos rfl], valV_pos rfl, p⟩
    · rw [lookK_cons, if_neg e, valV_neg (by exact e)]
      exact RepK.look k q
theorem RepK.keys {H : Hp} : ∀ {xs : List (Key × D)} {ws : List (Key × V)}, RepK H xs ws → xs.map (·.1) = ws.map (·.1)
  | [], ws, h => by rw [RepK] at h; subst h; rfl
  | (k0, d) :: r, ws, h => by
    rw [RepK] at h
    obtain ⟨v, r', rfl, p, q⟩ := h
    simp [RepK.keys q]
theorem RepK.length {H : Hp} {xs : List (Key × D)} {ws : List (Key × V)} (h : RepK H xs ws) : xs.length = ws.length := by
  have := congrArg List.length h.keys
  simpa using this
theorem valueAt_mem {κ : Type} [DecidableEq κ] : ∀ {ka : List (κ × Value)} {k : κ} {v : Value}, (ka.map (·.1)).Nodup → (k, v) ∈ ka → valueAt ka k = some v
  | [], k, v, n, h => by cases h
  | (k0, v0) :: r, k, v, n, h => by
    simp only [List.map_cons, List.nodup_cons] at n
    unfold valueAt
    rw [List.find?_cons]
    rcases List.mem_cons.mp h with h | h
    · cases h; simp
    · have : ¬ k0 = k := fun e => n.1 (by rw [e]; exact List.mem_map_of_mem (f := (·.1)) h)
      simp only [this, decide_false]
      exact valueAt_mem n.2 h
theorem eqKs_def {κ : Type} [DecidableEq κ] {f : D → D → Option Bool} {ys : List (κ × D)} : ∀ {xs : List (κ × D)} {b : Bool}, eqKs f ys xs = some b → ∀ k d e, (k, d) ∈ xs → lookK ys k = some e → ∃ c, f d e = some c
  | [], b, h, k, d, e, hm, he => by cases hm
  | (k0, d0) :: r, b, h, k, d, e, hm, he => by
    simp only [eqKs, Option.bind_eq_some_iff] at h
    obtain ⟨a, h1, c, h2, _⟩ := h
    rcases List.mem_cons.mp hm with hm | hm
    · cases hm; rw [he] at h1; exact ⟨a, h1⟩
    · exact eqKs_def h2 k d e hm he
theorem eqKs_val {f : D → D → Option Bool} {ys : List (Key × D)} {kb : List (Key × Value)} {e : Key → Bool} (hb : ∀ k, (valueAt kb k).isSome = (lookK ys k).isSome) :
    ∀ {xs : List (Key × D)} {ka : List (Key × Value)} {b : Bool}, xs.map (·.1) = ka.map (·.1) → eqKs f ys xs = some b → (∀ k d d', (k, d) ∈ xs → lookK ys k = some d' → f d d' = some (e k)) →
      (ka.all fun p => (valueAt kb p.1).isSome && e p.1) = b
  | [], ka, b, hk, h, he => by
    have : ka = [] := by simpa using hk.symm
    subst this
    simp [eqKs] at h; subst h; rfl
  | (k0, d0) :: r, [], b, hk, h, he => by simp at hk
  | (k0, d0) :: r, (k1, v1) :: ka, b, hk, h, he => by
    simp only [List.map_cons, List.cons.injEq] at hk
    obtain ⟨rfl, hk⟩ := hk
    simp only [eqKs, Option.bind_eq_some_iff] at h
    obtain ⟨a, h1, c, h2, h3⟩ := h
    cases h3
    rw [List.all_cons, eqKs_val hb hk h2 fun k d d' hm => he k d d' (List.mem_cons_of_mem _ hm), hb k0]
    cases hl : lookK ys k0 with
    | none => rw [hl] at h1; cases h1; rfl
    | some d' =>
      rw [hl] at h1
      have h1 : f d0 d' = some a := h1
      rw [he k0 d0 d' List.mem_cons_self hl] at h1
      cases h1
      rfl
theorem eqKs_refl {κ : Type} [DecidableEq κ] {f : D → D → Option Bool} (hf : ∀ d b, f d d = some b → b = true) {ys : List (κ × D)} : ∀ {xs : List (κ × D)} {b : Bool}, (∀ k d, (k, d) ∈ xs → lookK ys k = some d) → eqKs f ys xs = some b → b = true
  | [], b, _, h => by simp [eqKs] at h; exact h
  | (k0, d0) :: r, b, hm, h => by
    simp only [eqKs, Option.bind_eq_some_iff] at h
    obtain ⟨a, h1, c, h2, h3⟩ := h
    cases h3
    rw [hm k0 d0 List.mem_cons_self] at h1
    rw [hf d0 a h1, eqKs_refl hf (fun k d z => hm k d (List.mem_cons_of_mem _ z)) h2]; rfl
theorem lookK_mem {κ : Type} [DecidableEq κ] : ∀ {xs : List (κ × D)} {k : κ} {d : D}, (xs.map (·.1)).Nodup → (k, d) ∈ xs → lookK xs k = some d
  | [], k, d, n, h => by cases h
  | (k0, v0) :: r, k, v, n, h => by
    simp only [List.map_cons, List.nodup_cons] at n
    rw [lookK_cons]
    rcases List.mem_cons.mp h with h | h
    · cases h; rw [if_pos rfl]
    · have : ¬ k0 = k := fun e => n.1 (by rw [e]; exact List.mem_map_of_mem (f := (·.1)) h)
      rw [if_neg this]
      exact lookK_mem n.2 h
/-- the dicts within have each key once -/
inductive NdD : Nat → D → Prop
  | flat {n : Nat} {d : D} : flat d = true → NdD n d
  | lst {n : Nat} {xs : List D} : (∀ x ∈ xs, NdD n x) → NdD (n + 1) (.lst xs)
  | tup {n : Nat} {xs : List D} : (∀ x ∈ xs, NdD n x) → NdD (n + 1) (.tup xs)
  | dic {n : Nat} {xs : List (Key × D)} : (xs.map (·.1)).Nodup → (∀ x ∈ xs, NdD n x.2) → NdD (n + 1) (.dic xs)
theorem eqAll_refl' {f : D → D → Option Bool} : ∀ (xs : List D) (b : Bool), (∀ d ∈ xs, ∀ b, f d d = some b → b = true) → eqAll f xs xs = some b → b = true
  | [], b, _, h => by simp [eqAll] at h; exact h
  | x :: xs, b, hf, h => by
    simp only [eqAll, Option.bind_eq_some_iff] at h
    obtain ⟨a, h1, c, h2, h3⟩ := h
    cases h3
    rw [hf x List.mem_cons_self a h1, eqAll_refl' xs c (fun d hd => hf d (List.mem_cons_of_mem _ hd)) h2]; rfl
theorem eqKs_refl' {f : D → D → Option Bool} {ys : List (Key × D)} : ∀ {xs : List (Key × D)} {b : Bool}, (∀ p ∈ xs, ∀ b, f p.2 p.2 = some b → b = true) → (∀ k d, (k, d) ∈ xs → lookK ys k = some d) → eqKs f ys xs = some b → b = true
  | [], b, _, _, h => by simp [eqKs] at h; exact h
  | (k0, d0) :: r, b, hf, hm, h => by
    simp only [eqKs, Option.bind_eq_some_iff] at h
    obtain ⟨a, h1, c, h2, h3⟩ := h
    cases h3
    rw [hm k0 d0 List.mem_cons_self] at h1
    rw [hf (k0, d0) List.mem_cons_self a h1, eqKs_refl' (fun p z => hf p (List.mem_cons_of_mem _ z)) (fun k d z => hm k d (List.mem_cons_of_mem _ z)) h2]; rfl
/-- what stands in the heap has its keys once -/
theorem keys_nodup (I : Inv X pins σ H s) {a : Addr} {ws : List (Key × V)} (h : Rd H a (.dK ws)) : (ws.map (·.1)).Nodup := by
  obtain ⟨_, _, vs, kv, o, es, ep, _, _, _, _, _, nd⟩ := dk_rd I.hok h
  rw [kv.keys]; exact nd
theorem eqD_refl (I : Inv X pins σ H s) : ∀ (n : Nat) (d : D) (v : V) (b : Bool), Rep H d v → eqD n d d = some b → b = true
  | 0, d, v, b, _, h => by
    cases hd : flat d with
    | true => rw [eqD_flat hd hd, flatEq_refl hd] at h; cases h; rfl
    | false => simp [eqD, hd] at h
  | n + 1, d, v, b, r, h => by
    cases d with
    | lst xs =>
      simp only [eqD, if_true] at h
      obtain ⟨a, vs, rfl, r1, q1⟩ := Rep.lst_iff.mp r
      refine eqAll_refl' xs b (fun d hd b hb => ?_) h
      obtain ⟨j, hj⟩ := List.getElem?_of_mem hd
      obtain ⟨v, _, p⟩ := q1.get hj
      exact eqD_refl I n d v b p hb
    | tup xs =>
      simp only [eqD, Option.map_eq_some_iff] at h
      obtain ⟨c, h, e⟩ := h
      obtain ⟨a, vs, rfl, r1, q1⟩ := Rep.tup_iff.mp r
      rw [eqAll_refl' xs c (fun d hd b hb => by
        obtain ⟨j, hj⟩ := List.getElem?_of_mem hd
        obtain ⟨v, _, p⟩ := q1.get hj
        exact eqD_refl I n d v b p hb) h] at e
      simpa using e.symm
    | dic xs =>
      simp only [eqD, Option.map_eq_some_iff] at h
      obtain ⟨c, h, e⟩ := h
      obtain ⟨a, ws, rfl, r1, q1⟩ := Rep.dic_iff.mp r
      have nd : (xs.map (·.1)).Nodup := by rw [q1.keys]; exact keys_nodup I r1
      have hl : ∀ k d, (k, d) ∈ xs → lookK xs k = some d := fun k d hm => lookK_mem nd hm
      rw [eqKs_refl' (fun p hp b hb => by
        rcases RepK.look p.1 q1 with ⟨z, _⟩ | ⟨d', v', z, _, p'⟩
        · rw [hl p.1 p.2 hp] at z; cases z
        · rw [hl p.1 p.2 hp] at z; cases z
          exact eqD_refl I n p.2 v' b p' hb) hl h] at e
      simpa using e.symm
    | dct xs => simp [eqD, flat] at h
    | non => rw [eqD_flat rfl rfl, flatEq_refl rfl] at h; cases h; rfl
    | bl c => rw [eqD_flat rfl rfl, flatEq_refl rfl] at h; cases h; rfl
    | int c => rw [eqD_flat rfl rfl, flatEq_refl rfl] at h; cases h; rfl
    | str c => rw [eqD_flat rfl rfl, flatEq_refl rfl] at h; cases h; rfl
theorem eq_key {n : Nat} {xs ys : List D} {b : Bool} (h : eqAll (eqD n) xs ys = some b) : ∃ E : Nat → Bool, (∀ j x y, xs[j]? = some x → ys[j]? = some y → eqD n x y = some (E j)) ∧ (List.range (min xs.length ys.length)).all E = b := by
  have key : ∀ j : Nat, ∃ c, ∀ x y, xs[j]? = some x → ys[j]? = some y → eqD n x y = some c := fun j => by
    cases hx : xs[j]? with
    | none => exact ⟨true, fun _ _ z => nomatch z⟩
    | some x =>
      cases hy : ys[j]? with
      | none => exact ⟨true, fun _ _ _ z => nomatch z⟩
      | some y =>
        obtain ⟨c, hc⟩ := eqAll_len h j x y hx hy
        exact ⟨c, fun x' y' e1 e2 => by cases e1; cases e2; exact hc⟩
  obtain ⟨E, hE⟩ := Classical.axiomOfChoice key
  exact ⟨E, hE, by rw [List.range_eq_range']; exact eqAll_val (e := E) 0 h fun j x y hx hy => by rw [Nat.zero_add]; exact hE j x y hx hy⟩
theorem eqK_key (I : Inv X pins σ H s) {n : Nat} {a : Addr} {xs ys : List (Key × D)} {vs ws : List (Key × V)} {ka kb : List (Key × Value)} {c0 : Bool} (r1 : Rd H a (.dK vs)) (q1 : RepK H xs vs) (kv1 : KV vs ka) (q2 : RepK H ys ws) (kv2 : KV ws kb) (h : eqKs (eqD n) ys xs = some c0) :
    ∃ G : Key → Bool, (∀ k v y, (k, v) ∈ ka → valueAt kb k = some y → ∃ d1 d2 v1 v2, eqD n d1 d2 = some (G k) ∧ Rep H d1 v1 ∧ Rep H d2 v2 ∧ RelV v1 v ∧ RelV v2 y) ∧ (ka.all fun p => (valueAt kb p.1).isSome && G p.1) = c0 := by
  have nd := keys_nodup I r1
  have nda : (ka.map (·.1)).Nodup := by rw [← kv1.keys]; exact nd
  let E : Key → Bool := fun k => match lookK xs k, lookK ys k with
    | some d, some e => (eqD n d e).getD false
    | _, _ => false
  have hE : ∀ k d d', (k, d) ∈ xs → lookK ys k = some d' → eqD n d d' = some (E k) := fun k d d' hm he => by
    obtain ⟨c, hc⟩ := eqKs_def h k d d' hm he
    have h1 := lookK_mem (by rw [q1.keys]; exact nd) hm
    have : E k = c := by
      show (match lookK xs k, lookK ys k with | some d, some e => (eqD n d e).getD false | _, _ => false) = c
      rw [h1, he]
      show (eqD n d d').getD false = c
      rw [hc]; rfl
    rw [hc, this]
  have hb := eqKs_val (kb := kb) (e := E) (fun k => by
    have z := kv2.val k
    rcases RepK.look k q2 with ⟨z1, z2⟩ | ⟨d', v', z1, z2, _⟩
    · rw [z2] at z; rw [z1, RelO.none_of z]; rfl
    · rw [z2] at z; obtain ⟨u, z, _⟩ := RelO.some_of z; rw [z1, z]; rfl) (by rw [q1.keys, kv1.keys]) h hE
  refine ⟨E, fun k v y hm hy => ?_, hb⟩
  have hv := valueAt_mem nda hm
  have z1 := kv1.val k
  have z2 := kv2.val k
  rcases RepK.look k q1 with ⟨_, w2⟩ | ⟨d1, v1, w1, w2, p1⟩
  · rw [w2] at z1; rw [RelO.none_of z1] at hv; cases hv
  rcases RepK.look k q2 with ⟨_, w4⟩ | ⟨d2, v2, w3, w4, p2⟩
  · rw [w4] at z2; rw [RelO.none_of z2] at hy; cases hy
  rw [w2] at z1; rw [w4] at z2
  obtain ⟨u1, e1, rr1⟩ := RelO.some_of z1
  obtain ⟨u2, e2, rr2⟩ := RelO.some_of z2
  rw [hv] at e1; rw [hy] at e2
  cases e1; cases e2
  have hm1 : (k, d1) ∈ xs := by
    unfold lookK at w1
    simp only [Option.map_eq_some_iff] at w1
    obtain ⟨p, hp, e⟩ := w1
    have := List.find?_some hp
    have hk : p.1 = k := by simpa using this
    have := List.mem_of_find?_eq_some hp
    rw [← e, ← hk]; exact this
  exact ⟨d1, d2, v1, v2, hE k d1 d2 hm1 w3, p1, p2, rr1, rr2⟩
theorem eqTreeD (I : Inv X pins σ H s) : ∀ (n : Nat) (d e : D) (x y : V) (u v : Value) (b : Bool), eqD n d e = some b → Rep H d x → Rep H e y → RelV x u → RelV y v → PySem.W.EqTree X.prog X.w s n u v b := by
  intro n
  induction n with
  | zero =>
    intro d e x y u v b h rd re rx ry
    by_cases hf : flat d = true ∧ flat e = true
    · exact .leaf fun A hu => eqAtD I 0 d e x y u v b A (by rw [eqN_flat hf.1 hf.2, ← h, eqD_flat hf.1 hf.2]) hu rd re rx ry
    · exfalso
      have : (flat d && flat e) = false := by
        cases h1 : flat d <;> cases h2 : flat e <;> simp_all
      simp [eqD, this] at h
  | succ n ih =>
    intro d e x y u v b h rd re rx ry
    by_cases hf : flat d = true ∧ flat e = true
    · exact .leaf fun A hu => eqAtD I 0 d e x y u v b A (by rw [eqN_flat hf.1 hf.2, ← h, eqD_flat hf.1 hf.2]) (by omega) rd re rx ry
    · cases d <;> cases e <;> first | (exact absurd ⟨rfl, rfl⟩ hf) | (have h' : (none : Option Bool) = some b := h; cases h'; done) | skip
      · rename_i xs ys
        obtain ⟨a, vs, rfl, r1, q1⟩ := Rep.lst_iff.mp rd
        obtain ⟨a', ws, rfl, r2, q2⟩ := Rep.lst_iff.mp re
        cases rx; cases ry
        by_cases ha : a = a'
        · subst ha
          have := Rep.inj _ _ _ rd re
          cases this
          rw [eqD_refl I _ _ _ _ rd h]
          exact .same
        · obtain ⟨its, rv, pl, _⟩ := I.list (.inl r1)
          obtain ⟨its2, rv2, pl2, _⟩ := I.list (.inl r2)
          have l1 := q1.length; have l2 := q2.length; have l3 := rv.length; have l4 := rv2.length
          simp only [eqD] at h
          split at h
          · rename_i hl
            obtain ⟨E, hE, hb⟩ := eq_key h
            rw [← hl, Nat.min_self, l1, l3, show its.length = its.toArray.size by simp] at hb
            rw [← hb]
            refine .lists ha pl.isList pl2.isList (by simp; omega) fun j h1 h2 => ?_
            have h1' : j < its.length := by simpa using h1
            have h2' : j < its2.length := by simpa using h2
            obtain ⟨v1, hv1, r1⟩ := vget rv (List.getElem?_eq_getElem h1')
            obtain ⟨v2, hv2, r2⟩ := vget rv2 (List.getElem?_eq_getElem h2')
            obtain ⟨d1, hd1, p1⟩ := q1.getV hv1
            obtain ⟨d2, hd2, p2⟩ := q2.getV hv2
            exact ih d1 d2 v1 v2 _ _ _ (hE j d1 d2 hd1 hd2) p1 p2 (by simpa using r1) (by simpa using r2)
          · rename_i hl
            cases h
            exact .listsLen ha pl.isList pl2.isList (by simp; omega)
      · rename_i xs ys
        obtain ⟨a, vs, rfl, r1, q1⟩ := Rep.tup_iff.mp rd
        obtain ⟨a', ws, rfl, r2, q2⟩ := Rep.tup_iff.mp re
        cases rx; cases ry
        by_cases ha : a = a'
        · subst ha
          have := Rep.inj _ _ _ rd re
          cases this
          rw [eqD_refl I _ _ _ _ rd h]
          exact .same
        · obtain ⟨its, rv, pl, _⟩ := I.tuple (.of r1)
          obtain ⟨its2, rv2, pl2, _⟩ := I.tuple (.of r2)
          have l1 := q1.length; have l2 := q2.length; have l3 := rv.length; have l4 := rv2.length
          simp only [eqD, Option.map_eq_some_iff] at h
          obtain ⟨c0, h, hb0⟩ := h
          obtain ⟨E, hE, hb⟩ := eq_key h
          have eb : b = ((List.range (min its.toArray.size its2.toArray.size)).all E && its.toArray.size == its2.toArray.size) := by
            rw [← hb0, ← hb]
            simp only [List.size_toArray, ← l3, ← l4, ← l1, ← l2]
          rw [eb]
          refine .tuples ha pl pl2 fun j h1 h2 => ?_
          have h1' : j < its.length := by simpa using h1
          have h2' : j < its2.length := by simpa using h2
          obtain ⟨v1, hv1, r1⟩ := vget rv (List.getElem?_eq_getElem h1')
          obtain ⟨v2, hv2, r2⟩ := vget rv2 (List.getElem?_eq_getElem h2')
          obtain ⟨d1, hd1, p1⟩ := q1.getV hv1
          obtain ⟨d2, hd2, p2⟩ := q2.getV hv2
          exact ih d1 d2 v1 v2 _ _ _ (hE j d1 d2 hd1 hd2) p1 p2 (by simpa using r1) (by simpa using r2)
      · rename_i xs ys
        obtain ⟨a, vs, rfl, r1, q1⟩ := Rep.dic_iff.mp rd
        obtain ⟨a', ws, rfl, r2, q2⟩ := Rep.dic_iff.mp re
        cases rx; cases ry
        by_cases ha : a = a'
        · subst ha
          have := Rep.inj _ _ _ rd re
          cases this
          rw [eqD_refl I _ _ _ _ rd h]
          exact .same
        · obtain ⟨_, hs1, ka, kv1, dk1⟩ := dk_rd I.hok r1
          obtain ⟨_, hs2, kb, kv2, dk2⟩ := dk_rd I.hok r2
          simp only [eqD, Option.map_eq_some_iff] at h
          obtain ⟨c0, h, hb0⟩ := h
          obtain ⟨E, hE, hb⟩ := eqK_key I r1 q1 kv1 q2 kv2 h
          have eb : b = (ka.length == kb.length && ka.all fun p => (valueAt kb p.1).isSome && E p.1) := by
            rw [← hb0, ← hb, q1.length, q2.length, kv1.length, kv2.length]
          rw [eb]
          refine .dicts ha hs1 hs2 dk1 dk2 fun k v y hm hy => ?_
          obtain ⟨d1, d2, v1, v2, hc, p1, p2, rr1, rr2⟩ := hE k v y hm hy
          exact ih d1 d2 v1 v2 _ _ _ hc p1 p2 rr1 rr2
end
end Dx
end
section
namespace Dx
open PySem L2 PyProof.Rows

/-! new objects -/
theorem same_upd {H : Hp} {p : Addr} {o : HO} (h : H p = none) : Same H (upd H p o) := fun b u e => by rw [upd_ne (ne_of_none e h)]; exact e
section
variable {P : Addr → Prop} {H : Hp} {p : Addr}
theorem Reps.new {ds : List D} {vs : List V} {o : HO} (hp : H p = none) (r : Reps (hide P H) ds vs) : Reps (hide P (upd H p o)) ds vs := Reps.mono (hide_keeps (same_upd hp)) _ _ r
theorem RepK.new {ds : List (Key × D)} {vs : List (Key × V)} {o : HO} (hp : H p = none) (r : RepK (hide P H) ds vs) : RepK (hide P (upd H p o)) ds vs := RepK.mono (hide_keeps (same_upd hp)) _ _ r
theorem RepT.new {ds : List (List Key × D)} {vs : List (List Key × V)} {o : HO} (hp : H p = none) (r : RepT (hide P H) ds vs) : RepT (hide P (upd H p o)) ds vs := RepT.mono (hide_keeps (same_upd hp)) _ _ r
theorem new_lst {ds : List D} {vs : List V} (hP : ∀ a, P a → ∃ o, H a = some o) (hp : H p = none) (r : Reps (hide P H) ds vs) : Rep (hide P (upd H p (.lst vs))) (.lst ds) (.ref p) :=
  Rep.lst_iff.mpr ⟨p, vs, rfl, .inl (by rw [hide_out fun q => by obtain ⟨o, e⟩ := hP p q; rw [hp] at e; cases e]; exact upd_same), r.new hp⟩
theorem new_tup {ds : List D} {vs : List V} (hP : ∀ a, P a → ∃ o, H a = some o) (hp : H p = none) (r : Reps (hide P H) ds vs) : Rep (hide P (upd H p (.tup vs))) (.tup ds) (.ref p) :=
  Rep.tup_iff.mpr ⟨p, vs, rfl, by rw [hide_out fun q => by obtain ⟨o, e⟩ := hP p q; rw [hp] at e; cases e]; exact upd_same, r.new hp⟩
end
/-- the mode of a new object -/
def Md.new : Md → Md
  | .bo => .bo
  | _ => .fr
section
variable {S : Addr → Prop} {M : Gh} {F : Nat → List Addr} {H0 H H' : Hp} {σ : L2.St} {δ : Env} {m : Md} {p : Addr}
theorem hide_new (E : EOk H0 S M σ H δ F) (hp : H p = none) {o : HO} : Keeps (hide (Oc S F) H) (hide (fun a => Oc S F a ∨ a = p) (upd H p o)) :=
  Keeps.of_same (same_hide (fun a u _ h => same_upd hp a u h) fun a h => h.elim .inl fun h => .inr (by rw [h]; exact hp))
theorem res_lst (E : EOk H0 S M σ H δ F) {ds : List D} {vs : List V} (hp : H p = none) (r : Reps (hide (Pm m S F) H) ds vs) : ResOk S F H (upd H p (.lst vs)) m.new (.lst ds) (.ref p) := by
  cases m with
  | bo => exact new_lst (fun a h => E.dom a h) hp r
  | sh => exact ⟨p, rfl, hp, vs, upd_same, Reps.mono (hide_new E hp) _ _ r⟩
  | fr => exact ⟨p, rfl, hp, vs, upd_same, Reps.mono (hide_new E hp) _ _ r⟩
theorem res_dic (E : EOk H0 S M σ H δ F) {ds : List (Key × D)} {vs : List (Key × V)} (hp : H p = none) (r : RepK (hide (Oc S F) H) ds vs) : ResOk S F H (upd H p (.dK vs)) .fr (.dic ds) (.ref p) :=
  ⟨p, rfl, hp, vs, upd_same, RepK.mono (hide_new E hp) _ _ r⟩
theorem res_dct (E : EOk H0 S M σ H δ F) {ds : List (List Key × D)} {vs : List (List Key × V)} (hp : H p = none) (r : RepT (hide (Oc S F) H) ds vs) : ResOk S F H (upd H p (.dT vs)) .fr (.dct ds) (.ref p) :=
  ⟨p, rfl, hp, vs, upd_same, RepT.mono (hide_new E hp) _ _ r⟩
theorem res_tup (E : EOk H0 S M σ H δ F) {ds : List D} {vs : List V} (hp : H p = none) (r : Reps (hide (Pm m S F) H) ds vs) : ResOk S F H (upd H p (.tup vs)) m.res (.tup ds) (.ref p) :=
  .of_res (new_tup (fun a h => E.pm h) hp r)
/-- a value read later, from a part that has grown -/
theorem ResOk.reps {ds : List D} {vs : List V} {P : Addr → Prop} (s : Same H H') (r : Reps (hide P H) ds vs) : Reps (hide P H') ds vs := Reps.mono (hide_keeps s) _ _ r
end

variable {X : Cx} {W : WX} {m : Md} {a b c : Expr} {fa fb fc : ER} {pos : Pos}

/-! arithmetic -/
def addD : D → D → Res D
  | .int i, .int j => .ok (.int (i + j))
  | .str x, .str y => if x.length + y.length ≤ sizeLine then .ok (.str (x ++ y)) else .stuck
  | .tup xs, .tup ys => if xs ≠ [] ∧ ys ≠ [] ∧ xs.length + ys.length ≤ sizeLine then .ok (.tup (xs ++ ys)) else if ys = [] ∧ xs ≠ [] ∧ xs.length ≤ sizeLine then .ok (.tup xs) else .stuck
  | _, _ => .stuck
open Classical in
theorem noExc_addD : NoExc addD := fun d1 d2 e h => by
  unfold addD at h
  split at h <;> first | (cases h; done) | skip
  · split at h <;> cases h
  · split at h
    · cases h
    · split at h <;> cases h
def rAddAny (X : Cx) : R2 := fun x y H Q => (∃ i j, x = .int i ∧ y = .int j ∧ Q (.int (i + j)) H) ∨ (∃ i j, x = .str i ∧ y = .str j ∧ i.length + j.length ≤ sizeLine ∧ Q (.str (i ++ j)) H) ∨ rCatT X.K x y H Q
theorem op_addAny : OpR X (binaryOp .Add) (rAddAny X) := OpR.or op_add (OpR.or op_add_str op_catT)
theorem reps_nil_iff {H : Hp} {ds : List D} {vs : List V} (r : Reps H ds vs) : vs = [] ↔ ds = [] := by
  have := r.length
  cases ds <;> cases vs <;> simp_all
theorem r2_add : R2D (rAddAny X) addD := fun P H x y d1 d2 d Q hP r1 r2 hg hq => by
  unfold addD at hg
  split at hg <;> first | (cases hg; done) | skip
  · cases hg
    exact .inl ⟨_, _, Rep.int_iff.mp r1, Rep.int_iff.mp r2, hq _ H (Same.refl _) (Rep.int_iff.mpr rfl)⟩
  · split at hg
    · cases hg
      exact .inr (.inl ⟨_, _, Rep.str_iff.mp r1, Rep.str_iff.mp r2, by assumption, hq _ H (Same.refl _) (Rep.str_iff.mpr rfl)⟩)
    · cases hg
  · rename_i xs ys
    obtain ⟨a1, vs, rfl, h1, q1⟩ := Rep.tup_iff.mp r1
    obtain ⟨a2, ws, rfl, h2, q2⟩ := Rep.tup_iff.mp r2
    have l1 := q1.length; have l2 := q2.length
    split at hg
    · rename_i hc
      cases hg
      refine .inr (.inr ⟨a1, a2, vs, ws, rfl, rfl, .of (hide_some h1).2, .of (hide_some h2).2, fun z => hc.1 ((reps_nil_iff q1).mp z), by omega, fun z => (hc.2.1 ((reps_nil_iff q2).mp z)).elim, fun _ p hp => ?_⟩)
      exact hq _ _ (same_upd hp) (new_tup hP hp (q1.append q2))
    · split at hg
      · rename_i hc
        cases hg
        have hw : ws = [] := (reps_nil_iff q2).mpr hc.1
        subst hw
        refine .inr (.inr ⟨a1, a2, vs, [], rfl, rfl, .of (hide_some h1).2, .of (hide_some h2).2, fun z => hc.2.1 ((reps_nil_iff q1).mp z), by simp; omega, fun _ => hq _ _ (Same.refl _) r1, fun z => (z rfl).elim⟩)
      · cases hg
abbrev dAdd (f g : ER) : ER := dOp2 addD f g
theorem de_add (ha : DE X W m a fa) (hb : DE X W m b fb) : DE X W m.res (.BinOp a .Add b pos) (dAdd fa fb) := de_op2 op_addAny r2_add noExc_addD ha hb

/-- lists -/
theorem lst_rd {pins : List (Addr × Obj)} {σ : L2.St} {H : Hp} {s : Shared} {l : Addr} {xs : List V} (I : Inv X pins σ H s) (h : Rd H l (.lst xs)) : xs.length ≤ sizeLine ∧ ∃ (its : List Value) (n : Nat), Vals xs its ∧ xs.length = its.length ∧ s.heap.get? l = some { cls := .type "list", data := .seq its.toArray n } := by
  obtain ⟨z, its, n, r, e⟩ := h.ok I.hok
  exact ⟨z, its, n, r, r.length, e⟩
def rCatR : R2 := fun x y H Q => ∃ l b xs zs, x = .ref l ∧ y = .ref b ∧ Rd H l (.lst xs) ∧ Rd H b (.lst zs) ∧ xs.length + zs.length ≤ sizeLine ∧ ∀ p, H p = none → Q (.ref p) (upd H p (.lst (xs ++ zs)))
theorem op_catR : OpR X (binaryOp .Add) rCatR := by
  intro pins s σ H x y v u Q I rx ry h
  obtain ⟨l, b, xs, zs, rfl, rfl, hH, hB, hz, q⟩ := h
  cases rx
  cases ry
  obtain ⟨z, its, n, r, hl, e⟩ := lst_rd I hH
  obtain ⟨z2, its2, n2, r2, hl2, e2⟩ := lst_rd I hB
  refine PySem.P.add_list e e2 ?_ (by rw [List.size_toArray, List.size_toArray]; omega)
  have ea : its.toArray ++ its2.toArray = (its ++ its2).toArray := by simp
  rw [ea]
  exact ⟨.ref _, _, I.lnew (t' := s.toks) (r.append r2) (by rw [List.length_append]; omega), rfl, q _ I.fresh⟩
def catD : D → D → Res D
  | .lst xs, .lst ys => if xs.length + ys.length ≤ sizeLine then .ok (.lst (xs ++ ys)) else .stuck
  | _, _ => .stuck
theorem rd_hide {P : Addr → Prop} {H : Hp} {a : Addr} {u : HO} (h : Rd (hide P H) a u) : Rd H a u := by
  rcases h with h | ⟨o, h⟩
  · exact .inl (hide_some h).2
  · exact .inr ⟨o, (hide_some h).2⟩
/-- what a two-place operation that makes a new object asks -/
def R2N (r : R2) (g : D → D → Res D) : Prop := ∀ (H0 : Hp) (S : Addr → Prop) (M : Gh) (σ : L2.St) (H : Hp) (δ : Env) (F : Nat → List Addr) (m : Md) (x y : V) (d1 d2 d : D) (Q : VK), EOk H0 S M σ H δ F → Rep (hide (Pm m S F) H) d1 x → Rep (hide (Pm m S F) H) d2 y → g d1 d2 = .ok d →
  (∀ z H', Same H H' → ResOk S F H H' m.new d z → Q z H') → r x y H Q
variable {S : Addr → Prop} {M : Gh} {F : Nat → List Addr} {H0 H H' : Hp} {σ : L2.St} {δ : Env} {r : R2} {g : D → D → Res D}
theorem tOp_new (hr : R2N r g) (hx : NoExc g) {Q P : VK} (E : EOk H0 S M σ H δ F) (h : Out X.mg W σ H S F m.new (dOp2 g fa fb δ) Q) (hP : ∀ v H, Q v H → P v H) : tOp r (tE X.mg W m fa) (tE X.mg W m fb) σ H P := by
  refine ⟨H0, S, M, δ, F, E, Out.bind h fun d1 v1 H1 _ s1 r1 o1 => ?_⟩
  refine ⟨H0, S, M, δ, F, E.grow s1, Out.bind o1 fun d2 v2 H2 _ s2 r2 o2 => ?_⟩
  have E2 := (E.grow s1).grow s2
  have q1 := (r1.later s2).rep E
  have q2 := r2.rep (E.grow s1)
  cases hg : g d1 d2 with
  | stuck => rw [hg] at o2; exact o2.elim
  | exc e => exact (hx _ _ _ hg).elim
  | ok d =>
    rw [hg] at o2
    exact hr H0 S M σ H2 δ F m v1 v2 d1 d2 d _ E2 q1 q2 hg fun z H' s' q => hP _ _ (o2 z H' s' q)
theorem r2_cat : R2N rCatR catD := fun H0 S M σ H δ F m x y d1 d2 d Q E r1 r2 hg hq => by
  unfold catD at hg
  split at hg <;> first | (cases hg; done) | skip
  split at hg <;> cases hg
  obtain ⟨a1, vs, rfl, h1, q1⟩ := Rep.lst_iff.mp r1
  obtain ⟨a2, ws, rfl, h2, q2⟩ := Rep.lst_iff.mp r2
  have l1 := q1.length; have l2 := q2.length
  exact ⟨a1, a2, vs, ws, rfl, rfl, rd_hide h1, rd_hide h2, by omega, fun p hp => hq _ _ (same_upd hp) (res_lst E hp (q1.append q2))⟩
abbrev dCat (f g : ER) : ER := dOp2 catD f g
theorem de_cat (ha : DE X W m a fa) (hb : DE X W m b fb) : DE X W m.new (.BinOp a .Add b pos) (dCat fa fb) :=
  pe_weaken (pe_op op_catR ha hb) fun σ H Q ⟨H0, S, M, δ, F, E, q⟩ => tOp_new r2_cat (fun d1 d2 e h => by unfold catD at h; split at h <;> first | (cases h; done) | (split at h <;> cases h)) E q fun _ _ h => h

/-- ints -/
def int2 (C : Int → Int → Bool) (k : Int → Int → D) : D → D → Res D
  | .int i, .int j => if C i j = true then .ok (k i j) else .stuck
  | _, _ => .stuck
theorem noExc_int2 {C : Int → Int → Bool} {k : Int → Int → D} : NoExc (int2 C k) := fun d1 d2 e h => by
  unfold int2 at h
  split at h <;> first | (cases h; done) | (split at h <;> cases h)
theorem flats_int2 {C : Int → Int → Bool} {k : Int → Int → D} (hk : ∀ i j, flat (k i j) = true) : Flats (int2 C k) := fun d1 d2 d h => by
  unfold int2 at h
  split at h <;> first | (cases h; done) | (split at h <;> first | (cases h; done) | (cases h; exact hk _ _))
theorem r2_int {CC : Int → Int → Prop} {gg : Int → Int → V} {C : Int → Int → Bool} {k : Int → Int → D} (hC : ∀ i j, C i j = true → CC i j) (hk : ∀ i j, flat (k i j) = true) (hv : ∀ i j, C i j = true → gg i j = fval (k i j)) : R2D (rI CC gg) (int2 C k) :=
  fun P H x y d1 d2 d Q hP r1 r2 hg hq => by
    unfold int2 at hg
    split at hg <;> first | (cases hg; done) | skip
    split at hg
    · rename_i hc
      cases hg
      refine ⟨_, _, Rep.int_iff.mp r1, Rep.int_iff.mp r2, hC _ _ hc, ?_⟩
      rw [hv _ _ hc]
      exact hq _ H (Same.refl _) (Rep.flat_mk _ (hk _ _))
    · cases hg
theorem r2_int0 {gg : Int → Int → V} {k : Int → Int → D} (hk : ∀ i j, flat (k i j) = true) (hv : ∀ i j, gg i j = fval (k i j)) : R2D (rI0 gg) (int2 (fun _ _ => true) k) :=
  fun P H x y d1 d2 d Q hP r1 r2 hg hq => by
    unfold int2 at hg
    split at hg <;> first | (cases hg; done) | skip
    split at hg
    · cases hg
      refine ⟨_, _, Rep.int_iff.mp r1, Rep.int_iff.mp r2, ?_⟩
      rw [hv]
      exact hq _ H (Same.refl _) (Rep.flat_mk _ (hk _ _))
    · cases hg
def fits64 (i : Int) : Bool := decide (i.natAbs < 18446744073709551616)
def cMul (i j : Int) : Bool := fits64 i || fits64 j
theorem cMul_ok {i j : Int} (h : cMul i j = true) : CMul i j := by
  unfold cMul fits64 at h
  simp only [Bool.or_eq_true, decide_eq_true_eq] at h
  unfold CMul
  omega
abbrev subD := int2 (fun _ _ => true) fun i j => D.int (i - j)
abbrev mulD := int2 cMul fun i j => D.int (i * j)
abbrev fdivD := int2 (fun _ j => decide (0 < j) && decide (j < 1073741824)) fun i j => D.int (i / j)
abbrev modD := int2 (fun _ j => decide (0 < j)) fun i j => D.int (i % j)
abbrev powD := int2 (fun i j => decide (0 ≤ j) && decide (j ≤ 1000) && decide (i.natAbs < 2 ^ 64)) fun i j => D.int (i ^ j.toNat)
theorem de_sub (ha : DE X W m a fa) (hb : DE X W m b fb) : DE X W .sh (.BinOp a .Sub b pos) (dOp2 subD fa fb) :=
  de_flat (flats_op2 (flats_int2 fun _ _ => rfl)) (de_op2 op_sub (r2_int0 (fun _ _ => rfl) fun _ _ => rfl) noExc_int2 ha hb)
theorem de_mul (ha : DE X W m a fa) (hb : DE X W m b fb) : DE X W .sh (.BinOp a .Mult b pos) (dOp2 mulD fa fb) :=
  de_flat (flats_op2 (flats_int2 fun _ _ => rfl)) (de_op2 op_mul (r2_int (fun _ _ h => cMul_ok h) (fun _ _ => rfl) fun _ _ _ => rfl) noExc_int2 ha hb)
theorem de_fdiv (ha : DE X W m a fa) (hb : DE X W m b fb) : DE X W .sh (.BinOp a .FloorDiv b pos) (dOp2 fdivD fa fb) :=
  de_flat (flats_op2 (flats_int2 fun _ _ => rfl)) (de_op2 op_fdiv (r2_int (fun _ _ h => by simpa [CDiv] using h) (fun _ _ => rfl) fun _ _ _ => rfl) noExc_int2 ha hb)
theorem de_mod (ha : DE X W m a fa) (hb : DE X W m b fb) : DE X W .sh (.BinOp a .Mod b pos) (dOp2 modD fa fb) :=
  de_flat (flats_op2 (flats_int2 fun _ _ => rfl)) (de_op2 op_mod (r2_int (fun _ _ h => by simpa using h) (fun _ _ => rfl) fun _ _ _ => rfl) noExc_int2 ha hb)
theorem de_pow (ha : DE X W m a fa) (hb : DE X W m b fb) : DE X W .sh (.BinOp a .Pow b pos) (dOp2 powD fa fb) :=
  de_flat (flats_op2 (flats_int2 fun _ _ => rfl)) (de_op2 op_pow (r2_int (fun i j h => by simp only [Bool.and_eq_true, decide_eq_true_eq] at h; exact ⟨h.1.1, by omega, h.2⟩) (fun _ _ => rfl) fun _ _ _ => rfl) noExc_int2 ha hb)
def dNeg (f : ER) : ER := fun δ => (f δ).bind fun d => match d with | .int i => .ok (.int (-i)) | _ => .stuck
theorem de_neg (ha : DE X W m a fa) : DE X W .sh (.UnaryOp .USub a pos) (dNeg fa) :=
  pe_weaken (pe_un un_neg ha) fun σ H Q ⟨H0, S, M, δ, F, E, q⟩ => ⟨H0, S, M, δ, F, E, Out.bind q fun d v H1 hh s r o => by
    clear hh
    cases d <;> try exact o.elim
    rename_i i
    have e := r.flat_inv rfl
    subst e
    exact ⟨i, rfl, o _ H1 (Same.refl _) (.flat_mk (.int _) rfl fun h => nomatch h)⟩⟩

/-! comparisons -/
def cmpI (p : Int → Int → Bool) : D → D → Res D
  | .int i, .int j => .ok (.bl (p i j))
  | _, _ => .stuck
theorem noExc_cmpI {p : Int → Int → Bool} : NoExc (cmpI p) := fun d1 d2 e h => by unfold cmpI at h; split at h <;> cases h
theorem flats_cmpI {p : Int → Int → Bool} : Flats (cmpI p) := fun d1 d2 d h => by unfold cmpI at h; split at h <;> first | (cases h; done) | (cases h; rfl)
theorem r2_cmpI {p : Int → Int → Bool} : R2D (rI0 fun i j => .bl (p i j)) (cmpI p) := fun P H x y d1 d2 d Q hP r1 r2 hg hq => by
  unfold cmpI at hg
  split at hg <;> first | (cases hg; done) | skip
  cases hg
  exact ⟨_, _, Rep.int_iff.mp r1, Rep.int_iff.mp r2, hq _ H (Same.refl _) (Rep.bl_iff.mpr rfl)⟩
abbrev ltD := cmpI fun i j => decide (i < j)
abbrev leD := cmpI fun i j => decide (i ≤ j)
abbrev gtD := cmpI fun i j => decide (j < i)
abbrev geD := cmpI fun i j => decide (j ≤ i)
theorem dt_lt (ha : DE X W m a fa) (hb : DE X W m b fb) : DT X W (.Compare a [.Lt] [b] pos) (dTst (dOp2 ltD fa fb)) := dt_cmp2 op_lt r2_cmpI noExc_cmpI ha hb (nomark _)
theorem dt_le (ha : DE X W m a fa) (hb : DE X W m b fb) : DT X W (.Compare a [.LtE] [b] pos) (dTst (dOp2 leD fa fb)) := dt_cmp2 op_le r2_cmpI noExc_cmpI ha hb (nomark _)
theorem dt_gt (ha : DE X W m a fa) (hb : DE X W m b fb) : DT X W (.Compare a [.Gt] [b] pos) (dTst (dOp2 gtD fa fb)) := dt_cmp2 op_gt r2_cmpI noExc_cmpI ha hb (nomark _)
theorem dt_ge (ha : DE X W m a fa) (hb : DE X W m b fb) : DT X W (.Compare a [.GtE] [b] pos) (dTst (dOp2 geD fa fb)) := dt_cmp2 op_ge r2_cmpI noExc_cmpI ha hb (nomark _)
theorem de_lt (ha : DE X W m a fa) (hb : DE X W m b fb) : DE X W .sh (.Compare a [.Lt] [b] pos) (dOp2 ltD fa fb) := de_flat (flats_op2 flats_cmpI) (de_cmp2 op_lt r2_cmpI noExc_cmpI ha hb (nomark _))
theorem de_le (ha : DE X W m a fa) (hb : DE X W m b fb) : DE X W .sh (.Compare a [.LtE] [b] pos) (dOp2 leD fa fb) := de_flat (flats_op2 flats_cmpI) (de_cmp2 op_le r2_cmpI noExc_cmpI ha hb (nomark _))
theorem de_gt (ha : DE X W m a fa) (hb : DE X W m b fb) : DE X W .sh (.Compare a [.Gt] [b] pos) (dOp2 gtD fa fb) := de_flat (flats_op2 flats_cmpI) (de_cmp2 op_gt r2_cmpI noExc_cmpI ha hb (nomark _))
theorem de_ge (ha : DE X W m a fa) (hb : DE X W m b fb) : DE X W .sh (.Compare a [.GtE] [b] pos) (dOp2 geD fa fb) := de_flat (flats_op2 flats_cmpI) (de_cmp2 op_ge r2_cmpI noExc_cmpI ha hb (nomark _))
/-- == -/
def eqT (d e : D) : Option Bool := if flat d && flat e then (if scal (fval d) (fval e) then some (flatEq d e) else none) else eqD 40 d e
def optB (o : Option Bool) (k : Bool → Bool) : Res D := match o with
  | some b => .ok (.bl (k b))
  | none => .stuck
def eqC : D → D → Res D := fun d e => optB (eqT d e) id
theorem noExc_optB {o : Option Bool} {k : Bool → Bool} {e : Exn} : optB o k ≠ .exc e := by cases o <;> exact fun h => nomatch h
theorem flats_optB {o : Option Bool} {k : Bool → Bool} {d : D} (h : optB o k = .ok d) : flat d = true := by cases o <;> cases h; rfl
def rEqX (neg : Bool) : R2 := fun x y H Q => ∃ d e b, eqT d e = some b ∧ Rep H d x ∧ Rep H e y ∧ Q (.bl (if neg then !b else b)) H
theorem scal_eq {d e : D} (hd : flat d = true) (he : flat e = true) (h : scal (fval d) (fval e) = true) : decide (fval d = fval e) = flatEq d e := by
  cases d <;> cases e <;> first | (cases hd; done) | (cases he; done) | (cases h; done) | skip
  all_goals simp [fval, flatEq]
  all_goals first | rfl | (rename_i a b; by_cases q : a = b <;> simp [q])
theorem eqT_cases {d e : D} {b : Bool} (h : eqT d e = some b) : (flat d = true ∧ flat e = true ∧ scal (fval d) (fval e) = true ∧ b = flatEq d e) ∨ (eqD 40 d e = some b ∧ ¬ (flat d = true ∧ flat e = true)) := by
  unfold eqT at h
  split at h
  · rename_i hf
    simp only [Bool.and_eq_true] at hf
    split at h
    · cases h; exact .inl ⟨hf.1, hf.2, by assumption, rfl⟩
    · cases h
  · rename_i hf
    simp only [Bool.and_eq_true] at hf
    exact .inr ⟨h, hf⟩
theorem rcD {pins : List (Addr × Obj)} {σ : L2.St} {H : Hp} {s : Shared} (I : L2.Inv X pins σ H s) {n : Nat} {d e : D} {x y : V} {u v : Value} {b : Bool} {A : Around} {E : Value → Shared → Prop} {Q : Value → Shared → Prop}
    (h : eqD (n + 1) d e = some b) (hf : ¬ (flat d = true ∧ flat e = true)) (hu : A.units + (n + 1) < cLine) (rd : Rep H d x) (re : Rep H e y) (rx : RelV x u) (ry : RelV y v) (q : Q (.bool b) s) :
    wpAny (model X.prog X.w) A (compareOp .Eq u v) Q E s := by
  cases d <;> cases e <;> first | (exact absurd ⟨rfl, rfl⟩ hf) | (have h' : (none : Option Bool) = some b := h; cases h'; done) | skip
  · rename_i xs ys
    obtain ⟨a, vs, rfl, r1, q1⟩ := Rep.lst_iff.mp rd
    obtain ⟨a', ws, rfl, r2, q2⟩ := Rep.lst_iff.mp re
    cases rx; cases ry
    obtain ⟨its, rv, pl, _⟩ := I.list (.inl r1)
    obtain ⟨its2, rv2, pl2, _⟩ := I.list (.inl r2)
    have l1 := q1.length; have l2 := q2.length; have l3 := rv.length; have l4 := rv2.length
    simp only [eqD] at h
    split at h
    · rename_i hl
      obtain ⟨G, hE, hb⟩ := eq_key h
      rw [← hl, Nat.min_self, l1, l3, show its.length = its.toArray.size by simp] at hb
      refine PySem.W.eq_listsT pl.isList pl2.isList (by simp; omega) (fun j h1 h2 => ?_) hu (by rw [hb]; exact q)
      have h1' : j < its.length := by simpa using h1
      have h2' : j < its2.length := by simpa using h2
      obtain ⟨v1, hv1, r1⟩ := vget rv (List.getElem?_eq_getElem h1')
      obtain ⟨v2, hv2, r2⟩ := vget rv2 (List.getElem?_eq_getElem h2')
      obtain ⟨d1, hd1, p1⟩ := q1.getV hv1
      obtain ⟨d2, hd2, p2⟩ := q2.getV hv2
      exact eqTreeD I n d1 d2 v1 v2 _ _ _ (hE j d1 d2 hd1 hd2) p1 p2 (by simpa using r1) (by simpa using r2)
    · rename_i hl
      cases h
      exact SeqAt.eq_list_lengthsAt pl.isList pl2.isList (by simp; omega) (by omega) q
  · rename_i xs ys
    obtain ⟨a, vs, rfl, r1, q1⟩ := Rep.tup_iff.mp rd
    obtain ⟨a', ws, rfl, r2, q2⟩ := Rep.tup_iff.mp re
    cases rx; cases ry
    obtain ⟨its, rv, pl, _⟩ := I.tuple (.of r1)
    obtain ⟨its2, rv2, pl2, _⟩ := I.tuple (.of r2)
    have l1 := q1.length; have l2 := q2.length; have l3 := rv.length; have l4 := rv2.length
    simp only [eqD, Option.map_eq_some_iff] at h
    obtain ⟨c0, h, hb0⟩ := h
    obtain ⟨G, hE, hb⟩ := eq_key h
    have eb : b = ((List.range (min its.toArray.size its2.toArray.size)).all G && its.toArray.size == its2.toArray.size) := by
      rw [← hb0, ← hb]
      simp only [List.size_toArray, ← l3, ← l4, ← l1, ← l2]
    refine PySem.W.eq_tuplesT pl pl2 (fun j h1 h2 => ?_) hu (by rw [← eb]; exact q)
    have h1' : j < its.length := by simpa using h1
    have h2' : j < its2.length := by simpa using h2
    obtain ⟨v1, hv1, r1⟩ := vget rv (List.getElem?_eq_getElem h1')
    obtain ⟨v2, hv2, r2⟩ := vget rv2 (List.getElem?_eq_getElem h2')
    obtain ⟨d1, hd1, p1⟩ := q1.getV hv1
    obtain ⟨d2, hd2, p2⟩ := q2.getV hv2
    exact eqTreeD I n d1 d2 v1 v2 _ _ _ (hE j d1 d2 hd1 hd2) p1 p2 (by simpa using r1) (by simpa using r2)
  · rename_i xs ys
    obtain ⟨a, vs, rfl, r1, q1⟩ := Rep.dic_iff.mp rd
    obtain ⟨a', ws, rfl, r2, q2⟩ := Rep.dic_iff.mp re
    cases rx; cases ry
    obtain ⟨_, hs1, ka, kv1, dk1⟩ := dk_rd I.hok r1
    obtain ⟨_, hs2, kb, kv2, dk2⟩ := dk_rd I.hok r2
    simp only [eqD, Option.map_eq_some_iff] at h
    obtain ⟨c0, h, hb0⟩ := h
    obtain ⟨G, hE, hb⟩ := eqK_key I r1 q1 kv1 q2 kv2 h
    have eb : b = (ka.length == kb.length && ka.all fun p => (valueAt kb p.1).isSome && G p.1) := by
      rw [← hb0, ← hb, q1.length, q2.length, kv1.length, kv2.length]
    refine PySem.W.eq_dictsT hs1 hs2 dk1 dk2 (fun k v y hm hy => ?_) hu (by rw [← eb]; exact q)
    obtain ⟨d1, d2, v1, v2, hc, p1, p2, rr1, rr2⟩ := hE k v y hm hy
    exact eqTreeD I n d1 d2 v1 v2 _ _ _ hc p1 p2 rr1 rr2
theorem op_eqX (hu : X.A.units + 64 < cLine) : OpR X (compareOp .Eq) (rEqX false) := by
  intro pins s σ H x y v u Q I rx ry ⟨d, e, b, h, rd, re, q⟩
  rcases eqT_cases h with ⟨hd, he, hs, rfl⟩ | ⟨h, hf⟩
  · rw [rd.flat_inv hd] at rx; rw [re.flat_inv he] at ry
    exact op_eq pins s σ H _ _ v u Q I rx ry ⟨hs, by rw [scal_eq hd he hs]; exact q⟩
  · exact rcD I h hf (by omega) rd re rx ry ⟨.bl _, H, I, rfl, q⟩

theorem r2_eqX : R2D (rEqX false) eqC := fun P H x y d1 d2 d Q hP r1 r2 hg hq => by
  unfold eqC at hg
  cases h : eqT d1 d2 with
  | none => rw [h] at hg; cases hg
  | some b =>
    rw [h] at hg; cases hg
    exact ⟨d1, d2, b, h, Rep.mono (Keeps.of_same same_hide_sub) _ _ r1, Rep.mono (Keeps.of_same same_hide_sub) _ _ r2, hq _ H (Same.refl _) (Rep.bl_iff.mpr rfl)⟩
theorem noExc_eqC : NoExc eqC := fun _ _ _ => noExc_optB
theorem flats_eqC : Flats eqC := fun _ _ _ h => flats_optB h
abbrev dEq (f g : ER) : ER := dOp2 eqC f g
theorem de_eq (hu : X.A.units + 64 < cLine) (ha : DE X W m a fa) (hb : DE X W m b fb) : DE X W .sh (.Compare a [.Eq] [b] pos) (dEq fa fb) := de_flat (flats_op2 flats_eqC) (de_cmp2 (op_eqX hu) r2_eqX noExc_eqC ha hb (nomark _))
theorem dt_eq (hu : X.A.units + 64 < cLine) (ha : DE X W m a fa) (hb : DE X W m b fb) : DT X W (.Compare a [.Eq] [b] pos) (dTst (dEq fa fb)) := dt_cmp2 (op_eqX hu) r2_eqX noExc_eqC ha hb (nomark _)

/-- != -/
def neT (d e : D) : Option Bool := if flat d && flat e then (if scal (fval d) (fval e) then some (flatEq d e) else none) else match d, e with
  | .non, .lst _ => some false
  | .non, .tup _ => some false
  | .lst _, .non => some false
  | .tup _, .non => some false
  | d, e => eqN 40 d e
def neC : D → D → Res D := fun d e => optB (neT d e) not
def rNeX : R2 := fun x y H Q => ∃ d e b, neT d e = some b ∧ Rep H d x ∧ Rep H e y ∧ Q (.bl (!b)) H
theorem eqN_key {n : Nat} {xs ys : List D} {b : Bool} (h : eqAll (eqN n) xs ys = some b) : ∃ E : Nat → Bool, (∀ j x y, xs[j]? = some x → ys[j]? = some y → eqN n x y = some (E j)) ∧ (List.range (min xs.length ys.length)).all E = b := by
  have key : ∀ j : Nat, ∃ c, ∀ x y, xs[j]? = some x → ys[j]? = some y → eqN n x y = some c := fun j => by
    cases hx : xs[j]? with
    | none => exact ⟨true, fun _ _ z => nomatch z⟩
    | some x =>
      cases hy : ys[j]? with
      | none => exact ⟨true, fun _ _ _ z => nomatch z⟩
      | some y =>
        obtain ⟨c, hc⟩ := eqAll_len h j x y hx hy
        exact ⟨c, fun x' y' e1 e2 => by cases e1; cases e2; exact hc⟩
  obtain ⟨E, hE⟩ := Classical.axiomOfChoice key
  exact ⟨E, hE, by rw [List.range_eq_range']; exact eqAll_val (e := E) 0 h fun j x y hx hy => by rw [Nat.zero_add]; exact hE j x y hx hy⟩
theorem op_neX (hu : X.A.units + 64 < cLine) : OpR X (compareOp .NotEq) rNeX := by
  intro pins s σ H x y v u Q I rx ry ⟨d, e, b, h, rd, re, q⟩
  have fin : ∀ s', Q (.bl (!b)) H → L2.Inv X pins σ H s' → EP X pins σ Q (.bool (!b)) s' := fun s' q I => ⟨.bl _, H, I, rfl, q⟩
  unfold neT at h
  split at h
  · rename_i hf
    simp only [Bool.and_eq_true] at hf
    split at h
    · rename_i hs
      cases h
      rw [rd.flat_inv hf.1] at rx; rw [re.flat_inv hf.2] at ry
      exact op_ne pins s σ H _ _ v u Q I rx ry ⟨hs, by rw [scal_eq hf.1 hf.2 hs]; exact q⟩
    · cases h
  · rename_i hf
    simp only [Bool.and_eq_true] at hf
    split at h
    · cases h
      obtain ⟨a, vs, rfl, r, _⟩ := Rep.lst_iff.mp re
      rw [Rep.non_iff.mp rd] at rx; cases rx; cases ry
      obtain ⟨its, _, pl, _⟩ := I.list (.inl r)
      exact SeqAt.RcNeAt.none_list pl.isList (by omega) _ _ _ _ (fin s q I)
    · cases h
      obtain ⟨a, vs, rfl, r, _⟩ := Rep.tup_iff.mp re
      rw [Rep.non_iff.mp rd] at rx; cases rx; cases ry
      obtain ⟨its, _, pl, _⟩ := I.tuple (.of r)
      exact SeqAt.RcNeAt.none_tuple pl (by omega) _ _ _ _ (fin s q I)
    · cases h
      obtain ⟨a, vs, rfl, r, _⟩ := Rep.lst_iff.mp rd
      rw [Rep.non_iff.mp re] at ry; cases rx; cases ry
      obtain ⟨its, _, pl, _⟩ := I.list (.inl r)
      exact SeqAt.RcNeAt.list_none pl.isList (by omega) _ _ _ _ (fin s q I)
    · cases h
      obtain ⟨a, vs, rfl, r, _⟩ := Rep.tup_iff.mp rd
      rw [Rep.non_iff.mp re] at ry; cases rx; cases ry
      obtain ⟨its, _, pl, _⟩ := I.tuple (.of r)
      exact SeqAt.RcNeAt.tuple_none pl (by omega) _ _ _ _ (fin s q I)
    · rename_i n1 n2 n3 n4
      clear n1 n2 n3 n4
      cases d <;> cases e <;> first | (exact absurd ⟨rfl, rfl⟩ hf) | (have h' : (none : Option Bool) = some b := h; cases h'; done) | skip
      · rename_i xs ys
        obtain ⟨a, vs, rfl, r1, q1⟩ := Rep.lst_iff.mp rd
        obtain ⟨a', ws, rfl, r2, q2⟩ := Rep.lst_iff.mp re
        cases rx; cases ry
        obtain ⟨its, rv, pl, _⟩ := I.list (.inl r1)
        obtain ⟨its2, rv2, pl2, _⟩ := I.list (.inl r2)
        have l1 := q1.length; have l2 := q2.length; have l3 := rv.length; have l4 := rv2.length
        simp only [eqN] at h
        split at h
        · rename_i hl
          obtain ⟨G, hE, hb⟩ := eqN_key h
          rw [← hl, Nat.min_self, l1, l3, show its.length = its.toArray.size by simp] at hb
          refine SeqAt.RcNeAt.lists (e := G) pl.isList pl2.isList (by simp; omega) (by omega) (fun j h1 h2 => ?_) _ _ _ _ (by rw [hb]; exact fin s q I)
          have h1' : j < its.length := by simpa using h1
          have h2' : j < its2.length := by simpa using h2
          obtain ⟨v1, hv1, r1⟩ := vget rv (List.getElem?_eq_getElem h1')
          obtain ⟨v2, hv2, r2⟩ := vget rv2 (List.getElem?_eq_getElem h2')
          obtain ⟨d1, hd1, p1⟩ := q1.getV hv1
          obtain ⟨d2, hd2, p2⟩ := q2.getV hv2
          exact eqAtD I 39 d1 d2 v1 v2 _ _ _ X.A.in1 (hE j d1 d2 hd1 hd2) (by show X.A.units + 1 + 39 < cLine; omega) p1 p2 (by simpa using r1) (by simpa using r2)
        · cases h
          exact SeqAt.RcNeAt.lists_lengths pl.isList pl2.isList (by simp; omega) (by omega) _ _ _ _ (fin s q I)
      · rename_i xs ys
        obtain ⟨a, vs, rfl, r1, q1⟩ := Rep.tup_iff.mp rd
        obtain ⟨a', ws, rfl, r2, q2⟩ := Rep.tup_iff.mp re
        cases rx; cases ry
        obtain ⟨its, rv, pl, _⟩ := I.tuple (.of r1)
        obtain ⟨its2, rv2, pl2, _⟩ := I.tuple (.of r2)
        have l1 := q1.length; have l2 := q2.length; have l3 := rv.length; have l4 := rv2.length
        simp only [eqN, Option.map_eq_some_iff] at h
        obtain ⟨c0, h, hb0⟩ := h
        obtain ⟨G, hE, hb⟩ := eqN_key h
        have eb : b = ((List.range (min its.toArray.size its2.toArray.size)).all G && its.toArray.size == its2.toArray.size) := by
          rw [← hb0, ← hb]
          simp only [List.size_toArray, ← l3, ← l4, ← l1, ← l2]
        refine SeqAt.RcNeAt.tuples (e := G) pl pl2 (by omega) (fun j h1 h2 => ?_) _ _ _ _ (by rw [← eb]; exact fin s q I)
        have h1' : j < its.length := by simpa using h1
        have h2' : j < its2.length := by simpa using h2
        obtain ⟨v1, hv1, r1⟩ := vget rv (List.getElem?_eq_getElem h1')
        obtain ⟨v2, hv2, r2⟩ := vget rv2 (List.getElem?_eq_getElem h2')
        obtain ⟨d1, hd1, p1⟩ := q1.getV hv1
        obtain ⟨d2, hd2, p2⟩ := q2.getV hv2
        exact eqAtD I 39 d1 d2 v1 v2 _ _ _ X.A.in1 (hE j d1 d2 hd1 hd2) (by show X.A.units + 1 + 39 < cLine; omega) p1 p2 (by simpa using r1) (by simpa using r2)
theorem r2_neX : R2D rNeX neC := fun P H x y d1 d2 d Q hP r1 r2 hg hq => by
  unfold neC at hg
  cases h : neT d1 d2 with
  | none => rw [h] at hg; cases hg
  | some b =>
    rw [h] at hg; cases hg
    exact ⟨d1, d2, b, h, Rep.mono (Keeps.of_same same_hide_sub) _ _ r1, Rep.mono (Keeps.of_same same_hide_sub) _ _ r2, hq _ H (Same.refl _) (Rep.bl_iff.mpr rfl)⟩
theorem noExc_neC : NoExc neC := fun _ _ _ => noExc_optB
theorem flats_neC : Flats neC := fun _ _ _ h => flats_optB h
abbrev dNe (f g : ER) : ER := dOp2 neC f g
theorem de_ne (hu : X.A.units + 64 < cLine) (ha : DE X W m a fa) (hb : DE X W m b fb) : DE X W .sh (.Compare a [.NotEq] [b] pos) (dNe fa fb) := de_flat (flats_op2 flats_neC) (de_cmp2 (op_neX hu) r2_neX noExc_neC ha hb (nomark _))
theorem dt_ne (hu : X.A.units + 64 < cLine) (ha : DE X W m a fa) (hb : DE X W m b fb) : DT X W (.Compare a [.NotEq] [b] pos) (dTst (dNe fa fb)) := dt_cmp2 (op_neX hu) r2_neX noExc_neC ha hb (nomark _)

/-- is None -/
def isND : D → D → Res D := fun d e => match e with | .non => .ok (.bl (match d with | .non => true | _ => false)) | _ => .stuck
def isNND : D → D → Res D := fun d e => match e with | .non => .ok (.bl (match d with | .non => false | _ => true)) | _ => .stuck
theorem rep_non {H : Hp} {d : D} {v : V} (r : Rep H d v) : decide (v = .non) = (match d with | .non => true | _ => false) := by
  cases d <;> rw [Rep] at r <;> first | (rw [r]; rfl) | (obtain ⟨a, _, rfl, _⟩ := r; rfl)
theorem r2_isN : R2D (fun x y H Q => y = .non ∧ Q (.bl (decide (x = .non))) H) isND := fun P H x y d1 d2 d Q hP r1 r2 hg hq => by
  unfold isND at hg
  split at hg <;> cases hg
  exact ⟨Rep.non_iff.mp r2, hq _ H (Same.refl _) (Rep.bl_iff.mpr (by rw [rep_non r1]; cases d1 <;> rfl))⟩
theorem r2_isNN : R2D (fun x y H Q => y = .non ∧ Q (.bl (!decide (x = .non))) H) isNND := fun P H x y d1 d2 d Q hP r1 r2 hg hq => by
  unfold isNND at hg
  split at hg <;> cases hg
  exact ⟨Rep.non_iff.mp r2, hq _ H (Same.refl _) (Rep.bl_iff.mpr (by rw [rep_non r1]; cases d1 <;> rfl))⟩
theorem noExc_isN : NoExc isND := fun d1 d2 e h => by unfold isND at h; split at h <;> cases h
theorem noExc_isNN : NoExc isNND := fun d1 d2 e h => by unfold isNND at h; split at h <;> cases h
theorem flats_isN : Flats isND := fun d1 d2 e h => by unfold isND at h; split at h <;> cases h; rfl
theorem flats_isNN : Flats isNND := fun d1 d2 e h => by unfold isNND at h; split at h <;> cases h; rfl
theorem dt_isN {j p2} (ha : DE X W m a fa) : DT X W (.Compare a [.Is] [.Constant .none j p2] pos) (dTst (dOp2 isND fa (dC .non))) := by
  cases m with
  | bo => exact dt_cmp2 op_isN r2_isN noExc_isN ha (de_bo de_non) (nomark _)
  | sh => exact dt_cmp2 op_isN r2_isN noExc_isN ha de_non (nomark _)
  | fr => exact dt_cmp2 op_isN r2_isN noExc_isN (de_sh ha) de_non (nomark _)
theorem dt_isNN {j p2} (ha : DE X W m a fa) : DT X W (.Compare a [.IsNot] [.Constant .none j p2] pos) (dTst (dOp2 isNND fa (dC .non))) := by
  cases m with
  | bo => exact dt_cmp2 op_notN r2_isNN noExc_isNN ha (de_bo de_non) (nomark _)
  | sh => exact dt_cmp2 op_notN r2_isNN noExc_isNN ha de_non (nomark _)
  | fr => exact dt_cmp2 op_notN r2_isNN noExc_isNN (de_sh ha) de_non (nomark _)
theorem de_isN {j p2} (ha : DE X W m a fa) : DE X W .sh (.Compare a [.Is] [.Constant .none j p2] pos) (dOp2 isND fa (dC .non)) := by
  cases m with
  | bo => exact de_flat (flats_op2 flats_isN) (de_cmp2 op_isN r2_isN noExc_isN ha (de_bo de_non) (nomark _))
  | sh => exact de_flat (flats_op2 flats_isN) (de_cmp2 op_isN r2_isN noExc_isN ha de_non (nomark _))
  | fr => exact de_flat (flats_op2 flats_isN) (de_cmp2 op_isN r2_isN noExc_isN (de_sh ha) de_non (nomark _))
end Dx
end
section
namespace Dx
open PySem L2 PyProof.Rows

variable {X : Cx} {W : WX} {m : Md} {a b c : Expr} {fa fb fc : ER} {pos : Pos}
variable {S : Addr → Prop} {M : Gh} {F : Nat → List Addr} {H0 H H' : Hp} {σ : L2.St} {δ : Env} {r : R2} {g : D → D → Res D}

/-! arguments -/
abbrev LR := Env → Res (List D)
def OutA (mg : Str → Option Value) (W : WX) (σ : L2.St) (H : Hp) (S : Addr → Prop) (F : Nat → List Addr) (m : Md) (r : Res (List D)) (Q : List V → Hp → Prop) : Prop := match r with
  | .ok ds => ∀ vs H', Same H H' → Reps (hide (Pm m S F) H') ds vs → Q vs H'
  | .exc e => ∀ cls dx H', Same H H' → ExcAt mg S H' e cls dx → W cls dx σ H'
  | .stuck => False
def tA (mg : Str → Option Value) (W : WX) (m : Md) (f : LR) : TA := fun σ H Q => ∃ H0 S M δ F, EOk H0 S M σ H δ F ∧ OutA mg W σ H S F m (f δ) Q
def DA (X : Cx) (W : WX) (m : Md) (es : List Expr) (f : LR) : Prop := PA X es (tA X.mg W m f)
theorem pa_weaken {es : List Expr} {t t' : TA} (h : PA X es t) (hw : ∀ σ H Q, t' σ H Q → t σ H Q) : PA X es t' := ⟨fun p pins s σ H Q I q => h.run p pins s σ H Q I (hw σ H Q q)⟩
def dNil : LR := fun _ => .ok []
def dCons (f : ER) (fs : LR) : LR := fun δ => (f δ).bind fun x => (fs δ).bind fun xs => .ok (x :: xs)
theorem OutA.mono {mg : Str → Option Value} {H1 : Hp} {r : Res (List D)} {Q : List V → Hp → Prop} (s : Same H H1) (h : OutA mg W σ H S F m r Q) : OutA mg W σ H1 S F m r Q := by
  cases r with
  | ok ds => exact fun vs H' s' q => h vs H' (s.trans s') q
  | exc e => exact fun cls dx H' s' q => h cls dx H' (s.trans s') q
  | stuck => exact h
/-- binding of any two kinds -/
theorem Out.bindA {mg : Str → Option Value} {m' : Md} {r : Res D} {k : D → Res (List D)} {Q : List V → Hp → Prop} {P : VK} (h : OutA mg W σ H S F m' (r.bind k) Q)
    (hp : ∀ d v H1, Same H H1 → ResOk S F H H1 m d v → OutA mg W σ H1 S F m' (k d) Q → P v H1) : Out mg W σ H S F m r P := by
  cases r with
  | ok d => exact fun v H1 s q => hp d v H1 s q (OutA.mono s h)
  | exc e => exact h
  | stuck => exact h
theorem OutA.bindA {mg : Str → Option Value} {m' : Md} {r : Res (List D)} {k : List D → Res (List D)} {Q : List V → Hp → Prop} {P : List V → Hp → Prop} (h : OutA mg W σ H S F m' (r.bind k) Q)
    (hp : ∀ d v H1, Same H H1 → Reps (hide (Pm m S F) H1) d v → OutA mg W σ H1 S F m' (k d) Q → P v H1) : OutA mg W σ H S F m r P := by
  cases r with
  | ok d => exact fun v H1 s q => hp d v H1 s q (OutA.mono s h)
  | exc e => exact h
  | stuck => exact h
theorem OutA.bind {mg : Str → Option Value} {m' : Md} {r : Res (List D)} {k : List D → Res D} {Q : VK} {P : List V → Hp → Prop} (h : Out mg W σ H S F m' (r.bind k) Q)
    (hp : ∀ d v H1, Same H H1 → Reps (hide (Pm m S F) H1) d v → Out mg W σ H1 S F m' (k d) Q → P v H1) : OutA mg W σ H S F m r P := by
  cases r with
  | ok d => exact fun v H1 s q => hp d v H1 s q (Out.mono s h)
  | exc e => exact h
  | stuck => exact h
theorem da_nil : DA X W m [] dNil := pa_weaken pa_nil fun σ H Q ⟨H0, S, M, δ, F, E, q⟩ => q [] H (Same.refl _) .nil
theorem da_cons {e : Expr} {es : List Expr} {f : ER} {fs : LR} (ha : DE X W m e f) (hr : DA X W m es fs) (hs : starEach (e :: es) X.env = (false, eval e X.env) :: starEach es X.env := by rfl) : DA X W m (e :: es) (dCons f fs) :=
  pa_weaken (pa_cons ha hr hs) fun σ H Q ⟨H0, S, M, δ, F, E, q⟩ => ⟨H0, S, M, δ, F, E, Out.bindA q fun d v H1 s1 r1 o1 =>
    ⟨H0, S, M, δ, F, E.grow s1, OutA.bindA o1 fun ds vs H2 s2 r2 o2 => o2 (v :: vs) H2 (Same.refl _) (.cons ((r1.later s2).rep E) r2)⟩⟩

/-! displays -/
def dLst (fs : LR) : ER := fun δ => (fs δ).bind fun xs => if xs.length ≤ 1000 then .ok (.lst xs) else .stuck
def dTup (fs : LR) : ER := fun δ => (fs δ).bind fun xs => if xs.length ≤ 1000 then .ok (.tup xs) else .stuck
theorem le_line {n : Nat} (h : n ≤ 1000) : n ≤ sizeLine := Nat.le_of_lt (small1000 h)
theorem de_lst {es : List Expr} {fs : LR} (h : DA X W m es fs) : DE X W m.new (.List es pos) (dLst fs) :=
  pe_weaken (pe_lst h) fun σ H Q ⟨H0, S, M, δ, F, E, q⟩ => ⟨H0, S, M, δ, F, E, OutA.bind q fun ds vs H1 s1 r1 o1 => by
    have l := r1.length
    split at o1
    · exact ⟨le_line (by omega), fun p hp => o1 _ _ (same_upd hp) (res_lst (E.grow s1) hp r1)⟩
    · exact o1.elim⟩
theorem de_tup {es : List Expr} {fs : LR} {x1} (h : DA X W m es fs) : DE X W m.res (.Tuple es x1 pos) (dTup fs) :=
  pe_weaken (pe_tup h) fun σ H Q ⟨H0, S, M, δ, F, E, q⟩ => ⟨H0, S, M, δ, F, E, OutA.bind q fun ds vs H1 s1 r1 o1 => by
    have l := r1.length
    split at o1
    · exact ⟨le_line (by omega), fun p hp => o1 _ _ (same_upd hp) (res_tup (E.grow s1) hp r1)⟩
    · exact o1.elim⟩
theorem de_dic0 : DE X W .fr (.Dict [] [] pos) (dC (.dic [])) :=
  pe_weaken pe_dnewK fun σ H Q ⟨H0, S, M, δ, F, E, q⟩ => fun p hp => q _ _ (same_upd hp) (res_dic E hp (by rw [RepK]))
theorem de_dct0 : DE X W .fr (.Dict [] [] pos) (dC (.dct [])) :=
  pe_weaken pe_dnewT fun σ H Q ⟨H0, S, M, δ, F, E, q⟩ => fun p hp => q _ _ (same_upd hp) (res_dct E hp (by rw [RepT]))

/-! keys -/
def keyOf : D → Option Key
  | .int i => some (.inl i)
  | .str x => some (.inr x)
  | _ => none
def keysOf : List D → Option (List Key)
  | [] => some []
  | d :: ds => (keyOf d).bind fun k => (keysOf ds).bind fun ks => some (k :: ks)
def tkeyOf : D → Option (List Key)
  | .tup ds => keysOf ds
  | _ => none
theorem keyOf_rep {H : Hp} {d : D} {k : Key} {v : V} (h : keyOf d = some k) (r : Rep H d v) : v = kV k := by
  cases d <;> cases h
  · exact Rep.int_iff.mp r
  · exact Rep.str_iff.mp r
theorem keysOf_rep {H : Hp} : ∀ {ds : List D} {ks : List Key} {vs : List V}, keysOf ds = some ks → Reps H ds vs → vs = ks.map kV
  | [], ks, vs, h, r => by cases h; exact Reps.nil_iff.mp r
  | d :: ds, ks, vs, h, r => by
    simp only [keysOf, Option.bind_eq_some_iff] at h
    obtain ⟨k, h1, ks', h2, h3⟩ := h
    cases h3
    obtain ⟨v, vs', rfl, p, q⟩ := Reps.cons_iff.mp r
    rw [keyOf_rep h1 p, keysOf_rep h2 q]; rfl
theorem tkeyOf_rep {H : Hp} {d : D} {ks : List Key} {v : V} (h : tkeyOf d = some ks) (r : Rep H d v) : ∃ b, v = .ref b ∧ H b = some (.tup (ks.map kV)) := by
  cases d <;> first | (cases h; done) | skip
  obtain ⟨b, vs, rfl, e, q⟩ := Rep.tup_iff.mp r
  rw [keysOf_rep h q] at e
  exact ⟨b, rfl, e⟩
theorem RepT.look {H : Hp} : ∀ {xs : List (List Key × D)} {ws : List (List Key × V)} (k : List Key), RepT H xs ws → (lookK xs k = none ∧ valV ws k = none) ∨ ∃ d v, lookK xs k = some d ∧ valV ws k = some v ∧ Rep H d v
  | [], ws, k, h => by rw [RepT] at h; subst h; exact .inl ⟨rfl, rfl⟩
  | (k0, d) :: r, ws, k, h => by
    rw [RepT] at h
    obtain ⟨v, r', rfl, p, q⟩ := h
    by_cases e : k0 = k
    · subst e
      exact .inr ⟨d, v, by rw [lookK_cons, if_pos rfl], valV_pos rfl, p⟩
    · rw [lookK_cons, if_neg e, valV_neg (by exact e)]
      exact RepT.look k q
theorem RepT.keys {H : Hp} : ∀ {xs : List (List Key × D)} {ws : List (List Key × V)}, RepT H xs ws → xs.map (·.1) = ws.map (·.1)
  | [], ws, h => by rw [RepT] at h; subst h; rfl
  | (k0, d) :: r, ws, h => by
    rw [RepT] at h
    obtain ⟨v, r', rfl, p, q⟩ := h
    simp [RepT.keys q]
theorem RepT.length {H : Hp} {xs : List (List Key × D)} {ws : List (List Key × V)} (h : RepT H xs ws) : xs.length = ws.length := by
  have := congrArg List.length h.keys
  simpa using this
/-- a dict asked -/
def askD : D → D → Option (Option D)
  | .dic kvs, k => (keyOf k).map fun k => lookK kvs k
  | .dct kvs, k => (tkeyOf k).map fun k => lookK kvs k
  | _, _ => none
theorem askD_rep {P : Addr → Prop} {d k : D} {o : Option D} {x y : V} (h : askD d k = some o) (r1 : Rep (hide P H) d x) (r2 : Rep (hide P H) k y) :
    ∃ a o', x = .ref a ∧ DGet H a y o' ∧ ((o = none ∧ o' = none) ∨ ∃ e v, o = some e ∧ o' = some v ∧ Rep (hide P H) e v) := by
  cases d <;> first | (cases h; done) | skip
  · rename_i kvs
    obtain ⟨a, ws, rfl, e, q⟩ := Rep.dic_iff.mp r1
    simp only [askD, Option.map_eq_some_iff] at h
    obtain ⟨kk, h1, h2⟩ := h
    have ey := keyOf_rep h1 r2
    refine ⟨a, valV ws kk, rfl, .inl ⟨ws, kk, rd_hide e, ey, rfl⟩, ?_⟩
    rcases RepK.look kk q with ⟨z1, z2⟩ | ⟨d, v, z1, z2, z3⟩
    · exact .inl ⟨by rw [← h2, z1], z2⟩
    · exact .inr ⟨d, v, by rw [← h2, z1], z2, z3⟩
  · rename_i kvs
    obtain ⟨a, ws, rfl, e, q⟩ := Rep.dct_iff.mp r1
    simp only [askD, Option.map_eq_some_iff] at h
    obtain ⟨kk, h1, h2⟩ := h
    obtain ⟨b, rfl, eb⟩ := tkeyOf_rep h1 r2
    refine ⟨a, valV ws kk, rfl, .inr ⟨ws, kk, b, rd_hide e, rfl, (hide_some eb).2, rfl⟩, ?_⟩
    rcases RepT.look kk q with ⟨z1, z2⟩ | ⟨d, v, z1, z2, z3⟩
    · exact .inl ⟨by rw [← h2, z1], z2⟩
    · exact .inr ⟨d, v, by rw [← h2, z1], z2, z3⟩

/-! o[i] -/
def ixD : D → D → Res D
  | .lst xs, .int i => match atI xs i with | some d => .ok d | none => .stuck
  | .tup xs, .int i => match atI xs i with | some d => .ok d | none => .stuck
  | .str z, .int i => if z.length ≤ sizeLine then match atI z.cps.toList i with | some c => .ok (.str ⟨#[c]⟩) | none => .stuck else .stuck
  | d, k => match askD d k with | some (some e) => .ok e | _ => .stuck
theorem noExc_ixD : NoExc ixD := fun d1 d2 e h => by
  unfold ixD at h
  split at h <;> first | (split at h <;> first | (cases h; done) | (split at h <;> cases h)) | (cases h)
def rIxAny (X : Cx) : R2 := fun x y H Q => rIx X.K x y H Q ∨ ∃ a v, x = .ref a ∧ DGet H a y (some v) ∧ Q v H
theorem ix_dict (hu : X.A.units + 1 < cLine) : IxR X (fun x y H Q => ∃ a v, x = .ref a ∧ DGet H a y (some v) ∧ Q v H) := by
  intro value slice pins s σ H x y v u Q I rx ry ⟨a, w, ex, g, q⟩ hs
  subst ex
  cases rx
  exact tail_any (dict_typeIs I g) PySem.F.slot_dict_getitem.lookup (d_getItem hu I g ry fun w' s3 I3 rw' => ⟨w, H, I3, rw', q⟩) hs
theorem ix_any (hu : X.A.units + 1 < cLine) : IxR X (rIxAny X) := ix_seq.or (ix_dict hu)
theorem atI_rep {H : Hp} {ds : List D} {vs : List V} {i : Int} {d : D} (q : Reps H ds vs) (h : atI ds i = some d) : ∃ v, atI vs i = some v ∧ Rep H d v := by
  unfold atI at h ⊢
  rw [← q.length]
  cases hj : ixN ds.length i with
  | none => rw [hj] at h; cases h
  | some j => rw [hj] at h; exact q.get h
theorem r2_ix : R2D (rIxAny X) ixD := fun P H x y d1 d2 d Q hP r1 r2 hg hq => by
  have gen : ∀ o, askD d1 d2 = some (some o) → o = d → rIxAny X x y H Q := fun o ho e => by
    subst e
    obtain ⟨a, o', rfl, g, h⟩ := askD_rep ho r1 r2
    rcases h with ⟨z, _⟩ | ⟨e, v, z1, z2, z3⟩
    · cases z
    · cases z1; subst z2
      exact .inr ⟨a, v, rfl, g, hq _ H (Same.refl _) z3⟩
  unfold ixD at hg
  split at hg
  · rename_i xs i
    obtain ⟨a1, vs, rfl, h1, q1⟩ := Rep.lst_iff.mp r1
    split at hg <;> cases hg
    obtain ⟨v, hv, rv⟩ := atI_rep q1 (by assumption)
    exact .inl (.inl ⟨a1, vs, i, v, rfl, Rep.int_iff.mp r2, .inl (rd_hide h1), hv, hq _ H (Same.refl _) rv⟩)
  · rename_i xs i
    obtain ⟨a1, vs, rfl, h1, q1⟩ := Rep.tup_iff.mp r1
    split at hg <;> cases hg
    obtain ⟨v, hv, rv⟩ := atI_rep q1 (by assumption)
    exact .inl (.inr (.inl ⟨a1, vs, i, v, rfl, Rep.int_iff.mp r2, .of (hide_some h1).2, hv, hq _ H (Same.refl _) rv⟩))
  · rename_i z i
    split at hg
    · split at hg <;> cases hg
      exact .inl (.inr (.inr ⟨z, i, _, Rep.str_iff.mp r1, Rep.int_iff.mp r2, by assumption, by assumption, hq _ H (Same.refl _) (Rep.str_iff.mpr rfl)⟩))
    · cases hg
  · split at hg <;> cases hg
    exact gen _ (by assumption) rfl
abbrev dIx (f g : ER) : ER := dOp2 ixD f g
theorem de_ix (hu : X.A.units + 64 < cLine) (ha : DE X W m a fa) (hb : DE X W m b fb) (hs : PlainIx b := by exact fun _ _ => rfl) : DE X W m.res (.Subscript a b pos) (dIx fa fb) :=
  pe_weaken (pe_ix (ix_any (by omega)) ha hb hs) fun σ H Q ⟨H0, S, M, δ, F, E, q⟩ => tOp_ok r2_ix noExc_ixD E q fun _ _ h => h

/-! in -/
def strIn (x z : Str) : Bool := match x.cps.toList with
  | [c] => decide (c ∈ z.cps.toList)
  | _ => !(Builtin.Str.occurrences z x 0 z.length 1).isEmpty
def anyN (f : D → Option Bool) : List D → Option Bool
  | [] => some false
  | y :: r => (f y).bind fun a => (anyN f r).bind fun b => some (a || b)
def inB : D → D → Option Bool
  | .str x, .str z => some (strIn x z)
  | x, .lst ys => anyN (fun y => eqN 30 y x) ys
  | x, .tup ys => anyN (fun y => eqN 30 y x) ys
  | x, d => (askD d x).map Option.isSome
def inD (neg : Bool) : D → D → Res D := fun x d => optB (inB x d) fun b => if neg then !b else b
theorem anyN_def {f : D → Option Bool} : ∀ {ys : List D} {b : Bool}, anyN f ys = some b → ∀ y ∈ ys, ∃ c, f y = some c
  | [], b, h, y, hy => by cases hy
  | y0 :: r, b, h, y, hy => by
    simp only [anyN, Option.bind_eq_some_iff] at h
    obtain ⟨a, h1, c, h2, _⟩ := h
    rcases List.mem_cons.mp hy with hy | hy
    · subst hy; exact ⟨a, h1⟩
    · exact anyN_def h2 y hy
theorem anyN_any {f : D → Option Bool} {e : Value → Bool} {H : Hp} : ∀ {ys : List D} {vs : List V} {us : List Value} {b : Bool}, anyN f ys = some b → Reps H ys vs → Vals vs us → (∀ y v u, y ∈ ys → Rep H y v → RelV v u → f y = some (e u)) → us.any e = b
  | [], vs, us, b, h, r, rv, he => by
    rw [Reps.nil_iff] at r; subst r; cases rv
    simp [anyN] at h; subst h; rfl
  | y :: ys, vs, us, b, h, r, rv, he => by
    obtain ⟨v, vs', rfl, p, q⟩ := Reps.cons_iff.mp r
    cases rv with
    | cons r1 r2 =>
      simp only [anyN, Option.bind_eq_some_iff] at h
      obtain ⟨a, h1, c, h2, h3⟩ := h
      cases h3
      rw [List.any_cons, anyN_any h2 q r2 fun y v u hy => he y v u (List.mem_cons_of_mem _ hy)]
      have := he y v _ List.mem_cons_self p r1
      rw [h1] at this
      injection this with this
      rw [this]
def rInSeq (X : Cx) (neg : Bool) : R2 := fun x y H Q => ∃ p d ys b, y = .ref p ∧ (Rd H p (.lst (ys : List V)) ∨ H p = some (.tup ys)) ∧ Rep H d x ∧ (∃ ds, Reps H ds ys ∧ anyN (fun y => eqN 30 y d) ds = some b) ∧ Q (.bl (if neg then !b else b)) H
section
variable {pins : List (Addr × Obj)} {s : Shared}
theorem in_items (I : L2.Inv X pins σ H s) {d : D} {x : V} {u : Value} {ds : List D} {ys : List V} {its : List Value} {b : Bool} {A : Around} (hu : A.units + 40 < cLine) (rd : Rep H d x) (rx : RelV x u) (q : Reps H ds ys) (rv : Vals ys its) (h : anyN (fun y => eqN 30 y d) ds = some b) :
    ∃ e : Value → Bool, (∀ w ∈ its, SeqAt.EqAt A s w u (e w)) ∧ its.any e = b := by
  classical
  let e : Value → Bool := fun w => decide (∃ y v, y ∈ ds ∧ Rep H y v ∧ RelV v w ∧ eqN 30 y d = some true)
  have he : ∀ y v w, y ∈ ds → Rep H y v → RelV v w → eqN 30 y d = some (e w) := fun y v w hy p r1 => by
    obtain ⟨c, hc⟩ := anyN_def h y hy
    rw [hc]
    cases c with
    | true =>
      have : e w = true := decide_eq_true ⟨y, v, hy, p, r1, hc⟩
      rw [this]
    | false =>
      have : e w = false := decide_eq_false fun ⟨y', v', hy', p', r', hc'⟩ => by
        have := RelV.inj r1 r'
        subst this
        have := Rep.inj _ _ _ p p'
        subst this
        rw [hc] at hc'; cases hc'
      rw [this]
  refine ⟨e, fun w hw => ?_, anyN_any h q rv he⟩
  obtain ⟨j, hj⟩ := List.getElem?_of_mem hw
  obtain ⟨v, hv, r1⟩ := vget rv hj
  obtain ⟨y, hy, p⟩ := q.getV hv
  exact eqAtD I 30 y d v x w u _ A (he y v w (List.mem_of_getElem? hy) p r1) (by omega) p rd r1 rx
end
theorem op_inSeq (hu : X.A.units + 64 < cLine) : OpR X (compareOp .In) (rInSeq X false) := by
  intro pins s σ H x y v u Q I rx ry ⟨p, d, ys, b, ey, hp, rd, ⟨ds, qs, h⟩, q⟩
  subst ey; cases ry
  rcases hp with hp | hp
  · obtain ⟨its, rv, pl, _⟩ := I.list (.inl hp)
    obtain ⟨e, he, hb⟩ := in_items (A := X.A.in1) I (by show X.A.units + 1 + 40 < cLine; omega) rd rx qs rv h
    refine SeqAt.in_listAt e pl.isList (fun w hw => he w (by simpa using hw)) ⟨.bl _, H, I, rfl, ?_⟩
    rw [show its.toArray.any e = its.any e by simp, hb]; exact q
  · obtain ⟨its, rv, pl, _⟩ := I.tuple (.of hp)
    obtain ⟨e, he, hb⟩ := in_items (A := X.A.in1) I (by show X.A.units + 1 + 40 < cLine; omega) rd rx qs rv h
    refine SeqAt.in_tupleAt e pl (fun w hw => he w (by simpa using hw)) ⟨.bl _, H, I, rfl, ?_⟩
    rw [show its.toArray.any e = its.any e by simp, hb]; exact q
theorem op_notInSeq (hu : X.A.units + 64 < cLine) : OpR X (compareOp .NotIn) (rInSeq X true) := by
  intro pins s σ H x y v u Q I rx ry ⟨p, d, ys, b, ey, hp, rd, ⟨ds, qs, h⟩, q⟩
  subst ey; cases ry
  rcases hp with hp | hp
  · obtain ⟨its, rv, pl, _⟩ := I.list (.inl hp)
    obtain ⟨e, he, hb⟩ := in_items (A := X.A.in1) I (by show X.A.units + 1 + 40 < cLine; omega) rd rx qs rv h
    refine SeqAt.notIn_listAt e pl.isList (fun w hw => he w (by simpa using hw)) ⟨.bl _, H, I, rfl, ?_⟩
    rw [show its.toArray.any e = its.any e by simp, hb]; exact q
  · obtain ⟨its, rv, pl, _⟩ := I.tuple (.of hp)
    obtain ⟨e, he, hb⟩ := in_items (A := X.A.in1) I (by show X.A.units + 1 + 40 < cLine; omega) rd rx qs rv h
    refine SeqAt.notIn_tupleAt e pl (fun w hw => he w (by simpa using hw)) ⟨.bl _, H, I, rfl, ?_⟩
    rw [show its.toArray.any e = its.any e by simp, hb]; exact q
def rInDic (neg : Bool) : R2 := fun x y H Q => ∃ a o, y = .ref a ∧ DGet H a x o ∧ Q (.bl (if neg then !o.isSome else o.isSome)) H
theorem op_inDic (hu : X.A.units + 64 < cLine) : OpR X (compareOp .In) (rInDic false) := by
  intro pins s σ H x y v u Q I rx ry ⟨a, o, ey, g, q⟩
  subst ey; cases ry
  exact d_in (by omega) I g rx fun s' I' => ⟨.bl _, H, I', rfl, q⟩
theorem op_notInDic (hu : X.A.units + 64 < cLine) : OpR X (compareOp .NotIn) (rInDic true) := by
  intro pins s σ H x y v u Q I rx ry ⟨a, o, ey, g, q⟩
  subst ey; cases ry
  exact d_notIn (by omega) I g rx fun s' I' => ⟨.bl _, H, I', rfl, q⟩
def rInStr (neg : Bool) : R2 := fun x y H Q => ∃ i j, x = .str i ∧ y = .str j ∧ Q (.bl (if neg then !strIn i j else strIn i j)) H
theorem str_one {x : Str} {c : Nat} (h : x.cps.toList = [c]) : x = ⟨#[c]⟩ := by
  cases x with
  | mk a =>
    congr 1
    exact Array.toList_inj.mp (by simpa using h)
theorem strIn_cases (x z : Str) : (∃ c, x = ⟨#[c]⟩ ∧ strIn x z = decide (c ∈ z.cps.toList)) ∨ strIn x z = !(Builtin.Str.occurrences z x 0 z.length 1).isEmpty := by
  unfold strIn
  split
  · rename_i c hc
    exact .inl ⟨c, str_one hc, rfl⟩
  · exact .inr rfl
theorem op_inStr : OpR X (compareOp .In) (rInStr false) := by
  intro pins s σ H x y v u Q I rx ry ⟨i, j, ex, ey, q⟩
  have q : Q (.bl (strIn i j)) H := q
  rcases strIn_cases i j with ⟨c, hc, e⟩ | e
  · rw [e] at q
    exact op_in_sign pins s σ H x y v u Q I rx ry ⟨c, j, by rw [ex, hc], ey, q⟩
  · rw [e] at q
    exact op_in_str pins s σ H x y v u Q I rx ry ⟨i, j, ex, ey, q⟩
theorem op_notInStr : OpR X (compareOp .NotIn) (rInStr true) := by
  intro pins s σ H x y v u Q I rx ry ⟨i, j, ex, ey, q⟩
  have q : Q (.bl (!strIn i j)) H := q
  rcases strIn_cases i j with ⟨c, hc, e⟩ | e
  · rw [e] at q
    exact op_notIn_sign pins s σ H x y v u Q I rx ry ⟨c, j, by rw [ex, hc], ey, q⟩
  · rw [e] at q
    exact op_notin_str pins s σ H x y v u Q I rx ry ⟨i, j, ex, ey, q⟩
def rInAny (X : Cx) (neg : Bool) : R2 := fun x y H Q => rInStr neg x y H Q ∨ rInSeq X neg x y H Q ∨ rInDic neg x y H Q
theorem op_inAny (hu : X.A.units + 64 < cLine) : OpR X (compareOp .In) (rInAny X false) := OpR.or op_inStr (OpR.or (op_inSeq hu) (op_inDic hu))
theorem op_notInAny (hu : X.A.units + 64 < cLine) : OpR X (compareOp .NotIn) (rInAny X true) := OpR.or op_notInStr (OpR.or (op_notInSeq hu) (op_notInDic hu))
theorem r2_in {neg : Bool} : R2D (rInAny X neg) (inD neg) := fun P H x y d1 d2 d Q hP r1 r2 hg hq => by
  have kp : Keeps (hide P H) H := Keeps.of_same same_hide_sub
  unfold inD at hg
  cases h : inB d1 d2 with
  | none => rw [h] at hg; cases hg
  | some bb =>
    rw [h] at hg; cases hg
    have fin : Q (.bl (if neg then !bb else bb)) H := hq _ H (Same.refl _) (Rep.bl_iff.mpr rfl)
    have gen : ∀ o, askD d2 d1 = some o → o.isSome = bb → rInAny X neg x y H Q := fun o ho e => by
      obtain ⟨a, o', rfl, g, hh⟩ := askD_rep ho r2 r1
      refine .inr (.inr ⟨a, o', rfl, g, ?_⟩)
      have : o'.isSome = bb := by
        rw [← e]
        rcases hh with ⟨z, z'⟩ | ⟨e, v, z1, z2, z3⟩
        · rw [z, z']; rfl
        · rw [z1, z2]; rfl
      rw [this]; exact fin
    unfold inB at h
    split at h
    · cases h
      exact .inl ⟨_, _, Rep.str_iff.mp r1, Rep.str_iff.mp r2, fin⟩
    · obtain ⟨a2, ws, rfl, h2, q2⟩ := Rep.lst_iff.mp r2
      exact .inr (.inl ⟨a2, _, ws, bb, rfl, .inl (rd_hide h2), Rep.mono kp _ _ r1, ⟨_, Reps.mono kp _ _ q2, h⟩, fin⟩)
    · obtain ⟨a2, ws, rfl, h2, q2⟩ := Rep.tup_iff.mp r2
      exact .inr (.inl ⟨a2, _, ws, bb, rfl, .inr (hide_some h2).2, Rep.mono kp _ _ r1, ⟨_, Reps.mono kp _ _ q2, h⟩, fin⟩)
    · simp only [Option.map_eq_some_iff] at h
      obtain ⟨o, ho, e⟩ := h
      exact gen o ho e
theorem noExc_inD {neg : Bool} : NoExc (inD neg) := fun _ _ _ => noExc_optB
theorem flats_inD {neg : Bool} : Flats (inD neg) := fun _ _ _ h => flats_optB h
abbrev dIn (f g : ER) : ER := dOp2 (inD false) f g
abbrev dNin (f g : ER) : ER := dOp2 (inD true) f g
theorem de_in (hu : X.A.units + 64 < cLine) (ha : DE X W m a fa) (hb : DE X W m b fb) (hm : behindInMarks .In b = false := by rfl) : DE X W .sh (.Compare a [.In] [b] pos) (dIn fa fb) := de_flat (flats_op2 flats_inD) (de_cmp2 (op_inAny hu) r2_in noExc_inD ha hb hm)
theorem dt_in (hu : X.A.units + 64 < cLine) (ha : DE X W m a fa) (hb : DE X W m b fb) (hm : behindInMarks .In b = false := by rfl) : DT X W (.Compare a [.In] [b] pos) (dTst (dIn fa fb)) := dt_cmp2 (op_inAny hu) r2_in noExc_inD ha hb hm
theorem de_nin (hu : X.A.units + 64 < cLine) (ha : DE X W m a fa) (hb : DE X W m b fb) (hm : behindInMarks .NotIn b = false := by rfl) : DE X W .sh (.Compare a [.NotIn] [b] pos) (dNin fa fb) := de_flat (flats_op2 flats_inD) (de_cmp2 (op_notInAny hu) r2_in noExc_inD ha hb hm)
theorem dt_nin (hu : X.A.units + 64 < cLine) (ha : DE X W m a fa) (hb : DE X W m b fb) (hm : behindInMarks .NotIn b = false := by rfl) : DT X W (.Compare a [.NotIn] [b] pos) (dTst (dNin fa fb)) := dt_cmp2 (op_notInAny hu) r2_in noExc_inD ha hb hm
end Dx
end
section
namespace Dx
open PySem L2 PyProof.Rows

variable {X : Cx} {W : WX} {m : Md} {a b c e o : Expr} {fa fb fc fo : ER} {pos : Pos}
variable {S : Addr → Prop} {M : Gh} {F : Nat → List Addr} {H0 H H' : Hp} {σ : L2.St} {δ : Env}

/-! slices -/
def cutL {α : Type} (xs : List α) (lo hi : Option Int) : List α := (xs.drop (HT.sIx xs.length 0 lo)).take (HT.sIx xs.length xs.length hi - HT.sIx xs.length 0 lo)
def OutG {α : Type} (mg : Str → Option Value) (W : WX) (σ : L2.St) (H : Hp) (S : Addr → Prop) (F : Nat → List Addr) (r : Res α) (Q : α → Hp → Prop) : Prop := match r with
  | .ok d => ∀ H', Same H H' → Q d H'
  | .exc e => ∀ cls dx H', Same H H' → ExcAt mg S H' e cls dx → W cls dx σ H'
  | .stuck => False
theorem OutG.mono {α : Type} {mg : Str → Option Value} {H1 : Hp} {r : Res α} {Q : α → Hp → Prop} (s : Same H H1) (h : OutG mg W σ H S F r Q) : OutG mg W σ H1 S F r Q := by
  cases r with
  | ok d => exact fun H' s' => h H' (s.trans s')
  | exc e => exact fun cls dx H' s' q => h cls dx H' (s.trans s') q
  | stuck => exact h
abbrev PR := Env → Res (Option Int)
def tP (mg : Str → Option Value) (W : WX) (f : PR) : TO := fun σ H Q => ∃ H0 S M δ F, EOk H0 S M σ H δ F ∧ OutG mg W σ H S F (f δ) Q
def DP (X : Cx) (W : WX) (e : Option Expr) (f : PR) : Prop := PO X e (tP X.mg W f)
def dNoP : PR := fun _ => .ok none
def dP (f : ER) : PR := fun δ => (f δ).bind fun d => match d with | .int i => .ok (some i) | _ => .stuck
theorem po_weaken {e : Option Expr} {t t' : TO} (h : PO X e t) (hw : ∀ σ H Q, t' σ H Q → t σ H Q) : PO X e t' := ⟨fun pins s σ H Q I q => h.run pins s σ H Q I (hw σ H Q q)⟩
theorem dp_none : DP X W none dNoP := po_weaken po_none fun σ H Q ⟨H0, S, M, δ, F, E, q⟩ => q H (Same.refl _)
theorem dp_some {f : ER} (h : DE X W m e f) : DP X W (some e) (dP f) := po_weaken (po_some h) fun σ H Q ⟨H0, S, M, δ, F, E, q⟩ => ⟨H0, S, M, δ, F, E, by
  unfold dP at q
  cases hf : f δ with
  | ok d =>
    rw [hf] at q
    intro v H1 s r
    cases d <;> try exact q.elim
    exact ⟨_, r.flat_inv rfl, q H1 s⟩
  | exc e => rw [hf] at q; exact q
  | stuck => rw [hf] at q; exact q⟩
def dSlice (g : D → Option Int → Option Int → Res D) (f : ER) (lo hi : PR) : ER := fun δ => (f δ).bind fun d => (lo δ).bind fun l => (hi δ).bind fun h => g d l h
theorem OutG.ofE {α : Type} {mg : Str → Option Value} {m' : Md} {r : Res α} {k : α → Res D} {Q : VK} {P : α → Hp → Prop} (h : Out mg W σ H S F m' (r.bind k) Q)
    (hp : ∀ d H1, r = .ok d → Same H H1 → Out mg W σ H1 S F m' (k d) Q → P d H1) : OutG mg W σ H S F r P := by
  cases r with
  | ok d => exact fun H1 s => hp d H1 rfl s (Out.mono s h)
  | exc e => exact h
  | stuck => exact h
def SlN (mo : Md → Md) (r : V → Option Int → Option Int → Hp → VK → Prop) (g : D → Option Int → Option Int → Res D) : Prop := ∀ (H0 : Hp) (S : Addr → Prop) (M : Gh) (σ : L2.St) (H : Hp) (δ : Env) (F : Nat → List Addr) (m : Md) (x : V) (d1 d : D) (lo hi : Option Int) (Q : VK), EOk H0 S M σ H δ F → Rep (hide (Pm m S F) H) d1 x → g d1 lo hi = .ok d →
  (∀ z H', Same H H' → ResOk S F H H' (mo m) d z → Q z H') → r x lo hi H Q
theorem de_slice {mo : Md → Md} {r : V → Option Int → Option Int → Hp → VK → Prop} {g : D → Option Int → Option Int → Res D} {lo hi : Option Expr} {fl fh : PR} {p2 : Pos} (hr : SlR X r) (hg : SlN mo r g) (hx : ∀ d l h e, g d l h ≠ .exc e) (ha : DE X W m a fa) (hl : DP X W lo fl) (hh : DP X W hi fh) :
    DE X W (mo m) (.Subscript a (.Slice lo hi none p2) pos) (dSlice g fa fl fh) :=
  pe_weaken (pe_slice hr ha hl hh) fun σ H Q ⟨H0, S, M, δ, F, E, q⟩ => ⟨H0, S, M, δ, F, E, Out.bind q fun d v H1 _ s1 r1 o1 =>
    ⟨H0, S, M, δ, F, E.grow s1, OutG.ofE o1 fun l H2 _ s2 o2 => ⟨H0, S, M, δ, F, (E.grow s1).grow s2, OutG.ofE o2 fun h H3 _ s3 o3 => by
      have E3 := ((E.grow s1).grow s2).grow s3
      cases hgg : g d l h with
      | stuck => rw [hgg] at o3; exact o3.elim
      | exc e => exact (hx _ _ _ _ hgg).elim
      | ok dd => rw [hgg] at o3; exact hg H0 S M σ H3 δ F m v d dd l h Q E3 ((r1.later (s2.trans s3)).rep E) hgg fun z H' s' q => o3 z H' s' q⟩⟩⟩
def sliceL : D → Option Int → Option Int → Res D
  | .lst xs, lo, hi => .ok (.lst (cutL xs lo hi))
  | _, _, _ => .stuck
def sliceS : D → Option Int → Option Int → Res D
  | .str z, lo, hi => if z.length ≤ sizeLine then .ok (.str (cutS z lo hi)) else .stuck
  | _, _, _ => .stuck
def sliceT : D → Option Int → Option Int → Res D
  | .tup xs, lo, hi => if HT.sIx xs.length 0 lo = 0 ∧ HT.sIx xs.length xs.length hi = xs.length then .stuck else .ok (.tup (cutL xs lo hi))
  | _, _, _ => .stuck
theorem reps_cut {H : Hp} {ds : List D} {vs : List V} {lo hi : Option Int} (q : Reps H ds vs) : Reps H (cutL ds lo hi) (cutV vs lo hi) := by
  unfold cutL cutV
  rw [q.length]
  exact (q.drop _).take _
theorem sln_L : SlN Md.new (rSlL X.K) sliceL := fun H0 S M σ H δ F m x d1 d lo hi Q E r hg hq => by
  unfold sliceL at hg
  split at hg <;> cases hg
  obtain ⟨p, vs, rfl, h1, q1⟩ := Rep.lst_iff.mp r
  exact ⟨p, vs, rfl, .inl (rd_hide h1), fun p hp => hq _ _ (same_upd hp) (res_lst E hp (reps_cut q1))⟩
theorem sln_S : SlN (fun _ => .sh) rSlS sliceS := fun H0 S M σ H δ F m x d1 d lo hi Q E r hg hq => by
  unfold sliceS at hg
  split at hg <;> first | (cases hg; done) | skip
  split at hg <;> cases hg
  exact ⟨_, Rep.str_iff.mp r, by assumption, hq _ H (Same.refl _) (ResOk.flat_mk (.str _) rfl fun h => nomatch h)⟩
theorem sln_T : SlN Md.res (rSlT X.K) sliceT := fun H0 S M σ H δ F m x d1 d lo hi Q E r hg hq => by
  unfold sliceT at hg
  split at hg <;> first | (cases hg; done) | skip
  obtain ⟨p, vs, rfl, h1, q1⟩ := Rep.tup_iff.mp r
  split at hg <;> cases hg
  rename_i hc
  rw [q1.length] at hc
  exact ⟨p, vs, rfl, .of (hide_some h1).2, hc, fun p hp => hq _ _ (same_upd hp) (res_tup E hp (reps_cut q1))⟩
theorem de_sliceL {lo hi : Option Expr} {fl fh : PR} {p2 : Pos} (ha : DE X W m a fa) (hl : DP X W lo fl) (hh : DP X W hi fh) : DE X W m.new (.Subscript a (.Slice lo hi none p2) pos) (dSlice sliceL fa fl fh) :=
  de_slice sl_list sln_L (fun d l h e z => by unfold sliceL at z; split at z <;> cases z) ha hl hh
theorem de_sliceS {lo hi : Option Expr} {fl fh : PR} {p2 : Pos} (ha : DE X W m a fa) (hl : DP X W lo fl) (hh : DP X W hi fh) : DE X W .sh (.Subscript a (.Slice lo hi none p2) pos) (dSlice sliceS fa fl fh) :=
  de_slice sl_str sln_S (fun d l h e z => by unfold sliceS at z; split at z <;> first | (cases z; done) | (split at z <;> cases z)) ha hl hh
theorem de_sliceT {lo hi : Option Expr} {fl fh : PR} {p2 : Pos} (ha : DE X W m a fa) (hl : DP X W lo fl) (hh : DP X W hi fh) : DE X W m.res (.Subscript a (.Slice lo hi none p2) pos) (dSlice sliceT fa fl fh) :=
  de_slice sl_tup sln_T (fun d l h e z => by unfold sliceT at z; split at z <;> first | (cases z; done) | (split at z <;> cases z)) ha hl hh

/-! built-in functions of one argument -/
def dOp1 (g : D → Res D) (f : ER) : ER := fun δ => (f δ).bind g
def R1N (mo : Md → Md) (r : List V → Hp → VK → Prop) (g : D → Res D) : Prop := ∀ (H0 : Hp) (S : Addr → Prop) (M : Gh) (σ : L2.St) (H : Hp) (δ : Env) (F : Nat → List Addr) (m : Md) (x : V) (d1 d : D) (Q : VK), EOk H0 S M σ H δ F → Rep (hide (Pm m S F) H) d1 x → g d1 = .ok d →
  (∀ z H', Same H H' → ResOk S F H H' (mo m) d z → Q z H') → r [x] H Q
theorem call1_ok {mo : Md → Md} {r : List V → Hp → VK → Prop} {g : D → Res D} (hr : R1N mo r g) (hx : ∀ d e, g d ≠ .exc e) {Q : VK} (E : EOk H0 S M σ H δ F) (h : Out X.mg W σ H S F (mo m) (dOp1 g fa δ) Q) : tCB r (tCons (tE X.mg W m fa) tNil) σ H Q :=
  ⟨H0, S, M, δ, F, E, Out.bind h fun d v H1 _ s1 r1 o1 => by
    cases hg : g d with
    | stuck => rw [hg] at o1; exact o1.elim
    | exc e => exact (hx _ _ hg).elim
    | ok dd => rw [hg] at o1; exact hr H0 S M σ H1 δ F m v d dd Q (E.grow s1) (r1.rep E) hg fun z H' s' q => o1 z H' s' q⟩
variable {x : Str} {p : Pos} {id : String}
theorem de_call1 {mo : Md → Md} {r : List V → Hp → VK → Prop} {g : D → Res D} (hc : CallR X (.builtin id) r) (hr : R1N mo r g) (hx : ∀ d e, g d ≠ .exc e) (hm : X.mg x = none) (hv : bootBuiltins x = some (.builtin id)) (ha : DE X W m a fa) (hg : Gl X x := by rfl) (hn : x ≠ "__name__" := by decide) (hdb : (x == ("__debug__" : Str)) = false := by decide)
    (he : starEach [a] X.env = (false, eval a X.env) :: starEach [] X.env := by rfl) (hpl : (backTo pos (starEach [] X.env)).any (·.1) = false := by rfl) : DE X W (mo m) (.Call (.Name x p) [a] [] pos) (dOp1 g fa) :=
  pe_weaken (pe_callB hc hg hm hv (pa_cons ha pa_nil he) hn hdb he hpl) fun σ H Q ⟨H0, S, M, δ, F, E, q⟩ => call1_ok hr hx E q
theorem de_call1T {mo : Md → Md} {r : List V → Hp → VK → Prop} {g : D → Res D} (hc : CallR X (.type id) r) (hr : R1N mo r g) (hx : ∀ d e, g d ≠ .exc e) (hm : X.mg x = none) (hv : bootBuiltins x = some (.type id)) (ha : DE X W m a fa) (hg : Gl X x := by rfl) (hn : x ≠ "__name__" := by decide) (hdb : (x == ("__debug__" : Str)) = false := by decide)
    (he : starEach [a] X.env = (false, eval a X.env) :: starEach [] X.env := by rfl) (hpl : (backTo pos (starEach [] X.env)).any (·.1) = false := by rfl) : DE X W (mo m) (.Call (.Name x p) [a] [] pos) (dOp1 g fa) :=
  pe_weaken (pe_callTy hc hg hm hv (pa_cons ha pa_nil he) hn hdb he hpl) fun σ H Q ⟨H0, S, M, δ, F, E, q⟩ => call1_ok hr hx E q

/-- len -/
theorem call_lenR : CallR X (.builtin "len") (fun xs H Q => ∃ a kvs, xs = [V.ref a] ∧ Rd H a (.dK kvs) ∧ Q (.int kvs.length) H) := by
  intro pins s σ H xs us Q I r ⟨a, kvs, e, ha, q⟩
  subst e
  obtain ⟨u, rfl, ru⟩ := vals1 r
  cases ru
  exact d_len I ha fun t s' I' => ⟨.int kvs.length, H, I', ⟨t, rfl⟩, q⟩
def rLen (X : Cx) : List V → Hp → VK → Prop := fun xs H Q => (∃ p ys, xs = [.ref p] ∧ (SqL X.K H p ys ∨ SqT X.K H p ys) ∧ Q (.int ys.length) H) ∨ (∃ z, xs = [.str z] ∧ z.length ≤ sizeLine ∧ Q (.int z.length) H) ∨ (∃ a kvs, xs = [V.ref a] ∧ Rd H a (.dK kvs) ∧ Q (.int kvs.length) H)
theorem call_lenAny : CallR X (.builtin "len") (rLen X) := CallR.or call_len_seq (CallR.or call_len_str call_lenR)
def lenD : D → Res D
  | .lst xs => .ok (.int xs.length)
  | .tup xs => .ok (.int xs.length)
  | .str z => if z.length ≤ sizeLine then .ok (.int z.length) else .stuck
  | .dic xs => .ok (.int xs.length)
  | _ => .stuck
theorem r1_len : R1N (fun _ => .sh) (rLen X) lenD := fun H0 S M σ H δ F m x d1 d Q E r hg hq => by
  have fin : ∀ i : Int, d = .int i → Q (.int i) H := fun i e => by subst e; exact hq _ H (Same.refl _) (ResOk.flat_mk (.int _) rfl fun h => nomatch h)
  unfold lenD at hg
  split at hg <;> first | (cases hg; done) | skip
  · cases hg
    obtain ⟨p, vs, rfl, h1, q1⟩ := Rep.lst_iff.mp r
    exact .inl ⟨p, vs, rfl, .inl (.inl (rd_hide h1)), by rw [← q1.length]; exact fin _ rfl⟩
  · cases hg
    obtain ⟨p, vs, rfl, h1, q1⟩ := Rep.tup_iff.mp r
    exact .inl ⟨p, vs, rfl, .inr (.of (hide_some h1).2), by rw [← q1.length]; exact fin _ rfl⟩
  · split at hg <;> cases hg
    rw [Rep.str_iff.mp r]
    exact .inr (.inl ⟨_, rfl, by assumption, fin _ rfl⟩)
  · cases hg
    obtain ⟨p, vs, rfl, h1, q1⟩ := Rep.dic_iff.mp r
    exact .inr (.inr ⟨p, vs, rfl, rd_hide h1, by rw [← q1.length]; exact fin _ rfl⟩)
theorem nx_len : ∀ d e, lenD d ≠ .exc e := fun d e h => by unfold lenD at h; split at h <;> first | (cases h; done) | (split at h <;> cases h)
theorem de_len (hm : X.mg "len" = none) (ha : DE X W m a fa) (hg : Gl X "len" := by rfl) (he : starEach [a] X.env = (false, eval a X.env) :: starEach [] X.env := by rfl) (hpl : (backTo pos (starEach [] X.env)).any (·.1) = false := by rfl) :
    DE X W .sh (.Call (.Name "len" p) [a] [] pos) (dOp1 lenD fa) := de_call1 (mo := fun _ => .sh) call_lenAny r1_len nx_len hm PySem.boot_len ha hg (by decide) (by decide) he hpl
/-- str(int), int(bool), int(text) -/
def strD : D → Res D
  | .int i => if i.natAbs.log2 < 1920 then .ok (.str (Str.ofString (toString i))) else .stuck
  | _ => .stuck
def intD : D → Res D
  | .int i => .ok (.int i)
  | .bl k => .ok (.int (if k then 1 else 0))
  | .str a => match PySem.intText? a with | some n => if a.length ≤ 640 then .ok (.int n) else .stuck | none => .stuck
  | _ => .stuck
theorem r1_str : R1N (fun _ => .sh) (fun xs H Q => ∃ i, xs = [.int i] ∧ i.natAbs.log2 < 1920 ∧ Q (.str (toString i)) H) strD := fun H0 S M σ H δ F m x d1 d Q E r hg hq => by
  unfold strD at hg
  split at hg <;> first | (cases hg; done) | skip
  split at hg <;> cases hg
  rw [Rep.int_iff.mp r]
  exact ⟨_, rfl, by assumption, hq _ H (Same.refl _) (ResOk.flat_mk (.str _) rfl fun h => nomatch h)⟩
theorem de_strI (hm : X.mg "str" = none) (ha : DE X W m a fa) (hg : Gl X "str" := by rfl) (he : starEach [a] X.env = (false, eval a X.env) :: starEach [] X.env := by rfl) (hpl : (backTo pos (starEach [] X.env)).any (·.1) = false := by rfl) :
    DE X W .sh (.Call (.Name "str" p) [a] [] pos) (dOp1 strD fa) := de_call1T (mo := fun _ => .sh) call_str_int r1_str (fun d e h => by unfold strD at h; split at h <;> first | (cases h; done) | (split at h <;> cases h)) hm (by decide +kernel) ha hg (by decide) (by decide) he hpl
def rInt : List V → Hp → VK → Prop := fun xs H Q => ((∃ i, xs = [.int i] ∧ Q (.int i) H) ∨ ∃ k, xs = [.bl k] ∧ Q (.int (if k then 1 else 0)) H) ∨ ∃ a n, xs = [.str a] ∧ PySem.intText? a = some n ∧ a.length ≤ 640 ∧ Q (.int n) H
theorem r1_int : R1N (fun _ => .sh) rInt intD := fun H0 S M σ H δ F m x d1 d Q E r hg hq => by
  have fin : ∀ i : Int, d = .int i → Q (.int i) H := fun i e => by subst e; exact hq _ H (Same.refl _) (ResOk.flat_mk (.int _) rfl fun h => nomatch h)
  unfold intD at hg
  split at hg <;> first | (cases hg; done) | skip
  · cases hg; rw [Rep.int_iff.mp r]; exact .inl (.inl ⟨_, rfl, fin _ rfl⟩)
  · cases hg; rw [Rep.bl_iff.mp r]; exact .inl (.inr ⟨_, rfl, fin _ rfl⟩)
  · split at hg <;> first | (cases hg; done) | skip
    split at hg <;> cases hg
    rw [Rep.str_iff.mp r]; exact .inr ⟨_, _, rfl, by assumption, by assumption, fin _ rfl⟩
theorem de_intC (hm : X.mg "int" = none) (ha : DE X W m a fa) (hg : Gl X "int" := by rfl) (he : starEach [a] X.env = (false, eval a X.env) :: starEach [] X.env := by rfl) (hpl : (backTo pos (starEach [] X.env)).any (·.1) = false := by rfl) :
    DE X W .sh (.Call (.Name "int" p) [a] [] pos) (dOp1 intD fa) := de_call1T (mo := fun _ => .sh) (CallR.or call_int1 call_int_str) r1_int (fun d e h => by unfold intD at h; split at h <;> first | (cases h; done) | (split at h <;> first | (cases h; done) | (split at h <;> cases h))) hm (by decide +kernel) ha hg (by decide) (by decide) he hpl
/-- list(..), tuple(..) of a list or a tuple -/
def listD : D → Res D
  | .lst xs => .ok (.lst xs)
  | .tup xs => .ok (.lst xs)
  | _ => .stuck
def tupleD : D → Res D
  | .lst xs => .ok (.tup xs)
  | .tup xs => .ok (.tup xs)
  | _ => .stuck
theorem r1_list : R1N Md.new (fun xs H Q => ∃ p ys, xs = [.ref p] ∧ (SqL X.K H p ys ∨ SqT X.K H p ys) ∧ ∀ l, H l = none → Q (.ref l) (upd H l (.lst ys))) listD := fun H0 S M σ H δ F m x d1 d Q E r hg hq => by
  unfold listD at hg
  split at hg <;> cases hg
  · obtain ⟨p, vs, rfl, h1, q1⟩ := Rep.lst_iff.mp r
    exact ⟨p, vs, rfl, .inl (.inl (rd_hide h1)), fun l hl => hq _ _ (same_upd hl) (res_lst E hl q1)⟩
  · obtain ⟨p, vs, rfl, h1, q1⟩ := Rep.tup_iff.mp r
    exact ⟨p, vs, rfl, .inr (.of (hide_some h1).2), fun l hl => hq _ _ (same_upd hl) (res_lst E hl q1)⟩
theorem r1_tuple : R1N Md.res (fun xs H Q => ∃ p ys, xs = [.ref p] ∧ ((SqL X.K H p ys ∧ ∀ l, H l = none → Q (.ref l) (upd H l (.tup ys))) ∨ (SqT X.K H p ys ∧ Q (.ref p) H))) tupleD := fun H0 S M σ H δ F m x d1 d Q E r hg hq => by
  unfold tupleD at hg
  split at hg <;> cases hg
  · obtain ⟨p, vs, rfl, h1, q1⟩ := Rep.lst_iff.mp r
    exact ⟨p, vs, rfl, .inl ⟨.inl (rd_hide h1), fun l hl => hq _ _ (same_upd hl) (res_tup E hl q1)⟩⟩
  · have r' := r
    obtain ⟨p, vs, rfl, h1, q1⟩ := Rep.tup_iff.mp r
    exact ⟨p, vs, rfl, .inr ⟨.of (hide_some h1).2, hq _ H (Same.refl _) (.of_res r')⟩⟩
theorem de_list (hm : X.mg "list" = none) (ha : DE X W m a fa) (hg : Gl X "list" := by rfl) (he : starEach [a] X.env = (false, eval a X.env) :: starEach [] X.env := by rfl) (hpl : (backTo pos (starEach [] X.env)).any (·.1) = false := by rfl) :
    DE X W m.new (.Call (.Name "list" p) [a] [] pos) (dOp1 listD fa) := de_call1T call_list_of r1_list (fun d e h => by unfold listD at h; split at h <;> cases h) hm (by decide +kernel) ha hg (by decide) (by decide) he hpl
theorem de_tuple (hm : X.mg "tuple" = none) (ha : DE X W m a fa) (hg : Gl X "tuple" := by rfl) (he : starEach [a] X.env = (false, eval a X.env) :: starEach [] X.env := by rfl) (hpl : (backTo pos (starEach [] X.env)).any (·.1) = false := by rfl) :
    DE X W m.res (.Call (.Name "tuple" p) [a] [] pos) (dOp1 tupleD fa) := de_call1T call_tuple_of r1_tuple (fun d e h => by unfold tupleD at h; split at h <;> cases h) hm (by decide +kernel) ha hg (by decide) (by decide) he hpl

/-! isinstance(x, T), T a built-in class by its name -/
def kindD : D → String
  | .non => "NoneType"
  | .bl _ => "bool"
  | .int _ => "int"
  | .str _ => "str"
  | .lst _ => "list"
  | .tup _ => "tuple"
  | .dic _ => "dict"
  | .dct _ => "dict"
def isiK (T k : String) : Bool := k == T || (T == "int" && k == "bool")
def isiD (T : String) (d : D) : Bool := isiK T (kindD d)
def okKind : D → Bool
  | .dct _ => false
  | _ => true
theorem tyX_of {H : Hp} {K : PySem.W.Frag} {d : D} {v : V} (hk : okKind d = true) (r : Rep H d v) : TyX K H v (.type (kindD d)) := by
  cases d <;> rw [Rep] at r
  · subst r; exact .base .non
  · subst r; exact .base (.bl _)
  · subst r; exact .base (.int _)
  · subst r; exact .base (.str _)
  · obtain ⟨a, vs, rfl, h, _⟩ := r
    rcases h with h | ⟨o, h⟩
    · exact .base (.lst h)
    · exact .base (.frz h)
  · obtain ⟨a, vs, rfl, h, _⟩ := r
    exact .base (.tup h)
  · obtain ⟨a, vs, rfl, h, _⟩ := r
    rcases h with h | ⟨o, h⟩
    · exact .base (.dK h)
    · exact .fDict h
  · cases hk
/-- the answer for a class by its name -/
def KitT (K : PySem.W.Frag) (T : String) : Prop := ∀ d : D, okKind d = true → PySem.W.kitOne K (.type (kindD d)) (.type T) = some (isiD T d)
def dIsi (T : String) (f : ER) : ER := fun δ => (f δ).bind fun d => if okKind d then .ok (.bl (isiD T d)) else .stuck
theorem pe_tyName {T : Str} {n : String} {pos : Pos} (hm : X.mg T = none) (hv : bootBuiltins T = some (.type n)) (hg : Gl X T) (hn : T ≠ "__name__") (hdb : (T == ("__debug__" : Str)) = false) : PE X (.Name T pos) (tC (.ty n)) :=
  pe_bltn (v := .ty n) hg hm hv rfl hn hdb
theorem de_isi {T : Str} {n : String} {p2 : Pos} (hk : KitT X.K n) (hm : X.mg "isinstance" = none) (hmT : X.mg T = none) (hv : bootBuiltins T = some (.type n)) (ha : DE X W m a fa) (hg : Gl X "isinstance" := by rfl) (hgT : Gl X T := by rfl) (hn : T ≠ "__name__" := by decide) (hdb : (T == ("__debug__" : Str)) = false := by decide)
    (he : starEach [a, .Name T p2] X.env = (false, eval a X.env) :: starEach [.Name T p2] X.env := by rfl) (he2 : starEach [.Name T p2] X.env = (false, eval (.Name T p2) X.env) :: starEach [] X.env := by rfl) (hpl : (backTo pos (starEach [.Name T p2] X.env)).any (·.1) = false := by rfl) :
    DE X W .sh (.Call (.Name "isinstance" p) [a, .Name T p2] [] pos) (dIsi n fa) :=
  pe_weaken (pe_callB call_isi hg hm (by decide +kernel) (pa_cons ha (pa_cons (pe_tyName hmT hv hgT hn hdb) pa_nil he2) he) (by decide) (by decide) he hpl) fun σ H Q ⟨H0, S, M, δ, F, E, q⟩ => ⟨H0, S, M, δ, F, E, Out.bind q fun d v H1 _ s1 r1 o1 => by
    by_cases hd : okKind d = true
    · rw [if_pos hd] at o1
      exact ⟨v, .ty n, .type (kindD d), .type n, isiD n d, rfl, .ty n, tyX_of hd (Rep.mono (Keeps.of_same same_hide_sub) _ _ (r1.rep E)), hk d hd, o1 _ H1 (Same.refl _) (ResOk.flat_mk (.bl _) rfl fun h => nomatch h)⟩
    · rw [if_neg hd] at o1
      exact o1.elim⟩
theorem kit_all {K : PySem.W.Frag} {T : String} (h : (["NoneType", "bool", "int", "str", "list", "tuple", "dict"].all fun k => decide (kitB k T = some (isiK T k))) = true) : KitT K T := fun d hd => by
  have hm : kindD d ∈ ["NoneType", "bool", "int", "str", "list", "tuple", "dict"] := by cases d <;> simp [kindD]
  exact kit_ty (of_decide_eq_true (List.all_eq_true.mp h _ hm))
theorem kit_str {K : PySem.W.Frag} : KitT K "str" := kit_all (by decide +kernel)
theorem kit_list {K : PySem.W.Frag} : KitT K "list" := kit_all (by decide +kernel)
theorem kit_tuple {K : PySem.W.Frag} : KitT K "tuple" := kit_all (by decide +kernel)
theorem kit_int {K : PySem.W.Frag} : KitT K "int" := kit_all (by decide +kernel)
theorem kit_dict {K : PySem.W.Frag} : KitT K "dict" := kit_all (by decide +kernel)
end Dx
end
section
namespace Dx
open PySem L2 PyProof.Rows

variable {X : Cx} {W : WX} {m : Md} {a b c e o : Expr} {fa fb fc fo : ER} {pos : Pos}
variable {S : Addr → Prop} {M : Gh} {F : Nat → List Addr} {H0 H H' : Hp} {σ : L2.St} {δ : Env}

/-! methods that change nothing -/
def isTD (T : String) : D → Bool
  | .str _ => T == "str"
  | .lst _ => T == "list"
  | _ => false
theorem isTD_ty {K : PySem.W.Frag} {T : String} {d : D} {x : V} {H : Hp} (h : isTD T d = true) (r : Rep H d x) : tyV K T x H := by
  cases d <;> first | (cases h; done) | skip
  · rw [Rep.str_iff.mp r]; exact beq_iff_eq.mp h
  · obtain ⟨p, vs, rfl, h1, _⟩ := Rep.lst_iff.mp r
    exact .inl ⟨beq_iff_eq.mp h, vs, .inl h1⟩
def dM1 (T : String) (g : D → D → Res D) (fo fa : ER) : ER := fun δ => (fo δ).bind fun x => if isTD T x then (fa δ).bind fun y => g x y else .stuck
def RMN (mo : Md → Md) (r : V → List V → Hp → VK → Prop) (g : D → D → Res D) : Prop := ∀ (H0 : Hp) (S : Addr → Prop) (M : Gh) (σ : L2.St) (H : Hp) (δ : Env) (F : Nat → List Addr) (m : Md) (x y : V) (d1 d2 d : D) (Q : VK), EOk H0 S M σ H δ F → Rep (hide (Pm m S F) H) d1 x → Rep (hide (Pm m S F) H) d2 y → g d1 d2 = .ok d →
  (∀ z H', Same H H' → ResOk S F H H' (mo m) d z → Q z H') → r x [y] H Q
variable {T id : String} {name : Str} {apos cpos : Pos}
theorem de_m1 {mo : Md → Md} {r : V → List V → Hp → VK → Prop} {g : D → D → Res D} (pa : PlainAttrs T) (slot : PySem.Slot T name id) (hty : typeOf (.builtin id) = pure (.type "method_descriptor")) (hm : MtR X id r) (hr : RMN mo r g) (hx : NoExc g) (ho : DE X W m o fo) (ha : DE X W m a fa)
    (hbase : attributeBase o name X.env (eval o X.env) = eval o X.env := by rfl)
    (hfew : ((backTo cpos (starEach (a :: []) X.env)).all (fun x => !x.1) && (backToKw cpos (keywordEach [] X.env)).all (fun x => x.1.isSome)
      && decide ((a :: []).length + ([] : List Keyword).length + (if ([] : List Keyword).isEmpty then 0 else 1) < 30)) = true := by rfl)
    (hline : (apos.endLine == cpos.line) = true := by rfl) (hs : starEach (a :: []) X.env = (false, eval a X.env) :: starEach [] X.env := by rfl) (hplain : (backTo cpos (starEach [] X.env)).any (·.1) = false := by rfl) :
    DE X W (mo m) (.Call (.Attribute o name apos) [a] [] cpos) (dM1 T g fo fa) :=
  pe_weaken (pe_bm pa slot hty hm ho (pa_cons ha pa_nil hs) hbase hfew hline hs hplain) fun σ H Q ⟨H0, S, M, δ, F, E, q⟩ => ⟨H0, S, M, δ, F, E, Out.bind q fun d v H1 _ s1 r1 o1 => by
    by_cases hd : isTD T d = true
    · rw [if_pos hd] at o1
      refine ⟨isTD_ty hd (Rep.mono (Keeps.of_same same_hide_sub) _ _ (r1.rep E)), H0, S, M, δ, F, E.grow s1, Out.bind o1 fun d2 v2 H2 _ s2 r2 o2 => ?_⟩
      have E2 := (E.grow s1).grow s2
      cases hg : g d d2 with
      | stuck => rw [hg] at o2; exact o2.elim
      | exc e => exact (hx _ _ _ hg).elim
      | ok dd => rw [hg] at o2; exact hr H0 S M σ H2 δ F m v v2 d d2 dd Q E2 ((r1.later s2).rep E) (r2.rep (E.grow s1)) hg fun z H' s' q => o2 z H' s' q
    · rw [if_neg hd] at o1
      exact o1.elim⟩

/-- texts of a list or a tuple -/
def strsOf : List D → Option (List Str)
  | [] => some []
  | .str x :: r => (strsOf r).map (x :: ·)
  | _ :: _ => none
theorem strsOf_rep {H : Hp} : ∀ {ds : List D} {ys : List Str} {vs : List V}, strsOf ds = some ys → Reps H ds vs → vs = ys.map V.str
  | [], ys, vs, h, r => by cases h; exact Reps.nil_iff.mp r
  | d :: ds, ys, vs, h, r => by
    obtain ⟨v, vs', rfl, p, q⟩ := Reps.cons_iff.mp r
    cases d <;> first | (cases h; done) | skip
    simp only [strsOf, Option.map_eq_some_iff] at h
    obtain ⟨zs, h1, h2⟩ := h
    subst h2
    rw [Rep.str_iff.mp p, strsOf_rep h1 q]; rfl
theorem strsOf_strs : ∀ (ys : List Str), strsOf (ys.map D.str) = some ys
  | [] => rfl
  | y :: r => by simp [strsOf, strsOf_strs r]
def joinSeq (a : Str) (ds : List D) : Res D := match strsOf ds with
  | some ys => if (ys.map (·.length)).sum + ys.length * a.length ≤ 16777216 then .ok (.str (Txt.join a ys)) else .stuck
  | none => .stuck
def joinD : D → D → Res D
  | .str a, .lst ds => joinSeq a ds
  | .str a, .tup ds => joinSeq a ds
  | _, _ => .stuck
theorem joinSeq_ok {a : Str} {ds : List D} {d : D} (h : joinSeq a ds = .ok d) : ∃ ys, strsOf ds = some ys ∧ (ys.map (·.length)).sum + ys.length * a.length ≤ 16777216 ∧ d = .str (Txt.join a ys) := by
  unfold joinSeq at h
  split at h <;> first | (cases h; done) | skip
  split at h <;> cases h
  exact ⟨_, by assumption, by assumption, rfl⟩
theorem noExc_join : NoExc joinD := fun d1 d2 e h => by
  unfold joinD at h
  split at h <;> first | (cases h; done) | (unfold joinSeq at h; split at h <;> first | (cases h; done) | (split at h <;> cases h))
theorem rm_join : RMN (fun _ => .sh) (fun x xs H Q => ∃ a p, ∃ ys : List Str, x = .str a ∧ xs = [.ref p] ∧ (SqL X.K H p (ys.map V.str) ∨ SqT X.K H p (ys.map V.str)) ∧
    (ys.map (·.length)).sum + ys.length * a.length ≤ 16777216 ∧ Q (.str (Txt.join a ys)) H) joinD := fun H0 S M σ H δ F m x y d1 d2 d Q E r1 r2 hg hq => by
  unfold joinD at hg
  split at hg <;> first | (cases hg; done) | skip
  · obtain ⟨ys, h1, h2, rfl⟩ := joinSeq_ok hg
    obtain ⟨p, vs, rfl, h3, q⟩ := Rep.lst_iff.mp r2
    have := strsOf_rep h1 q; subst this
    exact ⟨_, p, ys, Rep.str_iff.mp r1, rfl, .inl (.inl (rd_hide h3)), h2, hq _ H (Same.refl _) (ResOk.flat_mk (.str _) rfl fun h => nomatch h)⟩
  · obtain ⟨ys, h1, h2, rfl⟩ := joinSeq_ok hg
    obtain ⟨p, vs, rfl, h3, q⟩ := Rep.tup_iff.mp r2
    have := strsOf_rep h1 q; subst this
    exact ⟨_, p, ys, Rep.str_iff.mp r1, rfl, .inr (.of (hide_some h3).2), h2, hq _ H (Same.refl _) (ResOk.flat_mk (.str _) rfl fun h => nomatch h)⟩
section
variable (hbase : attributeBase o name X.env (eval o X.env) = eval o X.env)
abbrev dJoin (f g : ER) : ER := dM1 "str" joinD f g
theorem de_join {apos cpos : Pos} (ho : DE X W m o fo) (ha : DE X W m a fa) (hbase : attributeBase o "join" X.env (eval o X.env) = eval o X.env := by rfl)
    (hfew : ((backTo cpos (starEach (a :: []) X.env)).all (fun x => !x.1) && (backToKw cpos (keywordEach [] X.env)).all (fun x => x.1.isSome)
      && decide ((a :: []).length + ([] : List Keyword).length + (if ([] : List Keyword).isEmpty then 0 else 1) < 30)) = true := by rfl)
    (hline : (apos.endLine == cpos.line) = true := by rfl) (hs : starEach (a :: []) X.env = (false, eval a X.env) :: starEach [] X.env := by rfl) (hplain : (backTo cpos (starEach [] X.env)).any (·.1) = false := by rfl) :
    DE X W .sh (.Call (.Attribute o "join" apos) [a] [] cpos) (dJoin fo fa) := de_m1 (mo := fun _ => .sh) PySem.F.plainAttrs_str PySem.F.slot_str_join PySem.F.type_str_join mt_join rm_join noExc_join ho ha hbase hfew hline hs hplain
/-- partition, split -/
def partD : D → D → Res D
  | .str a, .str b => if (b.length == 0) = false ∧ a.length ≤ sizeLine then .ok (.tup [.str (Txt.partition a b).1, .str (Txt.partition a b).2.1, .str (Txt.partition a b).2.2]) else .stuck
  | _, _ => .stuck
def splitD : D → D → Res D
  | .str a, .str b => if (b.length == 0) = false ∧ a.length + 2 ≤ sizeLine then .ok (.lst ((Txt.split a b).map D.str)) else .stuck
  | _, _ => .stuck
theorem rm_part : RMN Md.res (fun x xs H Q => ∃ a b, x = .str a ∧ xs = [.str b] ∧ (b.length == 0) = false ∧ a.length ≤ sizeLine ∧
    ∀ p, H p = none → Q (.ref p) (upd H p (.tup [.str (Txt.partition a b).1, .str (Txt.partition a b).2.1, .str (Txt.partition a b).2.2]))) partD := fun H0 S M σ H δ F m x y d1 d2 d Q E r1 r2 hg hq => by
  unfold partD at hg
  split at hg <;> first | (cases hg; done) | skip
  split at hg <;> cases hg
  rename_i hc
  refine ⟨_, _, Rep.str_iff.mp r1, by rw [Rep.str_iff.mp r2], hc.1, hc.2, fun p hp => hq _ _ (same_upd hp) (res_tup E hp ?_)⟩
  exact .cons (Rep.str_iff.mpr rfl) (.cons (Rep.str_iff.mpr rfl) (.cons (Rep.str_iff.mpr rfl) .nil))
theorem rm_split : RMN Md.new (fun x xs H Q => ∃ a b, x = .str a ∧ xs = [.str b] ∧ (b.length == 0) = false ∧ a.length + 2 ≤ sizeLine ∧ rNewStrs (Txt.split a b) H Q) splitD := fun H0 S M σ H δ F m x y d1 d2 d Q E r1 r2 hg hq => by
  unfold splitD at hg
  split at hg <;> first | (cases hg; done) | skip
  split at hg <;> cases hg
  rename_i hc
  exact ⟨_, _, Rep.str_iff.mp r1, by rw [Rep.str_iff.mp r2], hc.1, hc.2, fun p hp => hq _ _ (same_upd hp) (res_lst E hp .strs)⟩
abbrev dPart (f g : ER) : ER := dM1 "str" partD f g
abbrev dSplit (f g : ER) : ER := dM1 "str" splitD f g
theorem de_part {apos cpos : Pos} (ho : DE X W m o fo) (ha : DE X W m a fa) (hbase : attributeBase o "partition" X.env (eval o X.env) = eval o X.env := by rfl)
    (hfew : ((backTo cpos (starEach (a :: []) X.env)).all (fun x => !x.1) && (backToKw cpos (keywordEach [] X.env)).all (fun x => x.1.isSome)
      && decide ((a :: []).length + ([] : List Keyword).length + (if ([] : List Keyword).isEmpty then 0 else 1) < 30)) = true := by rfl)
    (hline : (apos.endLine == cpos.line) = true := by rfl) (hs : starEach (a :: []) X.env = (false, eval a X.env) :: starEach [] X.env := by rfl) (hplain : (backTo cpos (starEach [] X.env)).any (·.1) = false := by rfl) :
    DE X W m.res (.Call (.Attribute o "partition" apos) [a] [] cpos) (dPart fo fa) :=
  de_m1 PySem.F.plainAttrs_str PySem.F.slot_str_partition PySem.F.type_str_partition mt_partition rm_part (fun d1 d2 e h => by unfold partD at h; split at h <;> first | (cases h; done) | (split at h <;> cases h)) ho ha hbase hfew hline hs hplain
theorem de_split {apos cpos : Pos} (ho : DE X W m o fo) (ha : DE X W m a fa) (hbase : attributeBase o "split" X.env (eval o X.env) = eval o X.env := by rfl)
    (hfew : ((backTo cpos (starEach (a :: []) X.env)).all (fun x => !x.1) && (backToKw cpos (keywordEach [] X.env)).all (fun x => x.1.isSome)
      && decide ((a :: []).length + ([] : List Keyword).length + (if ([] : List Keyword).isEmpty then 0 else 1) < 30)) = true := by rfl)
    (hline : (apos.endLine == cpos.line) = true := by rfl) (hs : starEach (a :: []) X.env = (false, eval a X.env) :: starEach [] X.env := by rfl) (hplain : (backTo cpos (starEach [] X.env)).any (·.1) = false := by rfl) :
    DE X W m.new (.Call (.Attribute o "split" apos) [a] [] cpos) (dSplit fo fa) :=
  de_m1 PySem.F.plainAttrs_str PySem.F.slot_str_split PySem.F.type_str_split mt_split rm_split (fun d1 d2 e h => by unfold splitD at h; split at h <;> first | (cases h; done) | (split at h <;> cases h)) ho ha hbase hfew hline hs hplain
/-- s.rstrip(t), s.startswith(t), s.index(t) (found), xs.index(t) (found) -/
def rstripD : D → D → Res D
  | .str a, .str b => if a.length ≤ sizeLine then .ok (.str (Txt.rstripChars a b)) else .stuck
  | _, _ => .stuck
def sindexD : D → D → Res D
  | .str a, .str b => match Txt.index0 a b with | some k => .ok (.int (k : Nat)) | none => .stuck
  | _, _ => .stuck
def startsD : D → D → Res D
  | .str a, .str b => .ok (.bl (Txt.startswith a b))
  | _, _ => .stuck
theorem rm_rstrip : RMN (fun _ => .sh) (fun x xs H Q => ∃ a b, x = .str a ∧ xs = [.str b] ∧ a.length ≤ sizeLine ∧ Q (.str (Txt.rstripChars a b)) H) rstripD := fun H0 S M σ H δ F m x y d1 d2 d Q E r1 r2 hg hq => by
  unfold rstripD at hg
  split at hg <;> first | (cases hg; done) | skip
  split at hg <;> cases hg
  exact ⟨_, _, Rep.str_iff.mp r1, by rw [Rep.str_iff.mp r2], by assumption, hq _ H (Same.refl _) (ResOk.flat_mk (.str _) rfl fun h => nomatch h)⟩
theorem mt_sindex : MtR X "str.index" (fun x xs H Q => ∃ a b k, x = .str a ∧ xs = [.str b] ∧ Txt.index0 a b = some k ∧ Q (.int (k : Nat)) H) := by
  intro pins s σ H x xs v us Q I rx rs ⟨a, b, k, ex, es, hk, w⟩
  subst ex; subst es
  obtain ⟨t, rfl⟩ := rx
  cases rs with
  | cons r1 rs =>
    cases rs
    obtain ⟨u, rfl⟩ := r1
    cases q : Builtin.Str.occurrences a b 0 a.length 1 with
    | nil => unfold Txt.index0 at hk; rw [q] at hk; cases hk
    | cons k' rest =>
      unfold Txt.index0 at hk; rw [q] at hk; cases hk
      exact PySem.SC.index q ⟨.int (k : Nat), H, I.tok _, ⟨_, rfl⟩, w⟩
theorem rm_sindex : RMN (fun _ => .sh) (fun x xs H Q => ∃ a b k, x = .str a ∧ xs = [.str b] ∧ Txt.index0 a b = some k ∧ Q (.int (k : Nat)) H) sindexD := fun H0 S M σ H δ F m x y d1 d2 d Q E r1 r2 hg hq => by
  unfold sindexD at hg
  split at hg <;> first | (cases hg; done) | skip
  split at hg <;> cases hg
  exact ⟨_, _, _, Rep.str_iff.mp r1, by rw [Rep.str_iff.mp r2], by assumption, hq _ H (Same.refl _) (ResOk.flat_mk (.int _) rfl fun h => nomatch h)⟩
theorem rm_starts : RMN (fun _ => .sh) (fun x xs H Q => ∃ a b, x = .str a ∧ xs = [.str b] ∧ Q (.bl (Txt.startswith a b)) H) startsD := fun H0 S M σ H δ F m x y d1 d2 d Q E r1 r2 hg hq => by
  unfold startsD at hg
  split at hg <;> cases hg
  exact ⟨_, _, Rep.str_iff.mp r1, by rw [Rep.str_iff.mp r2], hq _ H (Same.refl _) (ResOk.flat_mk (.bl _) rfl fun h => nomatch h)⟩
theorem de_rstrip {apos cpos : Pos} (ho : DE X W m o fo) (ha : DE X W m a fa) (hbase : attributeBase o "rstrip" X.env (eval o X.env) = eval o X.env := by rfl)
    (hfew : ((backTo cpos (starEach (a :: []) X.env)).all (fun x => !x.1) && (backToKw cpos (keywordEach [] X.env)).all (fun x => x.1.isSome)
      && decide ((a :: []).length + ([] : List Keyword).length + (if ([] : List Keyword).isEmpty then 0 else 1) < 30)) = true := by rfl)
    (hline : (apos.endLine == cpos.line) = true := by rfl) (hs : starEach (a :: []) X.env = (false, eval a X.env) :: starEach [] X.env := by rfl) (hplain : (backTo cpos (starEach [] X.env)).any (·.1) = false := by rfl) :
    DE X W .sh (.Call (.Attribute o "rstrip" apos) [a] [] cpos) (dM1 "str" rstripD fo fa) :=
  de_m1 (mo := fun _ => .sh) PySem.F.plainAttrs_str PySem.F.slot_str_rstrip PySem.F.type_str_rstrip mt_rstripChars rm_rstrip (fun d1 d2 e h => by unfold rstripD at h; split at h <;> first | (cases h; done) | (split at h <;> cases h)) ho ha hbase hfew hline hs hplain
theorem de_sindex {apos cpos : Pos} (ho : DE X W m o fo) (ha : DE X W m a fa) (hbase : attributeBase o "index" X.env (eval o X.env) = eval o X.env := by rfl)
    (hfew : ((backTo cpos (starEach (a :: []) X.env)).all (fun x => !x.1) && (backToKw cpos (keywordEach [] X.env)).all (fun x => x.1.isSome)
      && decide ((a :: []).length + ([] : List Keyword).length + (if ([] : List Keyword).isEmpty then 0 else 1) < 30)) = true := by rfl)
    (hline : (apos.endLine == cpos.line) = true := by rfl) (hs : starEach (a :: []) X.env = (false, eval a X.env) :: starEach [] X.env := by rfl) (hplain : (backTo cpos (starEach [] X.env)).any (·.1) = false := by rfl) :
    DE X W .sh (.Call (.Attribute o "index" apos) [a] [] cpos) (dM1 "str" sindexD fo fa) :=
  de_m1 (mo := fun _ => .sh) PySem.F.plainAttrs_str PySem.F.slot_str_index PySem.F.type_str_index mt_sindex rm_sindex (fun d1 d2 e h => by unfold sindexD at h; split at h <;> first | (cases h; done) | (split at h <;> cases h)) ho ha hbase hfew hline hs hplain
theorem de_starts {apos cpos : Pos} (ho : DE X W m o fo) (ha : DE X W m a fa) (hbase : attributeBase o "startswith" X.env (eval o X.env) = eval o X.env := by rfl)
    (hfew : ((backTo cpos (starEach (a :: []) X.env)).all (fun x => !x.1) && (backToKw cpos (keywordEach [] X.env)).all (fun x => x.1.isSome)
      && decide ((a :: []).length + ([] : List Keyword).length + (if ([] : List Keyword).isEmpty then 0 else 1) < 30)) = true := by rfl)
    (hline : (apos.endLine == cpos.line) = true := by rfl) (hs : starEach (a :: []) X.env = (false, eval a X.env) :: starEach [] X.env := by rfl) (hplain : (backTo cpos (starEach [] X.env)).any (·.1) = false := by rfl) :
    DE X W .sh (.Call (.Attribute o "startswith" apos) [a] [] cpos) (dM1 "str" startsD fo fa) :=
  de_m1 (mo := fun _ => .sh) PySem.F.plainAttrs_str PySem.F.slot_str_startswith PySem.F.type_str_startswith mt_startswith rm_starts (fun d1 d2 e h => by unfold startsD at h; split at h <;> cases h) ho ha hbase hfew hline hs hplain
/-- xs.index(y): the first place; texts, numbers -/
def lindexD : D → D → Res D
  | .lst xs, y => if flat y && xs.all flat then match xs.findIdx? (fun z => flatEq z y) with | some j => .ok (.int (j : Nat)) | none => .stuck else .stuck
  | _, _ => .stuck
theorem reps_flat {H : Hp} : ∀ {ds : List D} {vs : List V}, ds.all flat = true → Reps H ds vs → vs = ds.map fval
  | [], vs, h, r => Reps.nil_iff.mp r
  | d :: ds, vs, h, r => by
    obtain ⟨v, vs', rfl, p, q⟩ := Reps.cons_iff.mp r
    rw [List.all_cons, Bool.and_eq_true] at h
    rw [Rep.flat_inv h.1 p, reps_flat h.2 q]; rfl
theorem rm_lindex : RMN (fun _ => .sh) (rIndex X.K) lindexD := fun H0 S M σ H δ F m x y d1 d2 d Q E r1 r2 hg hq => by
  unfold lindexD at hg
  split at hg <;> first | (cases hg; done) | skip
  rename_i xs
  split at hg <;> first | (cases hg; done) | skip
  rename_i hf
  rw [Bool.and_eq_true] at hf
  split at hg <;> cases hg
  rename_i j hj
  obtain ⟨p, vs, rfl, h1, q⟩ := Rep.lst_iff.mp r1
  have hv := reps_flat hf.2 q; subst hv
  have hy := Rep.flat_inv hf.1 r2; subst hy
  rw [List.findIdx?_eq_some_iff_getElem] at hj
  obtain ⟨hl, hz, hno⟩ := hj
  have hfl : ∀ z ∈ xs, flat z = true := List.all_eq_true.mp hf.2
  refine ⟨p, xs.map fval, fval d2, j, fval xs[j], rfl, rfl, .inl (rd_hide h1), flat_flatV hf.1, ?_, by simp [hl], ?_, fun k z hk hz => ?_, hq _ H (Same.refl _) (ResOk.flat_mk (.int _) rfl fun h => nomatch h)⟩
  · rw [List.all_eq_true]
    intro z hz
    obtain ⟨d, hd, rfl⟩ := List.mem_map.mp hz
    exact flat_flatV (hfl d hd)
  · rw [eqV_flatEq (hfl _ (List.getElem_mem hl)) hf.1]; exact hz
  · rw [List.getElem?_map, Option.map_eq_some_iff] at hz
    obtain ⟨d, hd, rfl⟩ := hz
    have hkl : k < xs.length := (List.getElem?_eq_some_iff.mp hd).1
    have := hno k hk
    rw [List.getElem?_eq_getElem hkl] at hd; cases hd
    rw [eqV_flatEq (hfl _ (List.getElem_mem hkl)) hf.1]
    simpa using this
theorem de_lindex {apos cpos : Pos} (ho : DE X W m o fo) (ha : DE X W m a fa) (hbase : attributeBase o "index" X.env (eval o X.env) = eval o X.env := by rfl)
    (hfew : ((backTo cpos (starEach (a :: []) X.env)).all (fun x => !x.1) && (backToKw cpos (keywordEach [] X.env)).all (fun x => x.1.isSome)
      && decide ((a :: []).length + ([] : List Keyword).length + (if ([] : List Keyword).isEmpty then 0 else 1) < 30)) = true := by rfl)
    (hline : (apos.endLine == cpos.line) = true := by rfl) (hs : starEach (a :: []) X.env = (false, eval a X.env) :: starEach [] X.env := by rfl) (hplain : (backTo cpos (starEach [] X.env)).any (·.1) = false := by rfl) :
    DE X W .sh (.Call (.Attribute o "index" apos) [a] [] cpos) (dM1 "list" lindexD fo fa) :=
  de_m1 (mo := fun _ => .sh) PySem.F.plainAttrs_list PySem.F.slot_list_index PySem.F.type_list_index mt_index rm_lindex (fun d1 d2 e h => by unfold lindexD at h; split at h <;> first | (cases h; done) | (split at h <;> first | (cases h; done) | (split at h <;> cases h))) ho ha hbase hfew hline hs hplain
end
/-- s.find(t, i) -/
def find3D (x y i : D) : Res D := match x, y, i with
  | .str a, .str b, .int i => .ok (.int (Txt.find3 a b i))
  | _, _, _ => .stuck
def dFind3 (fo fa fb : ER) : ER := fun δ => (fo δ).bind fun x => if isTD "str" x then (fa δ).bind fun y => (fb δ).bind fun z => find3D x y z else .stuck
theorem de_find3 {apos cpos : Pos} (ho : DE X W m o fo) (ha : DE X W m a fa) (hb : DE X W m b fb) (hbase : attributeBase o "find" X.env (eval o X.env) = eval o X.env := by rfl)
    (hfew : ((backTo cpos (starEach (a :: [b]) X.env)).all (fun x => !x.1) && (backToKw cpos (keywordEach [] X.env)).all (fun x => x.1.isSome)
      && decide ((a :: [b]).length + ([] : List Keyword).length + (if ([] : List Keyword).isEmpty then 0 else 1) < 30)) = true := by rfl)
    (hline : (apos.endLine == cpos.line) = true := by rfl) (hs : starEach (a :: [b]) X.env = (false, eval a X.env) :: starEach [b] X.env := by rfl) (hs2 : starEach [b] X.env = (false, eval b X.env) :: starEach [] X.env := by rfl) (hplain : (backTo cpos (starEach [b] X.env)).any (·.1) = false := by rfl) :
    DE X W .sh (.Call (.Attribute o "find" apos) [a, b] [] cpos) (dFind3 fo fa fb) :=
  pe_weaken (pe_bm PySem.F.plainAttrs_str PySem.F.slot_str_find PySem.F.type_str_find mt_find3 ho (pa_cons ha (pa_cons hb pa_nil hs2) hs) hbase hfew hline hs hplain) fun σ H Q ⟨H0, S, M, δ, F, E, q⟩ => ⟨H0, S, M, δ, F, E, Out.bind q fun d v H1 _ s1 r1 o1 => by
    by_cases hd : isTD "str" d = true
    · rw [if_pos hd] at o1
      refine ⟨isTD_ty hd (Rep.mono (Keeps.of_same same_hide_sub) _ _ (r1.rep E)), H0, S, M, δ, F, E.grow s1, Out.bind o1 fun d2 v2 H2 _ s2 r2 o2 => ⟨H0, S, M, δ, F, (E.grow s1).grow s2, Out.bind o2 fun d3 v3 H3 _ s3 r3 o3 => ?_⟩⟩
      unfold find3D at o3
      split at o3
      · exact ⟨_, _, _, r1.flat_inv rfl, by rw [r2.flat_inv rfl, r3.flat_inv rfl]; rfl, o3 _ H3 (Same.refl _) (ResOk.flat_mk (.int _) rfl fun h => nomatch h)⟩
      · exact o3.elim
    · rw [if_neg hd] at o1
      exact o1.elim⟩
/-! d.get(k), d.get(k, x) -/
def isDic : D → Bool
  | .dic _ => true
  | .dct _ => true
  | _ => false
theorem isDic_at {H : Hp} {d : D} {x : V} (h : isDic d = true) (r : Rep H d x) : ∃ a, x = .ref a ∧ IsD H a := by
  cases d <;> first | (cases h; done) | skip
  · obtain ⟨a, ws, rfl, e, _⟩ := Rep.dic_iff.mp r
    exact ⟨a, rfl, .inl ⟨ws, e⟩⟩
  · obtain ⟨a, ws, rfl, e, _⟩ := Rep.dct_iff.mp r
    exact ⟨a, rfl, .inr ⟨ws, e⟩⟩
theorem isD_hide {P : Addr → Prop} {H : Hp} {a : Addr} (h : IsD (hide P H) a) : IsD H a := by
  rcases h with ⟨k, h⟩ | ⟨k, h⟩
  · exact .inl ⟨k, rd_hide h⟩
  · exact .inr ⟨k, rd_hide h⟩
def dGet1 (fo fa : ER) : ER := fun δ => (fo δ).bind fun x => if isDic x then (fa δ).bind fun y => match askD x y with | some (some e) => .ok e | some none => .ok .non | none => .stuck else .stuck
def dGet2 (fo fa fb : ER) : ER := fun δ => (fo δ).bind fun x => if isDic x then (fa δ).bind fun y => (fb δ).bind fun z => match askD x y with | some (some e) => .ok e | some none => .ok z | none => .stuck else .stuck
theorem de_get1 {apos cpos : Pos} (hu : X.A.units + 64 < cLine) (ho : DE X W m o fo) (ha : DE X W m a fa) (mm : M1 X o "get" apos a cpos := by exact ⟨rfl, rfl, rfl, rfl⟩) : DE X W m.res (.Call (.Attribute o "get" apos) [a] [] cpos) (dGet1 fo fa) :=
  pe_weaken (pe_dget1 (by omega) ho ha mm) fun σ H Q ⟨H0, S, M, δ, F, E, q⟩ => ⟨H0, S, M, δ, F, E, Out.bind q fun d v H1 _ s1 r1 o1 => by
    by_cases hd : isDic d = true
    · rw [if_pos hd] at o1
      obtain ⟨p, rfl, hp⟩ := isDic_at hd (r1.rep E)
      refine ⟨p, rfl, isD_hide hp, H0, S, M, δ, F, E.grow s1, Out.bind o1 fun d2 v2 H2 _ s2 r2 o2 => ?_⟩
      cases h : askD d d2 with
      | none => rw [h] at o2; exact o2.elim
      | some oo =>
        obtain ⟨a', o', e, g, hh⟩ := askD_rep h ((r1.later s2).rep E) (r2.rep (E.grow s1))
        cases e
        refine ⟨o', g, ?_⟩
        rcases hh with ⟨z1, z2⟩ | ⟨e, v, z1, z2, z3⟩
        · rw [h, z1] at o2; rw [z2]; exact o2 _ H2 (Same.refl _) (ResOk.flat_mk .non rfl (Md.res_ne m))
        · rw [h, z1] at o2; rw [z2]; exact o2 _ H2 (Same.refl _) (.of_res z3)
    · rw [if_neg hd] at o1
      exact o1.elim⟩
theorem de_get2 {apos cpos : Pos} (hu : X.A.units + 64 < cLine) (ho : DE X W m o fo) (ha : DE X W m a fa) (hb : DE X W m b fb) (mm : M2 X o "get" apos a b cpos := by exact ⟨rfl, rfl, rfl, rfl⟩) : DE X W m.res (.Call (.Attribute o "get" apos) [a, b] [] cpos) (dGet2 fo fa fb) :=
  pe_weaken (pe_dget2 (by omega) ho ha hb mm) fun σ H Q ⟨H0, S, M, δ, F, E, q⟩ => ⟨H0, S, M, δ, F, E, Out.bind q fun d v H1 _ s1 r1 o1 => by
    by_cases hd : isDic d = true
    · rw [if_pos hd] at o1
      obtain ⟨p, rfl, hp⟩ := isDic_at hd (r1.rep E)
      refine ⟨p, rfl, isD_hide hp, H0, S, M, δ, F, E.grow s1, Out.bind o1 fun d2 v2 H2 _ s2 r2 o2 => ⟨H0, S, M, δ, F, (E.grow s1).grow s2, Out.bind o2 fun d3 v3 H3 _ s3 r3 o3 => ?_⟩⟩
      cases h : askD d d2 with
      | none => rw [h] at o3; exact o3.elim
      | some oo =>
        obtain ⟨a', o', e, g, hh⟩ := askD_rep h ((r1.later (s2.trans s3)).rep E) ((r2.later s3).rep (E.grow s1))
        cases e
        refine ⟨o', g, ?_⟩
        rcases hh with ⟨z1, z2⟩ | ⟨e, v, z1, z2, z3⟩
        · rw [h, z1] at o3; rw [z2]; exact o3 _ H3 (Same.refl _) (.of_res (r3.rep ((E.grow s1).grow s2)))
        · rw [h, z1] at o3; rw [z2]; exact o3 _ H3 (Same.refl _) (.of_res z3)
    · rw [if_neg hd] at o1
      exact o1.elim⟩
/-- a if t else b -/
theorem de_if {t : Expr} {ft : TR} (ht : DT X W t ft) (ha : DE X W m a fa) (hb : DE X W m b fb) : DE X W m (.IfExp t a b pos) (dIfE ft fa fb) :=
  pe_weaken (pe_ifExp ht ha hb) fun σ H Q ⟨H0, S, M, δ, F, E, q⟩ => ⟨H0, S, M, δ, F, E, by
    unfold dIfE at q
    cases hf : ft δ with
    | ok k =>
      rw [hf] at q
      intro H1 s
      cases k with
      | true => exact ⟨H0, S, M, δ, F, E.grow s, Out.mono s q⟩
      | false => exact ⟨H0, S, M, δ, F, E.grow s, Out.mono s q⟩
    | exc e => rw [hf] at q; exact q
    | stuck => rw [hf] at q; exact q⟩
end Dx
end
section
namespace Dx
open PySem L2 PyProof.Rows

inductive SR where
  | nx (δ : Env)
  | ret (d : D) (δ : Env)
  | brk (δ : Env)
  | cont (δ : Env)
  | exc (e : Exn) (δ : Env)
  | stuck
abbrev SM := Env → SR
def RetOk (κ : Md) (H0 : Hp) (S : Addr → Prop) (M : Gh) (H' : Hp) (d : D) (v : V) : Prop := match κ with
  | .fr => ∃ p, v = .ref p ∧ (H0 p = none ∨ M.M p) ∧ Root (hide (fun a => S a ∨ a = p) H') H' d p
  | _ => Rep (hide S H') d v
section
variable {mg : Str → Option Value} {W : WX} {κ m : Md} {S : Addr → Prop} {M : Gh} {F : Nat → List Addr} {H0 H H' : Hp} {σ : L2.St} {δ : Env} {Dn : Ends}
def OutS (mg : Str → Option Value) (κ : Md) (W : WX) (H0 : Hp) (S : Addr → Prop) (M : Gh) (r : SR) (Dn : Ends) : Prop := match r with
  | .nx δ => ∀ σ H F, EOk H0 S M σ H δ F → Dn.nx σ H
  | .brk δ => ∀ σ H F, EOk H0 S M σ H δ F → Dn.bk σ H
  | .cont δ => ∀ σ H F, EOk H0 S M σ H δ F → Dn.ct σ H
  | .ret d δ => ∀ v σ H F, EOk H0 S M σ H δ F → RetOk κ H0 S M H d v → Dn.rt v H
  | .exc e δ => ∀ cls dx σ H F, EOk H0 S M σ H δ F → ExcAt mg S H e cls dx → W cls dx σ H
  | .stuck => False
def tS (mg : Str → Option Value) (κ : Md) (W : WX) (f : SM) : TS := fun Dn σ H => ∃ H0 S M δ F, EOk H0 S M σ H δ F ∧ OutS mg κ W H0 S M (f δ) Dn
theorem ExcAt.weak {O O' : Addr → Prop} {e : Exn} {cls : Value} {dx : Option Addr} (h : ∀ a, O' a → O a) (x : ExcAt mg O H e cls dx) : ExcAt mg O' H e cls dx := by
  refine ⟨x.1, ?_⟩
  have x2 := x.2
  cases ha : e.arg with
  | none => trivial
  | some p =>
    obtain ⟨f, d⟩ := p
    rw [ha] at x2
    obtain ⟨a, v, h1, h2, h3⟩ := x2
    exact ⟨a, v, h1, h2, Rep.mono (Keeps.of_same (same_hide (fun _ _ _ h => h) fun a q => .inl (h a q))) _ _ h3⟩
/-- an expression's value, then a statement -/
def sBind {α : Type} (r : Res α) (δ : Env) (k : α → SR) : SR := match r with
  | .ok d => k d
  | .exc e => .exc e δ
  | .stuck => .stuck
@[simp] theorem sBind_ok {α : Type} (d : α) (δ : Env) (k : α → SR) : sBind (.ok d) δ k = k d := rfl
@[simp] theorem sBind_exc {α : Type} (e : Exn) (δ : Env) (k : α → SR) : sBind (.exc e) δ k = .exc e δ := rfl
@[simp] theorem sBind_stuck {α : Type} (δ : Env) (k : α → SR) : sBind (.stuck : Res α) δ k = .stuck := rfl
theorem Out.ofS {r : Res D} {k : D → SR} {P : VK} (E : EOk H0 S M σ H δ F) (h : OutS mg κ W H0 S M (sBind r δ k) Dn) (hp : ∀ d v H1, Same H H1 → ResOk S F H H1 m d v → OutS mg κ W H0 S M (k d) Dn → P v H1) : Out mg W σ H S F m r P := by
  cases r with
  | ok d => exact fun v H1 s q => hp d v H1 s q h
  | exc e => exact fun cls dx H' s x => h cls dx σ H' F (E.grow s) x
  | stuck => exact h
theorem OutT.ofS {r : Res Bool} {k : Bool → SR} {P : Bool → Hp → Prop} (E : EOk H0 S M σ H δ F) (h : OutS mg κ W H0 S M (sBind r δ k) Dn) (hp : ∀ d H1, Same H H1 → OutS mg κ W H0 S M (k d) Dn → P d H1) : OutT mg W σ H S F r P := by
  cases r with
  | ok d => exact fun H1 s => hp d H1 s h
  | exc e => exact fun cls dx H' s x => h cls dx σ H' F (E.grow s) x
  | stuck => exact h
theorem OutA.ofS {r : Res (List D)} {k : List D → SR} {P : List V → Hp → Prop} (E : EOk H0 S M σ H δ F) (h : OutS mg κ W H0 S M (sBind r δ k) Dn) (hp : ∀ d v H1, Same H H1 → Reps (hide (Pm m S F) H1) d v → OutS mg κ W H0 S M (k d) Dn → P v H1) : OutA mg W σ H S F m r P := by
  cases r with
  | ok d => exact fun v H1 s q => hp d v H1 s q h
  | exc e => exact fun cls dx H' s x => h cls dx σ H' F (E.grow s) x
  | stuck => exact h
theorem EOk.setRoE (E : EOk H0 S M σ H δ F) (s : Same H H') {i : Nat} {p : Addr} {d : D} (hp : H p = none) (r : Root (hide (fun a => Oc S F a ∨ a = p) H') H' d p) :
    ∃ F', EOk H0 S M (σ.set i (some (.ref p))) H' (δ.set i (.ro d)) F' := by
  by_cases hi : i < δ.length
  · exact ⟨_, E.setRo s hi hp r⟩
  · have e1 : δ.set i (.ro d) = δ := List.set_eq_of_length_le (Nat.le_of_not_lt hi)
    have e2 : σ.set i (some (V.ref p)) = σ := List.set_eq_of_length_le (by rw [E.len]; exact Nat.le_of_not_lt hi)
    rw [e1, e2]
    exact ⟨F, E.grow s⟩
end

variable {X : Cx} {W : WX} {m κ : Md} {a b c e o : Expr} {fa fb fc fo f : ER} {pos : Pos} {st : Stmt} {rest body : List Stmt} {F1 F2 G : SM}
variable {S : Addr → Prop} {M : Gh} {F : Nat → List Addr} {H0 H H' : Hp} {σ : L2.St} {δ : Env}
def DS (X : Cx) (κ : Md) (W : WX) (st : Stmt) (f : SM) : Prop := PS X st (tS X.mg κ W f)
def DB (X : Cx) (κ : Md) (W : WX) (st : List Stmt) (f : SM) : Prop := PSs X st (tS X.mg κ W f)
theorem ps_weaken {t t' : TS} (h : PS X st t) (hw : ∀ D σ H, t' D σ H → t D σ H) : PS X st t' := ⟨fun pins s σ H D I q => h.run pins s σ H D I (hw D σ H q)⟩
theorem pss_weaken {sts : List Stmt} {t t' : TS} (h : PSs X sts t) (hw : ∀ D σ H, t' D σ H → t D σ H) : PSs X sts t' := ⟨fun pins s σ H D I q => h.run pins s σ H D I (hw D σ H q)⟩
def dSkip : SM := fun δ => .nx δ
def dSeq (f g : SM) : SM := fun δ => match f δ with
  | .nx δ => g δ
  | r => r
theorem db_nil : DB X κ W [] dSkip := pss_weaken pss_nil fun D σ H ⟨H0, S, M, δ, F, E, q⟩ => q σ H F E
theorem db_cons (h1 : DS X κ W st F1) (h2 : DB X κ W rest F2) : DB X κ W (st :: rest) (dSeq F1 F2) := pss_weaken (pss_cons h1 h2) fun D σ H ⟨H0, S, M, δ, F, E, q⟩ => by
  refine ⟨H0, S, M, δ, F, E, ?_⟩
  unfold dSeq at q
  cases hf : F1 δ with
  | nx δ1 => rw [hf] at q; exact fun σ H F E => ⟨H0, S, M, δ1, F, E, q⟩
  | ret d δ1 => rw [hf] at q; exact q
  | brk δ1 => rw [hf] at q; exact q
  | cont δ1 => rw [hf] at q; exact q
  | exc e δ1 => rw [hf] at q; exact q
  | stuck => rw [hf] at q; exact q
theorem db_one (h1 : DS X κ W st F1) : DB X κ W [st] F1 := pss_one h1
/-- a step of the account alone -/
theorem ds_pre {p : Env → Env} (hp : ∀ {H0 S M σ H δ F}, EOk H0 S M σ H δ F → ∃ F', EOk H0 S M σ H (p δ) F') (h : DS X κ W st F1) : DS X κ W st (fun δ => F1 (p δ)) := ps_weaken h fun D σ H ⟨H0, S, M, δ, F, E, q⟩ => by
  obtain ⟨F', E'⟩ := hp E
  exact ⟨H0, S, M, p δ, F', E', q⟩
theorem db_pre {p : Env → Env} (hp : ∀ {H0 S M σ H δ F}, EOk H0 S M σ H δ F → ∃ F', EOk H0 S M σ H (p δ) F') (h : DB X κ W rest F1) : DB X κ W rest (fun δ => F1 (p δ)) := pss_weaken h fun D σ H ⟨H0, S, M, δ, F, E, q⟩ => by
  obtain ⟨F', E'⟩ := hp E
  exact ⟨H0, S, M, p δ, F', E', q⟩
/-- a slot is shared from here on; slots are forgotten -/
def frz (i : Nat) (δ : Env) : Env := match δ.getD i .no with
  | .ro d => δ.set i (.sh d)
  | _ => δ
def forg : List Nat → Env → Env
  | [], δ => δ
  | i :: r, δ => forg r (δ.set i .no)
theorem frz_ok {i : Nat} (E : EOk H0 S M σ H δ F) : ∃ F', EOk H0 S M σ H (frz i δ) F' := by
  unfold frz
  split
  · exact ⟨_, E.freeze (by assumption)⟩
  · exact ⟨F, E⟩
theorem forg_ok : ∀ {l : List Nat} {δ : Env} {F : Nat → List Addr}, EOk H0 S M σ H δ F → ∃ F', EOk H0 S M σ H (forg l δ) F'
  | [], δ, F, E => ⟨F, E⟩
  | i :: r, δ, F, E => by
    show ∃ F', EOk H0 S M σ H (forg r (δ.set i .no)) F'
    exact forg_ok (E.forget i)
def dFrz (i : Nat) (f : SM) : SM := fun δ => f (frz i δ)
theorem ds_frz (i : Nat) (h : DS X κ W st F1) : DS X κ W st (dFrz i F1) := ds_pre (p := frz i) (fun E => frz_ok E) h
def dForg (l : List Nat) (f : SM) : SM := fun δ => f (forg l δ)
theorem ds_forg (l : List Nat) (h : DS X κ W st F1) : DS X κ W st (dForg l F1) := ds_pre (p := forg l) (fun E => forg_ok E) h
theorem db_forg (l : List Nat) (h : DB X κ W rest F1) : DB X κ W rest (dForg l F1) := db_pre (p := forg l) (fun E => forg_ok E) h

/-! simple statements -/
theorem ds_pass : DS X κ W (.Pass pos) dSkip := ps_weaken ps_pass fun D σ H ⟨H0, S, M, δ, F, E, q⟩ => q σ H F E
def dBrk : SM := fun δ => .brk δ
def dCont : SM := fun δ => .cont δ
theorem ds_break : DS X κ W (.Break pos) dBrk := ps_weaken ps_break fun D σ H ⟨H0, S, M, δ, F, E, q⟩ => q σ H F E
theorem ds_continue : DS X κ W (.Continue pos) dCont := ps_weaken ps_continue fun D σ H ⟨H0, S, M, δ, F, E, q⟩ => q σ H F E
def dDrop (f : ER) : SM := fun δ => sBind (f δ) δ fun _ => .nx δ
theorem ds_expr (he : DE X W m e f) (hs : swapsWith e none pos.line X.env = pure false := by rfl) : DS X κ W (.Expr e pos) (dDrop f) := ps_weaken (ps_expr he hs) fun D σ H ⟨H0, S, M, δ, F, E, q⟩ =>
  ⟨H0, S, M, δ, F, E, Out.ofS E q fun d v H1 s r o => o σ H1 F (E.grow s)⟩
def dSet (i : Nat) (f : ER) : SM := fun δ => sBind (f δ) δ fun d => .nx (δ.set i (.sh d))
def dSetR (i : Nat) (f : ER) : SM := fun δ => sBind (f δ) δ fun d => .nx (δ.set i (.ro d))
theorem ds_set {i : Nat} {x : Str} {pos' : Pos} (hN : X.N.Nodup) (he : DE X W .sh e f) (hi : X.N[i]? = some x := by rfl) (hx : Loc X.env.scope x := by first | exact .inl rfl | exact .inr rfl) (hs : swapsWith e (some (.Name x pos')) pos.line X.env = pure false := by rfl) (hf : X.fn x = true ∨ X.env.scope.names.lookup x = some .local := by first | exact .inl rfl | exact .inr rfl | assumption) :
    DS X κ W (.Assign [.Name x pos'] e pos) (dSet i f) := ps_weaken (ps_set hN hi hx he hs hf) fun D σ H ⟨H0, S, M, δ, F, E, q⟩ =>
  ⟨H0, S, M, δ, F, E, Out.ofS E q fun d v H1 s r o => o _ H1 _ ((E.grow s).setSh r)⟩
theorem ds_setR {i : Nat} {x : Str} {pos' : Pos} (hN : X.N.Nodup) (he : DE X W .fr e f) (hi : X.N[i]? = some x := by rfl) (hx : Loc X.env.scope x := by first | exact .inl rfl | exact .inr rfl) (hs : swapsWith e (some (.Name x pos')) pos.line X.env = pure false := by rfl) (hf : X.fn x = true ∨ X.env.scope.names.lookup x = some .local := by first | exact .inl rfl | exact .inr rfl | assumption) :
    DS X κ W (.Assign [.Name x pos'] e pos) (dSetR i f) := ps_weaken (ps_set hN hi hx he hs hf) fun D σ H ⟨H0, S, M, δ, F, E, q⟩ =>
  ⟨H0, S, M, δ, F, E, Out.ofS E q fun d v H1 s r o => by
    obtain ⟨p, rfl, hp, r⟩ := r
    obtain ⟨F', E'⟩ := E.setRoE (i := i) s hp r
    exact o _ H1 F' E'⟩
def dRet (f : ER) : SM := fun δ => sBind (f δ) δ fun d => .ret d δ
theorem ds_ret (hk : κ ≠ .fr) (he : DE X W .bo e f) : DS X κ W (.Return (some e) pos) (dRet f) := ps_weaken (ps_ret he) fun D σ H ⟨H0, S, M, δ, F, E, q⟩ =>
  ⟨H0, S, M, δ, F, E, Out.ofS E q fun d v H1 s r o => o v σ H1 F (E.grow s) (by cases κ <;> first | exact r | exact (hk rfl).elim)⟩
theorem ds_retF (he : DE X W .fr e f) : DS X .fr W (.Return (some e) pos) (dRet f) := ps_weaken (ps_ret he) fun D σ H ⟨H0, S, M, δ, F, E, q⟩ =>
  ⟨H0, S, M, δ, F, E, Out.ofS E q fun d v H1 s r o => by
    obtain ⟨p, rfl, hp, r⟩ := r
    refine o _ σ H1 F (E.grow s) ⟨p, rfl, ?_, r.mono (Keeps.of_same (same_hide (fun _ _ _ h => h) fun a h => h.elim (fun h => .inl (.inl (.inl h))) fun h => .inl (.inr h))) rfl⟩
    cases q : H0 p with
    | none => exact .inl rfl
    | some u =>
      refine .inr (Classical.byContradiction fun hm => ?_)
      rw [E.ext p u q hm] at hp; cases hp⟩
theorem ds_retN (hk : κ ≠ .fr) : DS X κ W (.Return none pos) (fun δ => .ret .non δ) := ps_weaken ps_retN fun D σ H ⟨H0, S, M, δ, F, E, q⟩ => q _ σ H F E (by
  cases κ with
  | fr => exact (hk rfl).elim
  | bo => show Rep _ _ _; exact Rep.non_iff.mpr rfl
  | sh => show Rep _ _ _; exact Rep.non_iff.mpr rfl)
end Dx
end
section
namespace Dx
open PySem L2 PyProof.Rows

variable {X : Cx} {W : WX} {m κ : Md} {a b c e o : Expr} {fa fb fc fo f fk fv : ER} {pos : Pos} {st : Stmt} {rest body : List Stmt} {F1 F2 G : SM}
variable {S : Addr → Prop} {M : Gh} {F : Nat → List Addr} {H0 H H' : Hp} {σ : L2.St} {δ : Env}

theorem EOk.ro_at (E : EOk H0 S M σ H δ F) {i : Nat} {d : D} (h : δ.getD i .no = .ro d) : ∃ a, F i = [a] ∧ σ[i]? = some (some (.ref a)) ∧ Root (hide (Oc S F) H) H d a := by
  have q := E.slot i
  rw [h] at q
  exact q
/-- return x, x's own object -/
def dRetV (i : Nat) : SM := fun δ => match δ.getD i .no with
  | .ro d => .ret d δ
  | _ => .stuck
theorem ds_retV (i : Nat) {x : Str} {p : Pos} (hN : X.N[i]? = some x := by rfl) (hv : Vis X.env.scope x := by first | exact Or.inl rfl | exact Or.inr (Or.inl rfl) | exact Or.inr (Or.inr rfl)) (hd : (x == ("__debug__" : Str)) = false := by decide)
    (hcd : (x == ("__classdict__" : Str)) = false := by decide) : DS X .fr W (.Return (some (.Name x p)) pos) (dRetV i) := by
  refine ps_weaken (ps_ret (pe_var hN hv hd hcd)) fun D σ H ⟨H0, S, M, δ, F, E, q⟩ => ?_
  unfold dRetV at q
  cases h : δ.getD i .no with
  | no => rw [h] at q; exact q.elim
  | sh d => rw [h] at q; exact q.elim
  | ro d =>
    rw [h] at q
    obtain ⟨a, e1, e2, r⟩ := E.ro_at h
    have hm : a ∈ F i := by simp [e1]
    have hO : Oc S F a := .inr ⟨i, hm⟩
    exact ⟨_, e2, q _ σ H F E ⟨a, rfl, (E.own i a hm).2.1, r.mono (Keeps.of_same (same_hide (fun _ _ _ h => h) fun b h => .inl (h.elim .inl fun h => by rw [h]; exact hO))) rfl⟩⟩
/-! if -/
def dIf (t : TR) (f g : SM) : SM := fun δ => sBind (t δ) δ fun b => if b = true then f δ else g δ
theorem ds_if {t : Expr} {as bs : List Stmt} {ft : TR} (ht : DT X W t ft) (ha : DB X κ W as F1) (hb : DB X κ W bs F2) : DS X κ W (.If t as bs pos) (dIf ft F1 F2) := ps_weaken (ps_if ht ha hb) fun D σ H ⟨H0, S, M, δ, F, E, q⟩ =>
  ⟨H0, S, M, δ, F, E, OutT.ofS E q fun k H1 s o => by
    cases k with
    | true => exact ⟨H0, S, M, δ, F, E.grow s, o⟩
    | false => exact ⟨H0, S, M, δ, F, E.grow s, o⟩⟩

/-! an own list: append, pop, clear, x[i] = e -/
section
variable {x : Str} {p apos cpos p2 : Pos} {i j : Nat}
def dApp (i : Nat) (f : ER) : SM := fun δ => match δ.getD i .no with
  | .ro (.lst ds) => sBind (f δ) δ fun d => if ds.length < 1000000 then .nx (δ.set i (.ro (.lst (ds ++ [d])))) else .stuck
  | _ => .stuck
theorem lt_line {n : Nat} (h : n < 1000000) : n < sizeLine := Nat.lt_of_lt_of_le h (by rw [sizeLine_eq]; decide)
theorem same_at {H H1 : Hp} (s : Same H H1) {a : Addr} {u : HO} (h : H a = some u) : H1 a = some u := s _ _ h
theorem ds_append (i : Nat) (ha : DE X W .sh a f) (hN : X.N[i]? = some x := by rfl) (hv : Vis X.env.scope x := by first | exact Or.inl rfl | exact Or.inr (Or.inl rfl) | exact Or.inr (Or.inr rfl)) (hd : (x == ("__debug__" : Str)) = false := by decide)
    (hcd : (x == ("__classdict__" : Str)) = false := by decide)
    (hbase : attributeBase (.Name x p) "append" X.env (eval (.Name x p) X.env) = eval (.Name x p) X.env := by rfl)
    (hfew : ((backTo cpos (starEach (a :: []) X.env)).all (fun x => !x.1) && (backToKw cpos (keywordEach [] X.env)).all (fun x => x.1.isSome)
      && decide ((a :: []).length + ([] : List Keyword).length + (if ([] : List Keyword).isEmpty then 0 else 1) < 30)) = true := by rfl)
    (hline : (apos.endLine == cpos.line) = true := by rfl) (hs : starEach (a :: []) X.env = (false, eval a X.env) :: starEach [] X.env := by rfl) (hplain : (backTo cpos (starEach [] X.env)).any (·.1) = false := by rfl)
    (hsw : swapsWith (.Call (.Attribute (.Name x p) "append" apos) [a] [] cpos) none pos.line X.env = pure false := by rfl) :
    DS X κ W (.Expr (.Call (.Attribute (.Name x p) "append" apos) [a] [] cpos) pos) (dApp i f) := by
  refine ps_weaken (ps_expr (pe_bm PySem.F.plainAttrs_list PySem.F.slot_list_append PySem.F.type_list_append mt_append (pe_var hN hv hd hcd) (pa_cons ha pa_nil hs) hbase hfew hline hs hplain) hsw) fun D σ H ⟨H0, S, M, δ, F, E, q⟩ => ?_
  unfold dApp at q
  cases h : δ.getD i .no with
  | no => rw [h] at q; exact q.elim
  | sh d => rw [h] at q; exact q.elim
  | ro d =>
    rw [h] at q
    cases d <;> try exact q.elim
    rename_i ds
    obtain ⟨l, e1, e2, vs, hl, r⟩ := E.ro_at h
    refine ⟨_, e2, .inl ⟨rfl, vs, .inl (.inl hl)⟩, H0, S, M, δ, F, E, Out.ofS E q fun d v H1 s rr o => ?_⟩
    have E1 := E.grow s
    have hl1 := s _ _ hl
    have ln := r.length
    split at o
    · rename_i hlen
      refine ⟨l, vs, v, rfl, rfl, hl1, lt_line (by omega), o _ _ F (E1.write h e2 ?_)⟩
      exact ⟨vs ++ [v], upd_same, (Reps.mono (hide_keeps s) _ _ r).append (.cons rr .nil)⟩
    · exact o.elim
/-- y = x.pop() -/
def dPop (j i : Nat) : SM := fun δ => match δ.getD i .no with
  | .ro (.lst ds) => match ds.getLast? with
    | some d => .nx ((δ.set i (.ro (.lst ds.dropLast))).set j (.sh d))
    | none => .stuck
  | _ => .stuck
theorem ds_pop (j i : Nat) {y : Str} (hNd : X.N.Nodup) (hj : X.N[j]? = some y := by rfl) (hy : Loc X.env.scope y := by first | exact .inl rfl | exact .inr rfl)
    (hN : X.N[i]? = some x := by rfl) (hv : Vis X.env.scope x := by first | exact Or.inl rfl | exact Or.inr (Or.inl rfl) | exact Or.inr (Or.inr rfl)) (hd : (x == ("__debug__" : Str)) = false := by decide)
    (hcd : (x == ("__classdict__" : Str)) = false := by decide)
    (hbase : attributeBase (.Name x p) "pop" X.env (eval (.Name x p) X.env) = eval (.Name x p) X.env := by rfl) (hline : (apos.endLine == cpos.line) = true := by rfl)
    (hsw : swapsWith (.Call (.Attribute (.Name x p) "pop" apos) [] [] cpos) (some (.Name y p2)) pos.line X.env = pure false := by rfl) (hf : X.fn y = true ∨ X.env.scope.names.lookup y = some .local := by first | exact .inl rfl | exact .inr rfl | assumption) :
    DS X κ W (.Assign [.Name y p2] (.Call (.Attribute (.Name x p) "pop" apos) [] [] cpos) pos) (dPop j i) := by
  refine ps_weaken (ps_set hNd hj hy (pe_bm0 PySem.F.plainAttrs_list PySem.F.slot_list_pop PySem.F.type_list_pop mt_pop (pe_var hN hv hd hcd) hbase hline) hsw hf) fun D σ H ⟨H0, S, M, δ, F, E, q⟩ => ?_
  unfold dPop at q
  cases h : δ.getD i .no with
  | no => rw [h] at q; exact q.elim
  | sh d => rw [h] at q; exact q.elim
  | ro d =>
    rw [h] at q
    cases d <;> try exact q.elim
    rename_i ds
    obtain ⟨l, e1, e2, vs, hl, r⟩ := E.ro_at h
    dsimp only at q
    cases hg : ds.getLast? with
    | none => rw [hg] at q; exact q.elim
    | some d =>
      rw [hg] at q
      have ln := r.length
      have hgv : ds[ds.length - 1]? = some d := by rw [← List.getLast?_eq_getElem?]; exact hg
      obtain ⟨v, hv2, rv⟩ := r.get hgv
      rw [ln] at hv2
      refine ⟨_, e2, .inl ⟨rfl, vs, .inl (.inl hl)⟩, l, vs, v, rfl, rfl, hl, hv2, ?_⟩
      have E2 := E.write h e2 (o := .lst vs.dropLast) (d' := .lst ds.dropLast) ⟨vs.dropLast, upd_same, r.dropLast⟩
      refine q _ _ _ (E2.setSh (v := v) ?_)
      have hm : l ∈ F i := by simp [e1]
      have he : hide (Oc S F) (upd H l (.lst vs.dropLast)) = hide (Oc S F) H := by
        funext b
        by_cases hb : Oc S F b
        · rw [hide_in hb, hide_in hb]
        · rw [hide_out hb, hide_out hb, upd_ne (fun q => hb (by rw [q]; exact .inr ⟨i, hm⟩))]
      rw [he]; exact rv
/-- x.clear() -/
def dClear (i : Nat) : SM := fun δ => match δ.getD i .no with
  | .ro (.lst ds) => .nx (δ.set i (.ro (.lst [])))
  | _ => .stuck
theorem ds_clear (i : Nat) (hN : X.N[i]? = some x := by rfl) (hv : Vis X.env.scope x := by first | exact Or.inl rfl | exact Or.inr (Or.inl rfl) | exact Or.inr (Or.inr rfl)) (hd : (x == ("__debug__" : Str)) = false := by decide)
    (hcd : (x == ("__classdict__" : Str)) = false := by decide)
    (hbase : attributeBase (.Name x p) "clear" X.env (eval (.Name x p) X.env) = eval (.Name x p) X.env := by rfl) (hline : (apos.endLine == cpos.line) = true := by rfl)
    (hsw : swapsWith (.Call (.Attribute (.Name x p) "clear" apos) [] [] cpos) none pos.line X.env = pure false := by rfl) :
    DS X κ W (.Expr (.Call (.Attribute (.Name x p) "clear" apos) [] [] cpos) pos) (dClear i) := by
  refine ps_weaken (ps_expr (pe_bm0 PySem.F.plainAttrs_list PySem.F.slot_list_clear PySem.F.type_list_clear mt_clear (pe_var hN hv hd hcd) hbase hline) hsw) fun D σ H ⟨H0, S, M, δ, F, E, q⟩ => ?_
  unfold dClear at q
  cases h : δ.getD i .no with
  | no => rw [h] at q; exact q.elim
  | sh d => rw [h] at q; exact q.elim
  | ro d =>
    rw [h] at q
    cases d <;> try exact q.elim
    rename_i ds
    obtain ⟨l, e1, e2, vs, hl, r⟩ := E.ro_at h
    exact ⟨_, e2, .inl ⟨rfl, vs, .inl (.inl hl)⟩, l, vs, rfl, rfl, hl, q _ _ F (E.write h e2 ⟨[], upd_same, .nil⟩)⟩
/-- x[k] = e, x an own list -/
def dLput (i : Nat) (fk fv : ER) : SM := fun δ => match δ.getD i .no with
  | .ro (.lst ds) => sBind (fv δ) δ fun v => sBind (fk δ) δ fun k => match k with
    | .int n => match ixN ds.length n with
      | some j => .nx (δ.set i (.ro (.lst (ds.set j v))))
      | none => .stuck
    | _ => .stuck
  | _ => .stuck
theorem ds_lput (i : Nat) (hk : DE X W m b fk) (he : DE X W .sh e fv) (hN : X.N[i]? = some x := by rfl) (hv : Vis X.env.scope x := by first | exact Or.inl rfl | exact Or.inr (Or.inl rfl) | exact Or.inr (Or.inr rfl)) (hd : (x == ("__debug__" : Str)) = false := by decide)
    (hcd : (x == ("__classdict__" : Str)) = false := by decide)
    (ha : ∀ v, assign (.Subscript (.Name x p) b p2) X.env v = (do
      let ov ← holding [v] (eval (.Name x p) X.env)
      let iv ← holding [v, ov] (eval b X.env)
      standAt p2
      holding [v, ov, iv] (setItem ov iv v)
      release [v, ov, iv] []) := by intro _; rfl)
    (hs : swapsWithSole [.Subscript (.Name x p) b p2] e pos.line X.env = pure false := by rfl) (hw : swappedStores [.Subscript (.Name x p) b p2] e X.env = pure none := by rfl)
    (h1 : (assignEach [.Subscript (.Name x p) b p2] X.env).map (·.2) = [assign (.Subscript (.Name x p) b p2) X.env] := by rfl) :
    DS X κ W (.Assign [.Subscript (.Name x p) b p2] e pos) (dLput i fk fv) := by
  refine ps_weaken (ps_asg he (pg_sub (pe_var hN hv hd hcd) hk set_list ha) hs hw h1) fun D σ H ⟨H0, S, M, δ, F, E, q⟩ => ?_
  unfold dLput at q
  cases h : δ.getD i .no with
  | no => rw [h] at q; exact q.elim
  | sh d => rw [h] at q; exact q.elim
  | ro d =>
    rw [h] at q
    cases d <;> try exact q.elim
    rename_i ds
    obtain ⟨l, e1, e2, vs, hl, r⟩ := E.ro_at h
    refine ⟨H0, S, M, δ, F, E, Out.ofS E q fun dv v H1 s1 r1 o1 => ⟨_, e2, H0, S, M, δ, F, E.grow s1, Out.ofS (E.grow s1) o1 fun dk vk H2 s2 r2 o2 => ?_⟩⟩
    have E2 := (E.grow s1).grow s2
    have hl2 := s2 _ _ (s1 _ _ hl)
    have ln := r.length
    cases dk <;> try exact o2.elim
    rename_i n
    dsimp only at o2
    cases hx : ixN ds.length n with
    | none => rw [hx] at o2; exact o2.elim
    | some j =>
      rw [hx] at o2
      refine ⟨l, vs, n, j, rfl, r2.flat_inv rfl, hl2, by rw [← ln]; exact hx, o2 _ _ F (E2.write h e2 ?_)⟩
      exact ⟨vs.set j v, upd_same, (Reps.mono (hide_keeps (s1.trans s2)) _ _ r).set j (Rep.mono (hide_keeps s2) _ _ r1)⟩

/-! an own dict -/
def putD {κ : Type} [DecidableEq κ] (kvs : List (κ × D)) (k : κ) (v : D) : List (κ × D) :=
  if kvs.any (fun kv => decide (kv.1 = k)) then kvs.map (fun kv => if kv.1 = k then (kv.1, v) else kv) else kvs ++ [(k, v)]
theorem RepK.put {H : Hp} {k : Key} {d : D} {v : V} (rv : Rep H d v) : ∀ {xs : List (Key × D)} {ws : List (Key × V)}, RepK H xs ws → RepK H (putD xs k d) (putK ws k v) := by
  intro xs ws h
  have ha : (xs.any fun kv => decide (kv.1 = k)) = (ws.any fun kv => decide (kv.1 = k)) := by
    have e := h.keys
    rw [show (fun (kv : Key × D) => decide (kv.1 = k)) = (fun y => decide (y = k)) ∘ Prod.fst from rfl, ← List.any_map, e, List.any_map]; rfl
  unfold putD putK
  rw [ha]
  split
  · clear ha
    revert ws
    induction xs with
    | nil => intro ws h _; rw [RepK] at h; subst h; rw [List.map_nil, List.map_nil, RepK]
    | cons p r ih =>
      obtain ⟨k0, d0⟩ := p
      intro ws h _
      rw [RepK] at h
      obtain ⟨v0, r', rfl, p, q⟩ := h
      rw [List.map_cons, List.map_cons]
      by_cases e : k0 = k
      · subst e
        simp only [if_true]
        rw [RepK]
        exact ⟨v, _, rfl, rv, by
          have := ih q
          by_cases hh : (r'.any fun kv => decide (kv.1 = k0)) = true
          · exact this hh
          · have hno : ∀ y ∈ r', ¬ y.1 = k0 := fun y hy e => hh (List.any_eq_true.mpr ⟨y, hy, decide_eq_true e⟩)
            have hno2 : ∀ y ∈ r, ¬ y.1 = k0 := fun y hy e => by
              have hk := q.keys
              have : y.1 ∈ r.map (·.1) := List.mem_map_of_mem (f := (·.1)) hy
              rw [hk] at this
              obtain ⟨z, hz, ez⟩ := List.mem_map.mp this
              exact hno z hz (ez.trans e)
            have m1 : (r.map fun kv => if kv.1 = k0 then (kv.1, d) else kv) = r := by
              conv => rhs; rw [← List.map_id r]
              exact List.map_congr_left fun y hy => by rw [if_neg (hno2 y hy)]; rfl
            have m2 : (r'.map fun kv => if kv.1 = k0 then (kv.1, v) else kv) = r' := by
              conv => rhs; rw [← List.map_id r']
              exact List.map_congr_left fun y hy => by rw [if_neg (hno y hy)]; rfl
            rw [m1, m2]; exact q⟩
      · simp only [if_neg e]
        rw [RepK]
        refine ⟨v0, _, rfl, p, ih q ?_⟩
        rename_i hh
        simpa [e] using hh
  · clear ha
    revert ws
    induction xs with
    | nil => intro ws h _; rw [RepK] at h; subst h; show RepK H [(k, d)] [(k, v)]; rw [RepK]; exact ⟨v, [], rfl, rv, by rw [RepK]⟩
    | cons p r ih =>
      obtain ⟨k0, d0⟩ := p
      intro ws h hh
      rw [RepK] at h
      obtain ⟨v0, r', rfl, p, q⟩ := h
      rw [List.cons_append, List.cons_append, RepK]
      exact ⟨v0, _, rfl, p, ih q (by simp at hh ⊢; exact hh.2)⟩
theorem RepT.put {H : Hp} {k : List Key} {d : D} {v : V} (rv : Rep H d v) : ∀ {xs : List (List Key × D)} {ws : List (List Key × V)}, RepT H xs ws → RepT H (putD xs k d) (putK ws k v) := by
  intro xs ws h
  have ha : (xs.any fun kv => decide (kv.1 = k)) = (ws.any fun kv => decide (kv.1 = k)) := by
    have e := h.keys
    rw [show (fun (kv : List Key × D) => decide (kv.1 = k)) = (fun y => decide (y = k)) ∘ Prod.fst from rfl, ← List.any_map, e, List.any_map]; rfl
  unfold putD putK
  rw [ha]
  split
  · clear ha
    revert ws
    induction xs with
    | nil => intro ws h _; rw [RepT] at h; subst h; rw [List.map_nil, List.map_nil, RepT]
    | cons p r ih =>
      obtain ⟨k0, d0⟩ := p
      intro ws h _
      rw [RepT] at h
      obtain ⟨v0, r', rfl, p, q⟩ := h
      rw [List.map_cons, List.map_cons]
      by_cases e : k0 = k
      · subst e
        simp only [if_true]
        rw [RepT]
        exact ⟨v, _, rfl, rv, by
          have := ih q
          by_cases hh : (r'.any fun kv => decide (kv.1 = k0)) = true
          · exact this hh
          · have hno : ∀ y ∈ r', ¬ y.1 = k0 := fun y hy e => hh (List.any_eq_true.mpr ⟨y, hy, decide_eq_true e⟩)
            have hno2 : ∀ y ∈ r, ¬ y.1 = k0 := fun y hy e => by
              have hk := q.keys
              have : y.1 ∈ r.map (·.1) := List.mem_map_of_mem (f := (·.1)) hy
              rw [hk] at this
              obtain ⟨z, hz, ez⟩ := List.mem_map.mp this
              exact hno z hz (ez.trans e)
            have m1 : (r.map fun kv => if kv.1 = k0 then (kv.1, d) else kv) = r := by
              conv => rhs; rw [← List.map_id r]
              exact List.map_congr_left fun y hy => by rw [if_neg (hno2 y hy)]; rfl
            have m2 : (r'.map fun kv => if kv.1 = k0 then (kv.1, v) else kv) = r' := by
              conv => rhs; rw [← List.map_id r']
              exact List.map_congr_left fun y hy => by rw [if_neg (hno y hy)]; rfl
            rw [m1, m2]; exact q⟩
      · simp only [if_neg e]
        rw [RepT]
        refine ⟨v0, _, rfl, p, ih q ?_⟩
        rename_i hh
        simpa [e] using hh
  · clear ha
    revert ws
    induction xs with
    | nil => intro ws h _; rw [RepT] at h; subst h; show RepT H [(k, d)] [(k, v)]; rw [RepT]; exact ⟨v, [], rfl, rv, by rw [RepT]⟩
    | cons p r ih =>
      obtain ⟨k0, d0⟩ := p
      intro ws h hh
      rw [RepT] at h
      obtain ⟨v0, r', rfl, p, q⟩ := h
      rw [List.cons_append, List.cons_append, RepT]
      exact ⟨v0, _, rfl, p, ih q (by simp at hh ⊢; exact hh.2)⟩

def dDput (i : Nat) (fk fv : ER) : SM := fun δ => match δ.getD i .no with
  | .ro (.dic kvs) => sBind (fv δ) δ fun v => sBind (fk δ) δ fun k => match keyOf k with
    | some k => if kvs.length < 1000000 then .nx (δ.set i (.ro (.dic (putD kvs k v)))) else .stuck
    | none => .stuck
  | .ro (.dct kvs) => sBind (fv δ) δ fun v => sBind (fk δ) δ fun k => match tkeyOf k with
    | some k => if kvs.length < 1000000 then .nx (δ.set i (.ro (.dct (putD kvs k v)))) else .stuck
    | none => .stuck
  | _ => .stuck
theorem ds_dput (i : Nat) (hu : X.A.units + 64 < cLine) (hk : DE X W m b fk) (he : DE X W .sh e fv) (hN : X.N[i]? = some x := by rfl) (hv : Vis X.env.scope x := by first | exact Or.inl rfl | exact Or.inr (Or.inl rfl) | exact Or.inr (Or.inr rfl)) (hd : (x == ("__debug__" : Str)) = false := by decide)
    (hcd : (x == ("__classdict__" : Str)) = false := by decide) (hs : swapsWith e (some (.Subscript (.Name x p) b p2)) pos.line X.env = pure false := by rfl) :
    DS X κ W (.Assign [.Subscript (.Name x p) b p2] e pos) (dDput i fk fv) := by
  refine ps_weaken (ps_dput (by omega) (pe_var hN hv hd hcd) hk he hs) fun D σ H ⟨H0, S, M, δ, F, E, q⟩ => ?_
  unfold dDput at q
  cases h : δ.getD i .no with
  | no => rw [h] at q; exact q.elim
  | sh d => rw [h] at q; exact q.elim
  | ro d =>
    rw [h] at q
    cases d <;> try exact q.elim
    · rename_i kvs
      obtain ⟨l, e1, e2, ws, hl, r⟩ := E.ro_at h
      refine ⟨H0, S, M, δ, F, E, Out.ofS E q fun dv v H1 s1 r1 o1 => ⟨_, e2, H0, S, M, δ, F, E.grow s1, Out.ofS (E.grow s1) o1 fun dk vk H2 s2 r2 o2 => ?_⟩⟩
      have E2 := (E.grow s1).grow s2
      have hl2 := s2 _ _ (s1 _ _ hl)
      have ln := r.length
      cases hx : keyOf dk with
      | none => rw [hx] at o2; exact o2.elim
      | some kk =>
        rw [hx] at o2
        dsimp only at o2
        split at o2
        · have ek := keyOf_rep hx (r2.rep (E.grow s1))
          subst ek
          refine ⟨l, _, rfl, DPut.k hl2 (lt_line (by omega)), o2 _ _ F (E2.write h e2 ?_)⟩
          exact ⟨_, upd_same, RepK.put (Rep.mono (hide_keeps s2) _ _ r1) (RepK.mono (hide_keeps (s1.trans s2)) _ _ r)⟩
        · exact o2.elim
    · rename_i kvs
      obtain ⟨l, e1, e2, ws, hl, r⟩ := E.ro_at h
      refine ⟨H0, S, M, δ, F, E, Out.ofS E q fun dv v H1 s1 r1 o1 => ⟨_, e2, H0, S, M, δ, F, E.grow s1, Out.ofS (E.grow s1) o1 fun dk vk H2 s2 r2 o2 => ?_⟩⟩
      have E2 := (E.grow s1).grow s2
      have hl2 := s2 _ _ (s1 _ _ hl)
      have ln := r.length
      cases hx : tkeyOf dk with
      | none => rw [hx] at o2; exact o2.elim
      | some kk =>
        rw [hx] at o2
        dsimp only at o2
        split at o2
        · obtain ⟨bb, ek, eb⟩ := tkeyOf_rep hx (r2.rep (E.grow s1))
          subst ek
          refine ⟨l, _, rfl, DPut.t hl2 (hide_some eb).2 (lt_line (by omega)), o2 _ _ F (E2.write h e2 ?_)⟩
          exact ⟨_, upd_same, RepT.put (Rep.mono (hide_keeps s2) _ _ r1) (RepT.mono (hide_keeps (s1.trans s2)) _ _ r)⟩
        · exact o2.elim
end
end Dx
end
section
namespace Dx
open PySem L2 PyProof.Rows

variable {X : Cx} {W : WX} {m κ : Md} {a b c e o : Expr} {fa fb fc fo f fk fv : ER} {pos : Pos} {st : Stmt} {rest body : List Stmt} {F1 F2 G B : SM}
variable {S : Addr → Prop} {M : Gh} {F : Nat → List Addr} {H0 H H' : Hp} {σ : L2.St} {δ : Env}

/-! targets -/
abbrev BR := D → Env → Option Env
def tG (f : BR) : TG := fun v σ H Q => ∃ H0 S M δ F d, EOk H0 S M σ H δ F ∧ Rep (hide (Oc S F) H) d v ∧ match f d δ with
  | some δ' => ∀ σ' F', EOk H0 S M σ' H δ' F' → Q σ' H
  | none => False
def DG (X : Cx) (tg : Expr) (f : BR) : Prop := PG X tg (tG f)
theorem pg_weaken {e : Expr} {t t' : TG} (h : PG X e t) (hw : ∀ v σ H Q, t' v σ H Q → t v σ H Q) : PG X e t' := ⟨fun pins s σ H v u Q I r q => h.run pins s σ H v u Q I r (hw v σ H Q q)⟩
def bName (i : Nat) : BR := fun d δ => some (δ.set i (.sh d))
theorem dg_name (i : Nat) {x : Str} (hN : X.N.Nodup) (hi : X.N[i]? = some x := by rfl) (hx : Loc X.env.scope x := by first | exact .inl rfl | exact .inr rfl) (hf : X.fn x = true ∨ X.env.scope.names.lookup x = some .local := by first | exact .inl rfl | exact .inr rfl | assumption) : DG X (.Name x pos) (bName i) :=
  pg_weaken (pg_name hN hi hx hf) fun v σ H Q ⟨H0, S, M, δ, F, d, E, r, q⟩ => q _ _ (E.setSh r)
abbrev BRs := List D → Env → Option Env
def tGs (f : BRs) : TGs := fun vs σ H Q => ∃ H0 S M δ F ds, EOk H0 S M σ H δ F ∧ Reps (hide (Oc S F) H) ds vs ∧ match f ds δ with
  | some δ' => ∀ σ' F', EOk H0 S M σ' H δ' F' → Q σ' H
  | none => False
def DGs (X : Cx) (ts : List Expr) (f : BRs) : Prop := PGs X ts (tGs f)
theorem pgs_weaken {e : List Expr} {t t' : TGs} (h : PGs X e t) (hw : ∀ v σ H Q, t' v σ H Q → t v σ H Q) : PGs X e t' := ⟨fun pins s σ H v u Q I r q => h.run pins s σ H v u Q I r (hw v σ H Q q)⟩
def bNil : BRs := fun ds δ => match ds with | [] => some δ | _ => none
def bCons (f : BR) (g : BRs) : BRs := fun ds δ => match ds with | d :: r => (f d δ).bind (g r) | [] => none
theorem dgs_nil : DGs X [] bNil := pgs_weaken pgs_nil fun vs σ H Q ⟨H0, S, M, δ, F, ds, E, r, q⟩ => by
  cases ds with
  | nil => exact ⟨Reps.nil_iff.mp r, q σ F E⟩
  | cons d ds => exact q.elim
theorem EOk.ungh {Z : Hp} (z : Same M.Z Z) (E : EOk H0 S ⟨M.M, Z⟩ σ H δ F) : EOk H0 S M σ H δ F := E.regh (z.trans E.fz)
theorem dgs_cons {t : Expr} {ts : List Expr} {f : BR} {g : BRs} (h1 : DG X t f) (h2 : DGs X ts g) (hs : (assignEach (t :: ts) X.env).map (·.2) = assign t X.env :: (assignEach ts X.env).map (·.2) := by rfl) : DGs X (t :: ts) (bCons f g) :=
  pgs_weaken (pgs_cons h1 h2 hs) fun vs σ H Q ⟨H0, S, M, δ, F, ds, E, r, q⟩ => by
    cases ds with
    | nil => exact q.elim
    | cons d ds =>
      obtain ⟨v, vs', rfl, p, qs⟩ := Reps.cons_iff.mp r
      refine ⟨v, vs', rfl, ?_⟩
      unfold bCons at q
      dsimp only at q
      cases hf : f d δ with
      | none => rw [hf] at q; exact q.elim
      | some δ1 =>
        rw [hf] at q
        have E' := E.regh (Same.refl (hide (Oc S F) H))
        refine ⟨H0, S, _, δ, F, d, E', p, ?_⟩
        rw [hf]
        intro σ1 F1 E1
        have qs1 := Reps.mono (Keeps.of_same E1.fz) _ _ qs
        refine ⟨H0, S, _, δ1, F1, ds, E1, qs1, ?_⟩
        have q : (match g ds δ1 with | some δ' => ∀ σ' F', EOk H0 S M σ' H δ' F' → Q σ' H | none => False) := q
        cases hg : g ds δ1 with
        | none => rw [hg] at q; exact q
        | some δ2 => rw [hg] at q; exact fun σ' F' E2 => q σ' F' (E2.ungh E.fz)
def bTup (n : Nat) (g : BRs) : BR := fun d δ => match d with | .tup ds => if ds.length = n then g ds δ else none | _ => none
theorem dg_tup {ts : List Expr} {k : Nat} {g : BRs} {n : Nat} (hc : X.calm = true) (h : DGs X ts g) (hn : (assignEach ts X.env).length = n := by rfl) (hst : (assignEach ts X.env).findIdx? (·.1) = none := by rfl) : DG X (.Tuple ts k pos) (bTup n g) :=
  pg_weaken (pg_tup hc h hn hst) fun v σ H Q ⟨H0, S, M, δ, F, d, E, r, q⟩ => by
    cases d <;> try exact q.elim
    rename_i ds
    obtain ⟨p, vs, rfl, e, qs⟩ := Rep.tup_iff.mp r
    unfold bTup at q
    dsimp only at q
    by_cases hl : ds.length = n
    · rw [if_pos hl] at q
      exact ⟨p, vs, rfl, .of (hide_some e).2, by rw [← qs.length]; exact hl, H0, S, M, δ, F, ds, E, qs, q⟩
    · rw [if_neg hl] at q
      exact q.elim
/-- target = e -/
def dAsg (f : ER) (g : BR) : SM := fun δ => sBind (f δ) δ fun d => match g d δ with | some δ' => .nx δ' | none => .stuck
theorem ds_asg {tg : Expr} {g : BR} (he : DE X W .sh e f) (hg : DG X tg g) (hs : swapsWithSole [tg] e pos.line X.env = pure false := by rfl) (hw : swappedStores [tg] e X.env = pure none := by rfl)
    (h1 : (assignEach [tg] X.env).map (·.2) = [assign tg X.env] := by rfl) : DS X κ W (.Assign [tg] e pos) (dAsg f g) := ps_weaken (ps_asg he hg hs hw h1) fun D σ H ⟨H0, S, M, δ, F, E, q⟩ =>
  ⟨H0, S, M, δ, F, E, Out.ofS E q fun d v H1 s r o => ⟨H0, S, M, δ, F, d, E.grow s, r, by
    cases hg : g d δ with
    | none => rw [hg] at o; exact o
    | some δ' => rw [hg] at o; exact fun σ' F' E' => o σ' H1 F' E'⟩⟩

/-! what is walked -/
def Yields (Z : Hp) (J : It) (ds : List D) : Prop := ∀ (i : Nat) (H2 : Hp) (O : Addr → Prop), Same Z (hide O H2) → (∀ a, O a → ∃ o, H2 a = some o) → (ds.length ≤ i → J.stop i H2) ∧ ∀ d, ds[i]? = some d → J.go i H2 ∧ ∀ x H3, J.yld i H2 x H3 → Same H2 H3 ∧ Rep (hide O H3) d x
abbrev IR := Env → Res (List D)
def tI (mg : Str → Option Value) (W : WX) (f : IR) : TI := fun σ H R => ∃ H0 S M δ F, EOk H0 S M σ H δ F ∧ match f δ with
  | .ok ds => ∀ J H', Same H H' → Yields (hide (Oc S F) H') J ds → R J H'
  | .exc e => ∀ cls dx H', Same H H' → ExcAt mg S H' e cls dx → W cls dx σ H'
  | .stuck => False
def DI (X : Cx) (W : WX) (tg iter : Expr) (f : IR) : Prop := PI X tg iter (tI X.mg W f)
theorem pi_weaken {tg iter : Expr} {t t' : TI} (h : PI X tg iter t) (hw : ∀ σ H R, t' σ H R → t σ H R) : PI X tg iter t' := ⟨fun pins s σ H R I q => h.run pins s σ H R I (hw σ H R q)⟩
def iLst (f : ER) : IR := fun δ => (f δ).bind fun d => match d with | .lst ds => .ok ds | _ => .stuck
def iTupl (f : ER) : IR := fun δ => (f δ).bind fun d => match d with | .tup ds => .ok ds | _ => .stuck
theorem rd_back {Z H2 : Hp} {O : Addr → Prop} {l : Addr} {u : HO} (s : Same Z (hide O H2)) (h : Rd Z l u) : Rd H2 l u := rd_hide ((Keeps.of_same s).1 _ _ h)
/-- the iterable's value -/
theorem Out.ofI {mg : Str → Option Value} {r : Res D} {k : D → Res (List D)} {R : It → Hp → Prop} {P : VK} {σ : L2.St} {H : Hp} {S : Addr → Prop} {F : Nat → List Addr} (h : match r.bind k with
      | .ok ds => ∀ J H', Same H H' → Yields (hide (Oc S F) H') J ds → R J H'
      | .exc e => ∀ cls dx H', Same H H' → ExcAt mg S H' e cls dx → W cls dx σ H'
      | .stuck => False)
    (hp : ∀ d v H1, Same H H1 → ResOk S F H H1 m d v → (match k d with
      | .ok ds => ∀ J H', Same H1 H' → Yields (hide (Oc S F) H') J ds → R J H'
      | .exc e => ∀ cls dx H', Same H1 H' → ExcAt mg S H' e cls dx → W cls dx σ H'
      | .stuck => False) → P v H1) : Out mg W σ H S F m r P := by
  cases r with
  | ok d =>
    intro v H1 s q
    refine hp d v H1 s q ?_
    simp only [Res.bind_ok] at h
    cases hk : k d with
    | ok ds => rw [hk] at h; exact fun J H' s' y => h J H' (s.trans s') y
    | exc e => rw [hk] at h; exact fun cls dx H' s' x => h cls dx H' (s.trans s') x
    | stuck => rw [hk] at h; exact h
  | exc e => exact h
  | stuck => exact h
theorem di_list {tg iter : Expr} (h : DE X W .sh iter f) : DI X W tg iter (iLst f) := pi_weaken (pi_list h) fun σ H R ⟨H0, S, M, δ, F, E, q⟩ => ⟨H0, S, M, δ, F, E, Out.ofI q fun d v H1 s r k => by
  cases d <;> try exact k.elim
  rename_i ds
  obtain ⟨l, vs, rfl, h1, q1⟩ := Rep.lst_iff.mp r
  refine ⟨l, rfl, ⟨vs, .inl (rd_hide h1)⟩, k _ H1 (Same.refl _) fun i H2 O sz hO => ?_⟩
  have rd2 := rd_back sz h1
  have q2 := Reps.mono (Keeps.of_same sz) _ _ q1
  refine ⟨fun hl => ⟨vs, .inl rd2, by rw [← q1.length]; exact hl⟩, fun d hd => ?_⟩
  obtain ⟨x, hx, rx⟩ := q2.get hd
  refine ⟨⟨vs, x, .inl rd2, hx⟩, fun y H3 hy => ?_⟩
  obtain ⟨e1, e2⟩ := hy
  subst e1
  have := e2 vs (.inl rd2)
  rw [hx] at this; cases this
  exact ⟨Same.refl _, rx⟩⟩
theorem di_tuple {tg iter : Expr} (h : DE X W .sh iter f) : DI X W tg iter (iTupl f) := pi_weaken (pi_tup h) fun σ H R ⟨H0, S, M, δ, F, E, q⟩ => ⟨H0, S, M, δ, F, E, Out.ofI q fun d v H1 s r k => by
  cases d <;> try exact k.elim
  rename_i ds
  obtain ⟨l, vs, rfl, h1, q1⟩ := Rep.tup_iff.mp r
  refine ⟨l, rfl, ⟨vs, .of (hide_some h1).2⟩, k _ H1 (Same.refl _) fun i H2 O sz hO => ?_⟩
  have rd2 : H2 l = some (.tup vs) := (hide_some (sz _ _ h1)).2
  have q2 := Reps.mono (Keeps.of_same sz) _ _ q1
  refine ⟨fun hl => ⟨vs, .of rd2, by rw [← q1.length]; exact hl⟩, fun d hd => ?_⟩
  obtain ⟨x, hx, rx⟩ := q2.get hd
  refine ⟨⟨vs, x, .of rd2, hx⟩, fun y H3 hy => ?_⟩
  obtain ⟨e1, e2⟩ := hy
  subst e1
  have := e2 vs (.of rd2)
  rw [hx] at this; cases this
  exact ⟨Same.refl _, rx⟩⟩
/-- range(n), range(a, b) -/
def rngL (lo : Int) (n : Nat) : List D := (List.range n).map fun (i : Nat) => D.int (lo + i)
theorem rngL_get {lo : Int} {n i : Nat} {d : D} (h : (rngL lo n)[i]? = some d) : i < n ∧ d = .int (lo + i) := by
  have hi : i < n := by
    have := (List.getElem?_eq_some_iff.mp h).1
    simpa [rngL] using this
  simp only [rngL, List.getElem?_map, List.getElem?_range hi, Option.map_some, Option.some.injEq] at h
  exact ⟨hi, h.symm⟩
theorem yields_range {Z : Hp} {lo : Int} {n : Nat} : Yields Z (Itr lo n) (rngL lo n) := fun i H2 O sz hO => by
  refine ⟨fun hl => by show n ≤ i; simpa [rngL] using hl, fun d hd => ?_⟩
  obtain ⟨hi, rfl⟩ := rngL_get hd
  refine ⟨hi, fun x H3 hy => ?_⟩
  obtain ⟨e1, e2⟩ := hy
  subst e1; subst e2
  exact ⟨Same.refl _, Rep.int_iff.mpr rfl⟩
def rngOk (i : Int) : Bool := decide (i.natAbs < 4611686018427387904)
def iRange (f : ER) : IR := fun δ => (f δ).bind fun d => match d with | .int j => if rngOk j = true then .ok (rngL 0 j.toNat) else .stuck | _ => .stuck
theorem di_range {tg a : Expr} {p pos : Pos} (h : DE X W m a fa) (hm : X.mg "range" = none) (hg : Gl X "range" := by rfl) (hs : starEach [a] X.env = [(false, eval a X.env)] := by rfl) : DI X W tg (.Call (.Name "range" p) [a] [] pos) (iRange fa) :=
  pi_weaken (pi_range1 hg hm (pa_cons h pa_nil hs) hs) fun σ H R ⟨H0, S, M, δ, F, E, q⟩ => ⟨H0, S, M, δ, F, E, Out.ofI q fun d v H1 s r k => by
    cases d <;> try exact k.elim
    rename_i j
    by_cases hj : rngOk j = true
    · simp only [hj, if_true] at k
      have hj' := hj
      have hj' : -(2 ^ 62) ≤ j ∧ j < 2 ^ 62 := by
        simp only [rngOk, decide_eq_true_eq] at hj'
        omega
      exact ⟨j, by rw [r.flat_inv rfl]; rfl, hj'.1, hj'.2, k _ H1 (Same.refl _) yields_range⟩
    · simp only [hj, if_false] at k; exact k.elim⟩

def enumL (ds : List D) : List D := ds.zipIdx.map fun p => D.tup [.int (p.2 : Nat), p.1]
theorem enumL_get {ds : List D} {i : Nat} {d : D} (h : (enumL ds)[i]? = some d) : ∃ x, ds[i]? = some x ∧ d = .tup [.int (i : Nat), x] := by
  simp only [enumL, List.getElem?_map, List.getElem?_zipIdx, Option.map_map, Option.map_eq_some_iff] at h
  obtain ⟨x, hx, e⟩ := h
  exact ⟨x, hx, by rw [← e]; simp⟩
def iEnumL (f : ER) : IR := fun δ => (f δ).bind fun d => match d with | .lst ds => .ok (enumL ds) | _ => .stuck
theorem rep_pair {O : Addr → Prop} {H2 : Hp} {T : Addr} {i : Nat} {d : D} {x : V} (hO : ∀ a, O a → ∃ o, H2 a = some o) (hn : H2 T = none) (rx : Rep (hide O H2) d x) : Rep (hide O (upd H2 T (.tup [.int (i : Nat), x]))) (.tup [.int (i : Nat), d]) (.ref T) :=
  new_tup hO hn (.cons (Rep.int_iff.mpr rfl) (.cons rx .nil))
theorem di_enum {a : Expr} {p pos tpos : Pos} {elts : List Expr} {kk : Nat} (h : DE X W .sh a fa) (hm : X.mg "enumerate" = none) (hg : Gl X "enumerate" := by rfl) (hs : starEach [a] X.env = [(false, eval a X.env)] := by rfl) : DI X W (.Tuple elts kk tpos) (.Call (.Name "enumerate" p) [a] [] pos) (iEnumL fa) :=
  pi_weaken (pi_enum hg hm (pa_cons h pa_nil hs) hs) fun σ H R ⟨H0, S, M, δ, F, E, q⟩ => ⟨H0, S, M, δ, F, E, Out.ofI q fun d v H1 s r k => by
    cases d <;> try exact k.elim
    rename_i ds
    obtain ⟨l, vs, rfl, h1, q1⟩ := Rep.lst_iff.mp r
    refine ⟨l, vs, rfl, .inl (rd_hide h1), k _ H1 (Same.refl _) fun i H2 O sz hO => ?_⟩
    have rd2 := rd_back sz h1
    have q2 := Reps.mono (Keeps.of_same sz) _ _ q1
    refine ⟨fun hl => ⟨vs, .inl rd2, by rw [← q1.length]; simpa [enumL] using hl⟩, fun d hd => ?_⟩
    obtain ⟨d', hd', rfl⟩ := enumL_get hd
    obtain ⟨x, hx, rx⟩ := q2.get hd'
    refine ⟨⟨vs, x, .inl rd2, hx⟩, fun y H3 hy => ?_⟩
    obtain ⟨T, x', rfl, hT, rfl, e2⟩ := hy
    have := e2 vs (.inl rd2)
    rw [hx] at this; cases this
    exact ⟨same_upd hT, rep_pair hO hT rx⟩⟩
def signsL (z : Str) : List D := z.cps.toList.map fun c => D.str ⟨#[c]⟩
def iSigns (f : ER) : IR := fun δ => (f δ).bind fun d => match d with | .str z => .ok (signsL z) | _ => .stuck
theorem di_str {tg a : Expr} (h : DE X W m a fa) : DI X W tg a (iSigns fa) := pi_weaken (pi_str h) fun σ H R ⟨H0, S, M, δ, F, E, q⟩ => ⟨H0, S, M, δ, F, E, Out.ofI q fun d v H1 s r k => by
  cases d <;> try exact k.elim
  rename_i z
  refine ⟨z, r.flat_inv rfl, k _ H1 (Same.refl _) fun i H2 O sz hO => ⟨fun hl => by show z.cps.size ≤ i; simpa [signsL] using hl, fun d hd => ?_⟩⟩
  simp only [signsL, List.getElem?_map, Option.map_eq_some_iff] at hd
  obtain ⟨c, hc, rfl⟩ := hd
  have hi : i < z.cps.size := by have := (List.getElem?_eq_some_iff.mp hc).1; simpa using this
  refine ⟨hi, fun x H3 hy => ?_⟩
  obtain ⟨e1, c', hc', e2⟩ := hy
  subst e1; subst e2
  rw [← Array.getElem?_toList, hc] at hc'
  cases hc'
  exact ⟨Same.refl _, Rep.str_iff.mpr rfl⟩⟩

/-! for -/
theorem forg_oc : ∀ {l : List Nat} {δ : Env} {F : Nat → List Addr}, EOk H0 S M σ H δ F → ∃ F', EOk H0 S M σ H (forg l δ) F' := fun E => forg_ok E
def forRun (kills : List Nat) (bnd : BR) (B : SM) : List D → Env → SR
  | [], δ => .nx (forg kills δ)
  | x :: xs, δ => match bnd x (forg kills δ) with
    | none => .stuck
    | some δ1 => match B δ1 with
      | .nx δ2 => forRun kills bnd B xs δ2
      | .cont δ2 => forRun kills bnd B xs δ2
      | .brk δ2 => .nx δ2
      | r => r
def dFor (kills : List Nat) (bnd : BR) (B : SM) (src : IR) : SM := fun δ => sBind (src δ) δ fun xs => forRun kills bnd B xs δ
theorem OutS.regh {mg : Str → Option Value} {r : SR} {Dn : Ends} {Z : Hp} (z : Same M.Z Z) (h : OutS mg κ W H0 S M r Dn) : OutS mg κ W H0 S ⟨M.M, Z⟩ r Dn := by
  cases r with
  | nx δ => exact fun σ H F E => h σ H F (E.ungh z)
  | brk δ => exact fun σ H F E => h σ H F (E.ungh z)
  | cont δ => exact fun σ H F E => h σ H F (E.ungh z)
  | ret d δ => exact fun v σ H F E r => h v σ H F (E.ungh z) (by cases κ <;> exact r)
  | exc e δ => exact fun cls dx σ H F E x => h cls dx σ H F (E.ungh z) x
  | stuck => exact h
theorem ds_for {tg iter : Expr} {src : IR} {bnd : BR} (kills : List Nat) (hp : PassesOwn (model X.prog X.w) X.A X.env X.xe) (hc : X.calm = true) (hi : DI X W tg iter src) (hg : DG X tg bnd) (hb : DB X κ W body B)
    (hs : ∀ x, foldedSetIterable iter X.env x = pure x := by intro _; rfl) : DS X κ W (.For tg iter body [] pos) (dFor kills bnd B src) := ps_weaken (ps_for hp hc hi hg hb hs) fun Dn σ H ⟨H0, S, M, δ, F, E, q⟩ => by
  refine ⟨H0, S, M, δ, F, E, ?_⟩
  unfold dFor at q
  cases hsrc : src δ with
  | exc e => rw [hsrc] at q; exact fun cls dx H' s x => q cls dx σ H' F (E.grow s) x
  | stuck => rw [hsrc] at q; exact q
  | ok ds =>
    rw [hsrc] at q
    intro J H1 s Y
    have q : OutS X.mg κ W H0 S M (forRun kills bnd B ds δ) Dn := q
    have E1 := (E.grow s).regh (Same.refl (hide (Oc S F) H1))
    have zz : Same M.Z (hide (Oc S F) H1) := (E.grow s).fz
    have q1 := q.regh zz
    generalize hM : (⟨M.M, hide (Oc S F) H1⟩ : Gh) = M1 at E1 q1
    have hZ : M1.Z = hide (Oc S F) H1 := by rw [← hM]
    refine ⟨fun i n σ H => n = ds.length - i ∧ i ≤ ds.length ∧ ∃ δ F, EOk H0 S M1 σ H δ F ∧ OutS X.mg κ W H0 S M1 (forRun kills bnd B (ds.drop i) δ) Dn, ⟨_, rfl, Nat.zero_le _, δ, F, E1, q1⟩, ?_⟩
    rintro i n σ2 H2 ⟨rfl, hi, δ2, F2, E2, q2⟩
    obtain ⟨F3, E3⟩ := forg_ok (l := kills) E2
    obtain ⟨y1, y2⟩ := Y i H2 (Oc S F3) (by rw [← hZ]; exact E3.fz) (fun a h => E3.there h)
    by_cases hlt : i < ds.length
    · right
      have hd : ds[i]? = some ds[i] := List.getElem?_eq_getElem hlt
      have hdrop : ds.drop i = ds[i] :: ds.drop (i + 1) := List.drop_eq_getElem_cons hlt
      rw [hdrop] at q2
      obtain ⟨go, yld⟩ := y2 _ hd
      refine ⟨go, fun σ' H' => ∃ δ F, EOk H0 S M1 σ' H' δ F ∧ OutS X.mg κ W H0 S M1 (forRun kills bnd B (ds.drop (i + 1)) δ) Dn, fun σ' H' ⟨δ', F', E', q'⟩ => ⟨_, by omega, rfl, hlt, δ', F', E', q'⟩, fun x H3 hy => ?_⟩
      obtain ⟨s3, rx⟩ := yld x H3 hy
      refine ⟨H0, S, M1, forg kills δ2, F3, ds[i], E3.grow s3, rx, ?_⟩
      unfold forRun at q2
      cases hbn : bnd ds[i] (forg kills δ2) with
      | none => rw [hbn] at q2; exact q2
      | some δ4 =>
        rw [hbn] at q2
        refine fun σ4 F4 E4 => ⟨H0, S, M1, δ4, F4, E4, ?_⟩
        dsimp only at q2
        cases hB : B δ4 with
        | nx δ5 => rw [hB] at q2; exact fun σ H F E => ⟨δ5, F, E, q2⟩
        | cont δ5 => rw [hB] at q2; exact fun σ H F E => ⟨δ5, F, E, q2⟩
        | brk δ5 => rw [hB] at q2; exact q2
        | ret d δ5 => rw [hB] at q2; exact q2
        | exc e δ5 => rw [hB] at q2; exact q2
        | stuck => rw [hB] at q2; exact q2
    · left
      have hdrop : ds.drop i = [] := List.drop_eq_nil_of_le (Nat.le_of_not_lt hlt)
      rw [hdrop] at q2
      exact ⟨y1 (Nat.le_of_not_lt hlt), q2 σ2 H2 F3 E3⟩

/-! while -/
def whileRun (kills : List Nat) (t : TR) (B : SM) : Nat → Env → SR
  | 0, _ => .stuck
  | n + 1, δ => sBind (t (forg kills δ)) (forg kills δ) fun b => if b = true then (match B (forg kills δ) with
      | .nx δ2 => whileRun kills t B n δ2
      | .cont δ2 => whileRun kills t B n δ2
      | .brk δ2 => .nx δ2
      | r => r) else .nx (forg kills δ)
theorem ds_while {t : Expr} {ft : TR} (n : Nat) (kills : List Nat) (hp : PassesOwn (model X.prog X.w) X.A X.env X.xe) (ht : DT X W t ft) (hb : DB X κ W body B) : DS X κ W (.While t body [] pos) (whileRun kills ft B n) := ps_weaken (ps_while hp ht hb) fun Dn σ H ⟨H0, S, M, δ, F, E, q⟩ => by
  refine ⟨fun n σ H => ∃ δ F, EOk H0 S M σ H δ F ∧ OutS X.mg κ W H0 S M (whileRun kills ft B n δ) Dn, ⟨n, δ, F, E, q⟩, ?_⟩
  rintro n σ1 H1 ⟨δ1, F1, E1, q1⟩
  cases n with
  | zero => exact q1.elim
  | succ n =>
    obtain ⟨F2, E2⟩ := forg_ok (l := kills) E1
    refine ⟨H0, S, M, forg kills δ1, F2, E2, OutT.ofS E2 q1 fun k H2 s o => ?_⟩
    cases k with
    | false => exact o σ1 H2 F2 (E2.grow s)
    | true =>
      refine ⟨fun σ' H' => ∃ δ F, EOk H0 S M σ' H' δ F ∧ OutS X.mg κ W H0 S M (whileRun kills ft B n δ) Dn, fun σ' H' h => ⟨n, Nat.lt_succ_self n, h⟩, H0, S, M, forg kills δ1, F2, E2.grow s, ?_⟩
      have o : OutS X.mg κ W H0 S M (match B (forg kills δ1) with
        | .nx δ2 => whileRun kills ft B n δ2
        | .cont δ2 => whileRun kills ft B n δ2
        | .brk δ2 => .nx δ2
        | r => r) Dn := o
      cases hB : B (forg kills δ1) with
      | nx δ5 => rw [hB] at o; exact fun σ H F E => ⟨δ5, F, E, o⟩
      | cont δ5 => rw [hB] at o; exact fun σ H F E => ⟨δ5, F, E, o⟩
      | brk δ5 => rw [hB] at o; exact o
      | ret d δ5 => rw [hB] at o; exact o
      | exc e δ5 => rw [hB] at o; exact o
      | stuck => rw [hB] at o; exact o
end Dx
end
section
namespace Dx
open PySem L2 PyProof.Rows

variable {X : Cx} {W : WX} {m κ : Md} {a b c e o : Expr} {fa fb fc fo f fk fv : ER} {pos : Pos} {st : Stmt} {rest body : List Stmt} {F1 F2 G B : SM}
variable {S : Addr → Prop} {M : Gh} {F : Nat → List Addr} {H0 H H' : Hp} {σ : L2.St} {δ : Env}

/-- never reached -/
theorem ds_never : DS X κ W st (fun _ => .stuck) := ps_weaken ps_never fun D σ H ⟨H0, S, M, δ, F, E, q⟩ => q
theorem db_never : DB X κ W body (fun _ => .stuck) := pss_weaken pss_never fun D σ H ⟨H0, S, M, δ, F, E, q⟩ => q

/-! calls of the text's defs -/
def ResK (κ : Md) (S : Addr → Prop) (H H' : Hp) (d : D) (v : V) : Prop := match κ with
  | .fr => ∃ p, v = .ref p ∧ H p = none ∧ Root (hide (fun a => S a ∨ a = p) H') H' d p
  | _ => Rep (hide S H') d v
def spF (mg : Str → Option Value) (κ : Md) (n : Nat) (g : List D → Res D) : Sp := fun vs H Q E => vs.length = n ∧ ∃ ds S, Reps (hide S H) ds vs ∧ (∀ a, S a → ∃ o, H a = some o) ∧ match g ds with
  | .ok d => ∀ v H', Same H H' → ResK κ S H H' d v → Q v H'
  | .exc e => ∀ cls dx H', Same H H' → ExcAt mg S H' e cls dx → E cls dx H'
  | .stuck => False
/-- a def that may be called: by at most k levels -/
structure Cal (P : Program) (w : World) (K : PySem.W.Frag) (mg : Str → Option Value) (base : Heap) (k : Nat) (x : Str) (ps : List Str) (sp : Sp) : Prop where
  ex : ∃ f fd, FnOk P w K mg base (L2.CX P w) k f fd ps sp ∧ mg x = some (.ref f) ∧ PySem.W.keepIn K (.ref f) = true ∧ Binds K fd ps []
theorem Cal.mono {P : Program} {w : World} {K : PySem.W.Frag} {mg : Str → Option Value} {base : Heap} {j k : Nat} {x : Str} {ps : List Str} {sp : Sp} (C : Cal P w K mg base j x ps sp) (h : j ≤ k) : Cal P w K mg base k x ps sp :=
  let ⟨f, fd, F, a, b, c⟩ := C.ex; ⟨f, fd, F.mono h, a, b, c⟩
def dCall (g : List D → Res D) (fs : LR) : ER := fun δ => (fs δ).bind g
def Md.call (κ m : Md) : Md := match κ, m with
  | .fr, .sh => .fr
  | _, .bo => .bo
  | _, _ => .sh
theorem pm_bo_s {a : Addr} (h : S a) : Pm m S F a := by cases m <;> first | exact h | exact .inl h
theorem de_call {k : Nat} {x : Str} {ps : List Str} {n : Nat} {g : List D → Res D} {fs : LR} {es : List Expr} {p : Pos} (C : Cal X.prog X.w X.K X.mg X.base k x ps (spF X.mg κ n g)) (hr : Room k X.A) (tk : Takes X W) (ha : DA X W m (e :: es) fs) (hn : (e :: es).length = n) (hl : ∀ δ ds, fs δ = .ok ds → ds.length = n) (hm : m ≠ .fr := by intro h; cases h) (hg : Gl X x := by rfl)
    (hdb : (x == ("__debug__" : Str)) = false := by decide) (he : starEach (e :: es) X.env = (false, eval e X.env) :: starEach es X.env := by rfl) (hpl : (backTo pos (starEach es X.env)).any (·.1) = false := by rfl) :
    DE X W (κ.call m) (.Call (.Name x p) (e :: es) [] pos) (dCall g fs) := by
  obtain ⟨f, fd, FK, hmg, hk, hb⟩ := C.ex
  refine pe_weaken (pe_callS (E := WE W) FK hr hg hmg hk hb (fun σ => passAt tk σ) ha hdb he hpl) fun σ H Q ⟨H0, S, M, δ, F, E, q⟩ => ?_
  have hsub : ∀ a, Pm m S F a → Oc S F a := fun a h => by cases m <;> first | exact .inl h | exact h
  refine ⟨H0, S, M, δ, F, E, ?_⟩
  unfold dCall at q
  cases hfs : fs δ with
  | exc e => rw [hfs] at q; exact q
  | stuck => rw [hfs] at q; exact q
  | ok ds =>
    rw [hfs] at q
    intro vs H1 s r
    have q : Out X.mg W σ H S F (κ.call m) (g ds) Q := q
    refine ⟨by rw [← r.length]; exact hl δ ds hfs, ds, Pm m S F, r, fun a h => (E.grow s).pm h, ?_⟩
    cases hg : g ds with
    | stuck => rw [hg] at q; exact q
    | exc e => rw [hg] at q; exact fun cls dx H' s' x => q cls dx H' (s.trans s') (x.weak fun a q => pm_bo_s q)
    | ok d =>
      rw [hg] at q
      refine fun v H' s' rk => q v H' (s.trans s') ?_
      cases κ with
      | fr =>
        obtain ⟨p, rfl, hp, rt⟩ := rk
        cases m with
        | fr => exact (hm rfl).elim
        | sh => exact ⟨p, rfl, s.free hp, rt⟩
        | bo => exact rt.rep (Keeps.of_same (same_hide (fun _ _ _ h => h) fun a h => .inl (.inl h))) (hide_out fun z => by obtain ⟨o, e⟩ := E.dom p z; rw [s.free hp] at e; cases e)
      | sh => cases m <;> first | exact rk | exact (hm rfl).elim
      | bo => cases m <;> first | exact rk | exact (hm rfl).elim

/-! a def, by its body -/
def env0 (n : Nat) (ds : List D) : Env := ds.map Slot.sh ++ List.replicate (n - ds.length) Slot.no
def runB (κ : Md) (n : Nat) (B : SM) (ds : List D) : Res D := match B (env0 n ds) with
  | .ret d _ => .ok d
  | .nx _ => match κ with | .fr => .stuck | _ => .ok .non
  | .exc e _ => .exc e
  | _ => .stuck
theorem env0_len {n : Nat} {ds : List D} (h : ds.length ≤ n) : (env0 n ds).length = n := by simp [env0]; omega
theorem start_ok {N : List Str} {vs : List V} {ds : List D} (r : Reps (hide S H) ds vs) (hS : ∀ a, S a → ∃ o, H a = some o) : EOk H S ⟨fun _ => False, hide S H⟩ (start N vs) H (env0 N.length ds) (fun _ => []) := by
  have hl := r.length
  have kk : Same (hide S H) (hide (Oc S fun _ => []) H) := same_hide (fun _ _ _ h => h) fun a h => by
    rcases h with h | ⟨i, h⟩
    · exact .inl h
    · cases h
  refine ⟨by simp [L2.start, env0, hl], fun a o h _ => h, hS, fun a h => h.elim, fun a h => h.elim, fun i => List.nodup_nil, fun i j a _ h => (nomatch h), fun i a h => (nomatch h), kk, fun i => ?_⟩
  by_cases hi : i < ds.length
  · have hd : ds[i]? = some ds[i] := List.getElem?_eq_getElem hi
    obtain ⟨v, hv, rv⟩ := r.get hd
    have e1 : (env0 N.length ds).getD i .no = .sh ds[i] := by
      simp [env0, List.getD, List.getElem?_append, hi]
    have e2 : (start N vs)[i]? = some (some v) := by
      have hi2 : i < vs.length := by omega
      simp [L2.start, List.getElem?_append, hi2]
      simpa [List.getElem?_eq_getElem hi2] using hv
    rw [e1, e2]
    exact ⟨rfl, v, rfl, Rep.mono (Keeps.of_same kk) _ _ rv⟩
  · have e1 : (env0 N.length ds).getD i .no = .no := by
      simp only [env0, List.getD, List.getElem?_append, List.length_map, hi, if_false, List.getElem?_replicate]
      split <;> rfl
    rw [e1]
    exact rfl
theorem dlen_nil : ∀ (δ : Env) (ds : List D), dNil δ = .ok ds → ds.length = 0 := fun δ ds h => by cases h; rfl
theorem dlen_cons {f : ER} {fs : LR} {n : Nat} (h : ∀ (δ : Env) (ds : List D), fs δ = .ok ds → ds.length = n) : ∀ (δ : Env) (ds : List D), dCons f fs δ = .ok ds → ds.length = n + 1 := fun δ ds e => by
  unfold dCons at e
  cases h1 : f δ with
  | stuck => rw [h1] at e; cases e
  | exc x => rw [h1] at e; cases e
  | ok d =>
    rw [h1] at e
    simp only [Res.bind_ok] at e
    cases h2 : fs δ with
    | stuck => rw [h2] at e; cases e
    | exc x => rw [h2] at e; cases e
    | ok r => rw [h2] at e; cases e; simp [h δ r h2]
theorem fnok_mk {P : Program} {w : World} {K : PySem.W.Frag} {mg : Str → Option Value} {base : Heap} {name qual : Str} {st : Stmt} {f : Addr} {fd : FuncData} {N ps : List Str} {k : Nat} {B : SM} (κ : Md) (FF : Fun K name qual st f fd) (SC : FnScope N ps (defScope st)) 
    (hb : ∀ (cdv : Value) (A : Around) (outer : List PySem.Env) (s : Shared) (H : Hp) (E : XK), Room k (A.deeper (envOfC qual (defScope st) s.heap.objs.size f cdv)) →
      DB (cxOf (L2.CX P w) P w K mg base N qual (defScope st) f cdv A outer s H E) κ (fun cls d _ H' => E cls d H') (defBody st) B) : FnOk P w K mg base (L2.CX P w) (k + 1) f fd ps (spF mg κ ps.length (runB κ N.length B)) := by
  refine FF.okX SC (fun vs H Q E h => h.1) (fun cdv A outer s H vs Q E hr h => ?_)
  obtain ⟨hl, ds, S, r, hS, q⟩ := h
  refine ⟨_, hb cdv A outer s H E hr, ?_⟩
  have E0 := start_ok (N := N) r hS
  refine ⟨H, S, _, _, _, E0, ?_⟩
  unfold runB at q
  have fin : ∀ {σ H' δ F d v}, EOk H S ⟨fun _ => False, hide S H⟩ σ H' δ F → RetOk κ H S ⟨fun _ => False, hide S H⟩ H' d v → Same H H' ∧ ResK κ S H H' d v := fun {σ H' δ F d v} E r => by
    refine ⟨fun a o h => E.ext a o h (fun z => z), ?_⟩
    cases κ with
    | fr =>
      obtain ⟨p, e, hp, rt⟩ := r
      exact ⟨p, e, hp.elim id False.elim, rt⟩
    | sh => exact r
    | bo => exact r
  cases hB : B (env0 N.length ds) with
  | ret d δ =>
    rw [hB] at q
    exact fun v σ H' F E r => q v H' (fin E r).1 (fin E r).2
  | nx δ =>
    rw [hB] at q
    cases κ with
    | fr => exact q.elim
    | sh => exact fun σ H' F E => q .non H' (fun a o h => E.ext a o h (fun z => z)) (Rep.flat_mk (H := hide S H') .non rfl)
    | bo => exact fun σ H' F E => q .non H' (fun a o h => E.ext a o h (fun z => z)) (Rep.flat_mk (H := hide S H') .non rfl)
  | exc e δ =>
    rw [hB] at q
    exact fun cls dx σ H' F E x => q cls dx H' (fun a o h => E.ext a o h (fun z => z)) x
  | brk δ => rw [hB] at q; exact q.elim
  | cont δ => rw [hB] at q; exact q.elim
  | stuck => rw [hB] at q; exact q.elim

theorem hl_1 {f : ER} : ∀ (δ : Env) (ds : List D), dCons f dNil δ = .ok ds → ds.length = 1 := dlen_cons dlen_nil
theorem hl_2 {f g : ER} : ∀ (δ : Env) (ds : List D), dCons f (dCons g dNil) δ = .ok ds → ds.length = 2 := dlen_cons (dlen_cons dlen_nil)
theorem hl_3 {f g h : ER} : ∀ (δ : Env) (ds : List D), dCons f (dCons g (dCons h dNil)) δ = .ok ds → ds.length = 3 := dlen_cons (dlen_cons (dlen_cons dlen_nil))
theorem hl_4 {f g h i : ER} : ∀ (δ : Env) (ds : List D), dCons f (dCons g (dCons h (dCons i dNil))) δ = .ok ds → ds.length = 4 := dlen_cons (dlen_cons (dlen_cons (dlen_cons dlen_nil)))
theorem hl_5 {f g h i j : ER} : ∀ (δ : Env) (ds : List D), dCons f (dCons g (dCons h (dCons i (dCons j dNil)))) δ = .ok ds → ds.length = 5 := dlen_cons (dlen_cons (dlen_cons (dlen_cons (dlen_cons dlen_nil))))
theorem hl_6 {f g h i j k : ER} : ∀ (δ : Env) (ds : List D), dCons f (dCons g (dCons h (dCons i (dCons j (dCons k dNil))))) δ = .ok ds → ds.length = 6 := dlen_cons (dlen_cons (dlen_cons (dlen_cons (dlen_cons (dlen_cons dlen_nil)))))
theorem hl_7 {f g h i j k l : ER} : ∀ (δ : Env) (ds : List D), dCons f (dCons g (dCons h (dCons i (dCons j (dCons k (dCons l dNil)))))) δ = .ok ds → ds.length = 7 := dlen_cons (dlen_cons (dlen_cons (dlen_cons (dlen_cons (dlen_cons (dlen_cons dlen_nil))))))

/-! the law -/
def noLists (K : PySem.W.Frag) : Bool := K.all fun p => match p.2.cls with | .type n => n != "list" | _ => true
theorem law_rd {K : PySem.W.Frag} {H : Hp} {a : Addr} {xs : List V} (hk : noLists K = true) (h : SqL K H a xs) : Rd H a (.lst xs) := by
  rcases h with h | ⟨o, its, n, hl, hc, _⟩
  · exact h
  · exfalso
    have hm : (a, o) ∈ K := by
      have : ∀ (l : List (Addr × Obj)), l.lookup a = some o → (a, o) ∈ l := by
        intro l
        induction l with
        | nil => intro h; cases h
        | cons p r ih =>
          intro h
          obtain ⟨b, u⟩ := p
          rw [List.lookup_cons] at h
          by_cases e : (a == b) = true
          · rw [e] at h
            cases h
            have : a = b := by simpa using e
            subst this
            exact List.mem_cons_self
          · rw [Bool.not_eq_true] at e
            rw [e] at h
            exact List.mem_cons_of_mem _ (ih h)
      exact this K hl
    have := List.all_eq_true.mp hk _ hm
    rw [hc] at this
    simp at this
def lawArg (ns : List Int) : List D := [.lst (ns.map D.int)]
theorem walk_law {l : PySem.W.OpenLaw} {k : Nat} {q : Program} {loose : List Str} {XP : (Str → Option Value) → Heap → Prop} {YP : World → Heap → Prop} {d : DefRec} {K : Params → PySem.W.Frag} {x : Str} {g : List D → Res D}
    (hn : l.most = some 63) (hdf : d.params.defaults = []) (hr : Room k callerA)
    (hY : ∀ (w : World) (h : Heap), YP w h → (K w.params).In h)
    (hK : ∀ w : World, noLists (K w.params) = true)
    (hg : ∀ ns : List Int, ns.length ≤ 63 → g (lawArg ns) = .ok (.bl true))
    (F : ∀ (w : World) (mg : Str → Option Value) (h : Heap), (K w.params).In h → h.Ns mainGlobals mg →
      ∃ fa fd, mg d.name = some (.ref fa) ∧ (∀ (s : Shared) (u : Value), BindsTo s fd ⟨[u], []⟩ [(x, u)]) ∧ ∀ base : Heap, (K w.params).In base → base.Ns mainGlobals mg → FnOk l.prog w (K w.params) mg base (L2.CX l.prog w) k fa fd [x] (spF mg .sh 1 g)) :
    PySem.W.WalkO q loose XP YP l.row.toRowW d [] (fun f vs => PySem.call f vs) :=
  L2.walk_of (n := 63) (k := k) (x := x) (CX := fun w => L2.CX l.prog w) (sp := fun w => fun vs H Q E => ∀ mg, spF mg .sh 1 g vs H Q E) hn (by decide) hdf hr hY
    (fun w mg fa h KX G hfa => by
      obtain ⟨fa', fd, e, hbind, hF⟩ := F w mg h KX G
      rw [hfa] at e; cases e
      exact ⟨fd, hbind, fun base kb gb => (hF base kb gb).imp fun vs H Q E z => z mg⟩)
    (fun w H a ns hl _ hS mg => by
      refine ⟨rfl, lawArg ns, fun _ => False, ?_, fun a h => h.elim, ?_⟩
      · have rd := law_rd (hK w) hS
        have : Rd (hide (fun _ => False) H) a (.lst (ns.map V.int)) := by
          rcases rd with h | ⟨o, h⟩
          · exact .inl (by rw [hide_out (fun z => z)]; exact h)
          · exact .inr ⟨o, by rw [hide_out (fun z => z)]; exact h⟩
        exact .cons (Rep.lst_iff.mpr ⟨a, _, rfl, this, Reps.ints⟩) .nil
      · rw [hg ns hl]
        exact fun v H' _ r => Rep.flat_inv (H := hide (fun _ => False) H') (d := .bl true) rfl r)
    fun w H s e s' ⟨_, _, _, _, _, _, _, _, _, _, _, _, z⟩ => z.elim
end Dx
end
section
namespace Dx
open PySem L2 PyProof.Rows

variable {X : Cx} {W : WX} {m κ : Md} {a b c e o : Expr} {fa fb fc fo f fk fv : ER} {pos : Pos} {st : Stmt} {rest body : List Stmt} {F1 F2 G B : SM}
variable {S : Addr → Prop} {M : Gh} {F : Nat → List Addr} {H0 H H' : Hp} {σ : L2.St} {δ : Env}

/-! list comprehensions: what is raised within is not carried -/
def W0 : WX := fun _ _ _ _ => False
def compRun (vs : List Nat) (bnd : BR) (t : TR) (f : ER) : List D → Env → Res (List D)
  | [], _ => .ok []
  | x :: xs, δ => match bnd x (forg vs δ) with
    | none => .stuck
    | some δ1 => match t δ1 with
      | .ok true => match f δ1 with
        | .ok d => (compRun vs bnd t f xs δ).bind fun r => .ok (d :: r)
        | _ => .stuck
      | .ok false => compRun vs bnd t f xs δ
      | _ => .stuck
def noRo (vs : List Nat) (δ : Env) : Bool := vs.all fun i => match δ.getD i .no with | .ro _ => false | _ => true
def dComp (vs : List Nat) (src : IR) (bnd : BR) (t : TR) (f : ER) : ER := fun δ => (src δ).bind fun xs => if xs.length < 1000000 ∧ noRo vs δ = true then (compRun vs bnd t f xs δ).bind fun r => .ok (.lst r) else .stuck
def tYesT : TR := fun _ => .ok true
/-- tests of a comprehension -/
def DTs (X : Cx) (ifs : List Expr) (t : TR) : Prop := PTs X ifs (tT X.mg W0 t)
theorem pts_weaken {ifs : List Expr} {t t' : TT} (h : PTs X ifs t) (hw : ∀ σ H Q, t' σ H Q → t σ H Q) : PTs X ifs t' := ⟨fun pins s σ H Q I q => h.run pins s σ H Q I (hw σ H Q q)⟩
theorem dts_nil : DTs X [] tYesT := pts_weaken pts_nil fun σ H Q ⟨H0, S, M, δ, F, E, q⟩ => q H (Same.refl _)
theorem dts_one {c : Expr} {t : TR} (h : DT X W0 c t) : DTs X [c] t := pts_one h
theorem noRo_at (E : EOk H0 S M σ H δ F) {i : Nat} (h : (match δ.getD i .no with | .ro _ => false | _ => true) = true) : F i = [] := by
  have q := E.slot i
  cases hs : δ.getD i .no with
  | no => rw [hs] at q; exact q
  | sh d => rw [hs] at q; exact q.1
  | ro d => rw [hs] at h; cases h
theorem off_same {i : Nat} (h : F i = []) : (fun j => if j = i then [] else F j) = F := by
  funext j
  by_cases e : j = i
  · subst e; rw [if_pos rfl, h]
  · rw [if_neg e]
theorem wipe_forg {S : Addr → Prop} {M : Gh} : ∀ {vs : List Nat} {δ : Env} {σ : L2.St} {F : Nat → List Addr}, (∀ i ∈ vs, F i = []) → EOk H0 S M σ H δ F → EOk H0 S M (wipe σ vs) H (forg vs δ) F
  | [], δ, σ, F, h, E => E
  | i :: r, δ, σ, F, h, E => by
    show EOk H0 S M ((wipe σ r).set i none) H (forg r (δ.set i .no)) F
    have E1 := E.forget i
    rw [off_same (h i List.mem_cons_self)] at E1
    have E2 : EOk H0 S M (σ.set i none) H (δ.set i .no) F := ⟨by simp [E.len], E1.ext, E1.dom, E1.ms, E1.dm, E1.nd, E1.dj, E1.own, E1.fz, fun j => by
      have q := E1.slot j
      by_cases hj : j = i
      · subst hj
        have e1 : (δ.set j Slot.no).getD j .no = .no := by
          by_cases hi : j < δ.length
          · simp [List.getD, List.getElem?_set, hi]
          · simp [List.getD, List.getElem?_eq_none, Nat.le_of_not_lt hi]
        rw [e1] at q ⊢
        exact q
      · rw [List.getElem?_set_ne (Ne.symm hj)]; exact q⟩
    have E3 := wipe_forg (vs := r) (fun k hk => h k (List.mem_cons_of_mem _ hk)) E2
    have e : wipe (σ.set i none) r = (wipe σ r).set i none := by
      clear E E1 E2 E3 h
      induction r with
      | nil => rfl
      | cons k r ih =>
        show (wipe (σ.set i none) r).set k none = ((wipe σ r).set k none).set i none
        rw [ih]
        by_cases hk : i = k
        · subst hk; rw [List.set_set]
        · rw [List.set_comm _ _ hk]
    rw [e] at E3
    exact E3
/-- targets that store just into the block's own slots -/
def tGv (f : BR) (vs : List Nat) : TG := fun v σ H Q => ∃ H0 S M δ F d, EOk H0 S M σ H δ F ∧ (∀ i ∈ vs, F i = []) ∧ Rep (hide (Oc S F) H) d v ∧ match f d δ with
  | some δ' => ∀ σ', wipe σ' vs = wipe σ vs → EOk H0 S M σ' H δ' F → Q σ' H
  | none => False
def DGv (X : Cx) (tg : Expr) (f : BR) (vs : List Nat) : Prop := PG X tg (tGv f vs)
theorem wipe_set {σ : L2.St} {i : Nat} {x : Option V} : ∀ {vs : List Nat}, i ∈ vs → wipe (σ.set i x) vs = wipe σ vs
  | k :: r, h => by
    show (wipe (σ.set i x) r).set k none = (wipe σ r).set k none
    by_cases hk : i = k
    · subst hk
      by_cases hr : i ∈ r
      · rw [wipe_set hr]
      · have : ∀ r : List Nat, (wipe (σ.set i x) r).set i none = (wipe σ r).set i none := by
          intro r
          induction r with
          | nil => show (σ.set i x).set i none = σ.set i none; rw [List.set_set]
          | cons j r ih =>
            show ((wipe (σ.set i x) r).set j none).set i none = ((wipe σ r).set j none).set i none
            by_cases hj : j = i
            · subst hj; rw [List.set_set, List.set_set]; exact ih
            · rw [List.set_comm _ _ hj, ih, ← List.set_comm _ _ hj]
        exact this r
    · rcases List.mem_cons.mp h with h | h
      · exact (hk h).elim
      · rw [wipe_set h]
theorem dgv_name (i : Nat) {x : Str} {vs : List Nat} (hN : X.N.Nodup) (hm : i ∈ vs) (hi : X.N[i]? = some x := by rfl) (hx : Loc X.env.scope x := by first | exact .inl rfl | exact .inr rfl) (hf : X.fn x = true ∨ X.env.scope.names.lookup x = some .local := by first | exact .inl rfl | exact .inr rfl | assumption) : DGv X (.Name x pos) (bName i) vs :=
  pg_weaken (pg_name hN hi hx hf) fun v σ H Q ⟨H0, S, M, δ, F, d, E, hF, r, q⟩ => q _ (wipe_set hm) (by have E1 := E.setSh (i := i) r; rw [off_same (hF i hm)] at E1; exact E1)
def DGvs (X : Cx) (ts : List Expr) (f : BRs) (vs : List Nat) : Prop := PGs X ts fun xs σ H Q => ∃ H0 S M δ F ds, EOk H0 S M σ H δ F ∧ (∀ i ∈ vs, F i = []) ∧ Reps (hide (Oc S F) H) ds xs ∧ match f ds δ with
  | some δ' => ∀ σ', wipe σ' vs = wipe σ vs → EOk H0 S M σ' H δ' F → Q σ' H
  | none => False
theorem dgvs_nil {vs : List Nat} : DGvs X [] bNil vs := pgs_weaken pgs_nil fun xs σ H Q ⟨H0, S, M, δ, F, ds, E, hF, r, q⟩ => by
  cases ds with
  | nil => exact ⟨Reps.nil_iff.mp r, q σ rfl E⟩
  | cons d ds => exact q.elim
theorem dgvs_cons {t : Expr} {ts : List Expr} {f : BR} {g : BRs} {vs : List Nat} (h1 : DGv X t f vs) (h2 : DGvs X ts g vs) (hs : (assignEach (t :: ts) X.env).map (·.2) = assign t X.env :: (assignEach ts X.env).map (·.2) := by rfl) : DGvs X (t :: ts) (bCons f g) vs :=
  pgs_weaken (pgs_cons h1 h2 hs) fun xs σ H Q ⟨H0, S, M, δ, F, ds, E, hF, r, q⟩ => by
    cases ds with
    | nil => exact q.elim
    | cons d ds =>
      obtain ⟨v, vs', rfl, p, qs⟩ := Reps.cons_iff.mp r
      refine ⟨v, vs', rfl, ?_⟩
      unfold bCons at q
      dsimp only at q
      cases hf : f d δ with
      | none => rw [hf] at q; exact q.elim
      | some δ1 =>
        rw [hf] at q
        refine ⟨H0, S, M, δ, F, d, E, hF, p, ?_⟩
        rw [hf]
        intro σ1 w1 E1
        refine ⟨H0, S, M, δ1, F, ds, E1, hF, qs, ?_⟩
        have q : (match g ds δ1 with | some δ' => ∀ σ', wipe σ' vs = wipe σ vs → EOk H0 S M σ' H δ' F → Q σ' H | none => False) := q
        cases hg : g ds δ1 with
        | none => rw [hg] at q; exact q
        | some δ2 => rw [hg] at q; exact fun σ' w2 E2 => q σ' (w2.trans w1) E2
theorem dgv_tup {ts : List Expr} {k : Nat} {g : BRs} {n : Nat} {vs : List Nat} (hc : X.calm = true) (h : DGvs X ts g vs) (hn : (assignEach ts X.env).length = n := by rfl) (hst : (assignEach ts X.env).findIdx? (·.1) = none := by rfl) : DGv X (.Tuple ts k pos) (bTup n g) vs :=
  pg_weaken (pg_tup hc h hn hst) fun v σ H Q ⟨H0, S, M, δ, F, d, E, hF, r, q⟩ => by
    cases d <;> try exact q.elim
    rename_i ds
    obtain ⟨p, xs, rfl, e, qs⟩ := Rep.tup_iff.mp r
    unfold bTup at q
    dsimp only at q
    by_cases hl : ds.length = n
    · rw [if_pos hl] at q
      exact ⟨p, xs, rfl, .of (hide_some e).2, by rw [← qs.length]; exact hl, H0, S, M, δ, F, ds, E, hF, qs, q⟩
    · rw [if_neg hl] at q
      exact q.elim
theorem compRun_ne {vs : List Nat} {bnd : BR} {t : TR} {f : ER} {δ : Env} {e : Exn} : ∀ {ds : List D}, compRun vs bnd t f ds δ ≠ .exc e
  | [], h => nomatch h
  | x :: xs, h => by
    unfold compRun at h
    split at h
    · cases h
    · split at h
      · split at h
        · cases hr : compRun vs bnd t f xs δ with
          | ok r => rw [hr] at h; cases h
          | exc e => exact compRun_ne hr
          | stuck => rw [hr] at h; cases h
        · cases h
      · exact compRun_ne h
      · cases h
theorem compRun_len {vs : List Nat} {bnd : BR} {t : TR} {f : ER} {δ : Env} : ∀ {ds r : List D}, compRun vs bnd t f ds δ = .ok r → r.length ≤ ds.length
  | [], r, h => by cases h; exact Nat.le_refl _
  | x :: xs, r, h => by
    unfold compRun at h
    split at h
    · cases h
    · split at h
      · split at h
        · cases hr : compRun vs bnd t f xs δ with
          | ok r' => rw [hr] at h; cases h; simp; exact compRun_len hr
          | exc e => rw [hr] at h; cases h
          | stuck => rw [hr] at h; cases h
        · cases h
      · have := compRun_len h; simp; omega
      · cases h
theorem wipe_none {σ : L2.St} {i : Nat} : ∀ {vs : List Nat}, i ∈ vs → (wipe σ vs).set i none = wipe σ vs
  | k :: r, h => by
    show ((wipe σ r).set k none).set i none = (wipe σ r).set k none
    by_cases hk : i = k
    · subst hk; rw [List.set_set]
    · rcases List.mem_cons.mp h with h | h
      · exact (hk h).elim
      · rw [← List.set_comm _ _ hk, wipe_none h]
theorem wipe_wipe {σ : L2.St} : ∀ {vs ws : List Nat}, (∀ i ∈ ws, i ∈ vs) → wipe (wipe σ vs) ws = wipe σ vs
  | vs, [], h => rfl
  | vs, k :: r, h => by
    show (wipe (wipe σ vs) r).set k none = wipe σ vs
    rw [wipe_wipe fun i hi => h i (List.mem_cons_of_mem _ hi), wipe_none (h k List.mem_cons_self)]
theorem EOk.comp {Dd : Addr} {H1 H2 : Hp} (E : EOk H0 S M σ H1 δ F) (hD : H1 Dd = none) (hs : ∀ a u, H1 a = some u → H2 a = some u) (hDd : ∃ o, H2 Dd = some o) : EOk H0 (fun a => S a ∨ a = Dd) ⟨M.M, hide (Oc S F) H1⟩ σ H2 δ F := by
  have ne : ∀ {a u}, H1 a = some u → a ≠ Dd := fun h => ne_of_none h hD
  have kz : Same (hide (Oc S F) H1) (hide (Oc (fun a => S a ∨ a = Dd) F) H2) := same_hide (fun a o _ h => hs a o h) fun a h => by
    rcases h with (h | h) | h
    · exact .inl (.inl h)
    · rw [h]; exact .inr hD
    · exact .inl (.inr h)
  refine ⟨E.len, fun a o h m => hs _ _ (E.ext a o h m), fun a h => ?_, fun a h z => ?_, fun a h => ?_, E.nd, E.dj, fun i a h => ?_, kz, fun i => ?_⟩
  · rcases h with h | h
    · obtain ⟨o, e⟩ := E.dom a h; exact ⟨o, hs _ _ e⟩
    · rw [h]; exact hDd
  · rcases z with z | z
    · exact E.ms a h z
    · obtain ⟨o, e⟩ := E.dm a h; exact ne e z
  · obtain ⟨o, e⟩ := E.dm a h; exact ⟨o, hs _ _ e⟩
  · obtain ⟨⟨o, e⟩, h1, h2⟩ := E.own i a h
    exact ⟨⟨o, hs _ _ e⟩, h1, fun z => z.elim h2 (ne e)⟩
  · refine (E.slot i).mono (Keeps.of_same kz) fun a h => ?_
    obtain ⟨⟨o, e⟩, _⟩ := E.own i a h
    rw [e, hs _ _ e]
/-! what a comprehension walks: the heap only grows meanwhile -/
def YieldsC (P Z : Hp) (J : It) (ds : List D) : Prop := ∀ (i : Nat) (H2 : Hp) (O : Addr → Prop), Same Z H2 → Same P (hide O H2) → (∀ a, O a → ∃ o, H2 a = some o) → (ds.length ≤ i → J.stop i H2) ∧ ∀ d, ds[i]? = some d → J.go i H2 ∧ ∀ x H3, J.yld i H2 x H3 → Same H2 H3 ∧ Rep (hide O H3) d x
def tIc (mg : Str → Option Value) (W : WX) (f : IR) : TI := fun σ H R => ∃ H0 S M δ F, EOk H0 S M σ H δ F ∧ match f δ with
  | .ok ds => ∀ J H', Same H H' → YieldsC (hide (Oc S F) H') H' J ds → R J H'
  | .exc e => ∀ cls dx H', Same H H' → ExcAt mg S H' e cls dx → W cls dx σ H'
  | .stuck => False
def DIc (X : Cx) (W : WX) (tg iter : Expr) (f : IR) : Prop := PI X tg iter (tIc X.mg W f)
theorem di_c {tg iter : Expr} {src : IR} (h : DI X W tg iter src) : DIc X W tg iter src := pi_weaken h fun σ H R ⟨H0, S, M, δ, F, E, q⟩ => by
  refine ⟨H0, S, M, δ, F, E, ?_⟩
  cases hs : src δ with
  | ok ds => rw [hs] at q; exact fun J H' s y => q J H' s fun i H2 O _ s2 hO => y i H2 O s2 hO
  | exc e => rw [hs] at q; exact q
  | stuck => rw [hs] at q; exact q
def iOwn (i : Nat) : IR := fun δ => match δ.getD i .no with
  | .ro (.lst ds) => .ok ds
  | _ => .stuck
theorem di_own (i : Nat) {tg : Expr} {x : Str} {p : Pos} (hN : X.N[i]? = some x := by rfl) (hv : Vis X.env.scope x := by first | exact Or.inl rfl | exact Or.inr (Or.inl rfl) | exact Or.inr (Or.inr rfl)) (hd : (x == ("__debug__" : Str)) = false := by decide)
    (hcd : (x == ("__classdict__" : Str)) = false := by decide) : DIc X W tg (.Name x p) (iOwn i) := pi_weaken (pi_list (pe_var hN hv hd hcd)) fun σ H R ⟨H0, S, M, δ, F, E, q⟩ => by
  unfold iOwn at q
  cases h : δ.getD i .no with
  | no => rw [h] at q; exact q.elim
  | sh d => rw [h] at q; exact q.elim
  | ro d =>
    rw [h] at q
    cases d <;> try exact q.elim
    rename_i ds
    obtain ⟨l, e1, e2, vs, hl, r⟩ := E.ro_at h
    refine ⟨.ref l, e2, l, rfl, ⟨vs, .inl (.inl hl)⟩, q _ H (Same.refl _) fun i H2 O s sz hO => ?_⟩
    have hl2 : H2 l = some (.lst vs) := s _ _ hl
    have q2 := Reps.mono (Keeps.of_same sz) _ _ r
    refine ⟨fun hn => ⟨vs, .inl (.inl hl2), by rw [← r.length]; exact hn⟩, fun d hd => ?_⟩
    obtain ⟨x, hx, rx⟩ := q2.get hd
    refine ⟨⟨vs, x, .inl (.inl hl2), hx⟩, fun y H3 hy => ?_⟩
    obtain ⟨e1, e2⟩ := hy
    subst e1
    have := e2 vs (.inl (.inl hl2))
    rw [hx] at this; cases this
    exact ⟨Same.refl _, rx⟩
theorem comp_t {src : IR} {bnd : BR} {t : TR} {vs : List Nat} {Q : VK} (hq : tE X.mg W .fr (dComp vs src bnd t f) σ H Q) : tLc (tIc X.mg W src) (tGv bnd vs) (tT X.mg W0 t) (tE X.mg W0 .sh f) vs σ H Q := by
  obtain ⟨H0, S, M, δ, F, E, q⟩ := hq
  refine ⟨H0, S, M, δ, F, E, ?_⟩
  unfold dComp at q
  cases hsrc : src δ with
  | exc e => rw [hsrc] at q; exact q
  | stuck => rw [hsrc] at q; exact q
  | ok ds =>
    rw [hsrc] at q
    intro J H1 s Y Dd hD
    have q : Out X.mg W σ H S F .fr (if ds.length < 1000000 ∧ noRo vs δ = true then (compRun vs bnd t f ds δ).bind fun r => .ok (.lst r) else .stuck) Q := q
    split at q
    · rename_i hlen
      have hF : ∀ i ∈ vs, F i = [] := fun i hi => noRo_at E (List.all_eq_true.mp hlen.2 i hi)
      cases hrun : compRun vs bnd t f ds δ with
      | exc e => exact (compRun_ne hrun).elim
      | stuck => rw [hrun] at q; exact q.elim
      | ok rs =>
        rw [hrun] at q
        have q : ∀ v H', Same H H' → ResOk S F H H' .fr (.lst rs) v → Q v H' := q
        have E1 := E.grow s
        have nD := E1.new hD
        refine ⟨fun i n H2 => n = ds.length - i ∧ i ≤ ds.length ∧ (∀ a u, H1 a = some u → H2 a = some u) ∧ ∃ acc accV r2, H2 Dd = some (.lst accV) ∧ acc.length ≤ i ∧ Reps (hide (fun a => Oc S F a ∨ a = Dd) H2) acc accV ∧ compRun vs bnd t f (ds.drop i) δ = .ok r2 ∧ acc ++ r2 = rs, ⟨_, rfl, Nat.zero_le _, fun a u h => by rw [upd_ne (ne_of_none h hD)]; exact h, [], [], rs, upd_same, Nat.zero_le _, .nil, hrun, rfl⟩, ?_⟩
        rintro i n H2 ⟨rfl, hi, hsame, acc, accV, r2, hDd, hacc, racc, hr2, hrs⟩
        have E2 := wipe_forg hF (E1.comp hD hsame ⟨_, hDd⟩)
        obtain ⟨y1, y2⟩ := Y i H2 _ hsame E2.fz (fun a h => E2.there h)
        by_cases hlt : i < ds.length
        · right
          have hd : ds[i]? = some ds[i] := List.getElem?_eq_getElem hlt
          have hdrop : ds.drop i = ds[i] :: ds.drop (i + 1) := List.drop_eq_getElem_cons hlt
          rw [hdrop] at hr2
          obtain ⟨go, yld⟩ := y2 _ hd
          have lacc := racc.length
          refine ⟨go, fun H3 => (∀ a u, H1 a = some u → H3 a = some u) ∧ ∃ acc accV r2, H3 Dd = some (.lst accV) ∧ acc.length ≤ i + 1 ∧ Reps (hide (fun a => Oc S F a ∨ a = Dd) H3) acc accV ∧ compRun vs bnd t f (ds.drop (i + 1)) δ = .ok r2 ∧ acc ++ r2 = rs, fun H3 h => ⟨_, by omega, rfl, hlt, h⟩, fun x H3 hy => ?_⟩
          obtain ⟨s3, rx⟩ := yld x H3 hy
          refine ⟨H0, _, _, forg vs δ, F, ds[i], E2.grow s3, hF, rx, ?_⟩
          unfold compRun at hr2
          cases hbn : bnd ds[i] (forg vs δ) with
          | none => rw [hbn] at hr2; cases hr2
          | some δ1 =>
            rw [hbn] at hr2
            refine fun σ4 w4 E4 => ⟨by rw [w4, wipe_wipe fun i h => h], H0, _, _, δ1, F, E4, ?_⟩
            dsimp only at hr2
            cases hT : t δ1 with
            | stuck => rw [hT] at hr2; cases hr2
            | exc e => rw [hT] at hr2; cases hr2
            | ok bb =>
              rw [hT] at hr2
              intro H5 s5
              cases bb with
              | false =>
                dsimp only at hr2
                refine ⟨fun a u h => s5 _ _ (s3 _ _ (hsame a u h)), acc, accV, r2, s5 _ _ (s3 _ _ hDd), by omega, Reps.mono (hide_keeps (s3.trans s5)) _ _ racc, hr2, hrs⟩
              | true =>
                dsimp only at hr2
                have E5 := E4.grow s5
                refine ⟨H0, _, _, δ1, F, E5, ?_⟩
                cases hf : f δ1 with
                | stuck => rw [hf] at hr2; cases hr2
                | exc e => rw [hf] at hr2; cases hr2
                | ok d =>
                  rw [hf] at hr2
                  dsimp only at hr2
                  cases hc2 : compRun vs bnd t f (ds.drop (i + 1)) δ with
                  | stuck => rw [hc2] at hr2; cases hr2
                  | exc e => rw [hc2] at hr2; cases hr2
                  | ok r3 =>
                    rw [hc2] at hr2
                    cases hr2
                    intro v H6 s6 rv
                    have hD6 : H6 Dd = some (.lst accV) := s6 _ _ (s5 _ _ (s3 _ _ hDd))
                    have hu : ∀ {a u}, a ≠ Dd → H6 a = some u → (upd H6 Dd (.lst (accV ++ [v]))) a = some u := fun n h => by rw [upd_ne n]; exact h
                    have kk : Keeps (hide (fun a => Oc S F a ∨ a = Dd) H6) (hide (fun a => Oc S F a ∨ a = Dd) (upd H6 Dd (.lst (accV ++ [v])))) := Keeps.of_same (same_hide (fun a u z h => hu (fun e => z (.inr e)) h) fun a h => .inl h)
                    have kk2 : Keeps (hide (Oc (fun a => S a ∨ a = Dd) F) H6) (hide (fun a => Oc S F a ∨ a = Dd) H6) := Keeps.of_same (same_hide (fun _ _ _ h => h) fun a h => by
                      rcases h with (h | h) | h
                      · exact .inl (.inl (.inl h))
                      · exact .inl (.inr h)
                      · exact .inl (.inl (.inr h)))
                    refine ⟨accV, hD6, lt_line (by omega), fun a u h => hu (ne_of_none h hD) (s6 _ _ (s5 _ _ (s3 _ _ (hsame a u h)))), acc ++ [d], accV ++ [v], r3, upd_same, by simp; omega, ?_, rfl, by rw [← hrs]; simp⟩
                    exact ((Reps.mono (hide_keeps ((s3.trans s5).trans s6)) _ _ racc).append (.cons (Rep.mono kk2 _ _ rv) .nil)).mono kk
        · left
          have hdrop : ds.drop i = [] := List.drop_eq_nil_of_le (Nat.le_of_not_lt hlt)
          rw [hdrop] at hr2
          cases hr2
          rw [List.append_nil] at hrs
          subst hrs
          refine ⟨y1 (Nat.le_of_not_lt hlt), q _ _ (fun a u h => hsame a u (s _ _ h)) ⟨Dd, rfl, s.free hD, accV, hDd, racc⟩⟩
    · exact q.elim

theorem de_comp {elt tg iter : Expr} {ifs : List Expr} {scope : Scope} {own : List (Str × Nat)} {src : IR} {bnd : BR} {t : TR} (vs : List Nat) (hvs : own.map (·.2) = vs) (hc : X.calm = true) (hN : X.N.Nodup) (hi : DIc X W tg iter src) (ok : BlkOk X.N X.env.scope scope own)
    (hg : ∀ (s : Shared) (H : Hp) (C : Addr) (cl : List (Str × Addr)) (fp : List Addr), DGv (X.blk s H scope (compEnvC scope cl C X.env) fp) tg bnd vs) (ht : ∀ (s : Shared) (H : Hp) (C : Addr) (cl : List (Str × Addr)) (fp : List Addr), DTs (X.blk s H scope (compEnvC scope cl C X.env) fp) ifs t)
    (he : ∀ (s : Shared) (H : Hp) (C : Addr) (cl : List (Str × Addr)) (fp : List Addr), DE (X.blk s H scope (compEnvC scope cl C X.env) fp) W0 .sh elt f) (hs : ∀ x, foldedSetIterable iter X.env x = pure x := by intro _; rfl) :
    DE X W .fr (.ListComp elt [⟨tg, iter, ifs, 0⟩] scope pos) (dComp vs src bnd t f) := by
  subst hvs
  exact pe_weaken (pe_lc (tt := tT X.mg W0 t) (te := tE X.mg W0 .sh f) hc hN hi ok hg ht he hs) fun σ H Q h => comp_t h
/-- name = [..] -/
theorem ds_setC {i : Nat} {y : Str} {py cpos : Pos} {elt tg iter : Expr} {ifs : List Expr} {scope : Scope} {own : List (Str × Nat)} {src : IR} {bnd : BR} {t : TR} (vs : List Nat) (hvs : own.map (·.2) = vs) (hc : X.calm = true) (hN : X.N.Nodup) (hi : DIc X W tg iter src) (ok : BlkOk X.N X.env.scope scope own)
    (hg : ∀ (s : Shared) (H : Hp) (C : Addr) (cl : List (Str × Addr)) (fp : List Addr), DGv (X.blk s H scope (compEnvC scope cl C X.env) fp) tg bnd vs) (ht : ∀ (s : Shared) (H : Hp) (C : Addr) (cl : List (Str × Addr)) (fp : List Addr), DTs (X.blk s H scope (compEnvC scope cl C X.env) fp) ifs t)
    (he : ∀ (s : Shared) (H : Hp) (C : Addr) (cl : List (Str × Addr)) (fp : List Addr), DE (X.blk s H scope (compEnvC scope cl C X.env) fp) W0 .sh elt f) (hy : X.N[i]? = some y := by rfl) (hyl : X.env.scope.names.lookup y = some .local := by rfl) (hsw : swapsWith (.ListComp elt [⟨tg, iter, ifs, 0⟩] scope cpos) (some (.Name y py)) pos.line X.env = pure true := by rfl) (hs : ∀ x, foldedSetIterable iter X.env x = pure x := by intro _; rfl) :
    DS X κ W (.Assign [.Name y py] (.ListComp elt [⟨tg, iter, ifs, 0⟩] scope cpos) pos) (dSet i (dComp vs src bnd t f)) := by
  subst hvs
  exact ps_weaken (ps_setLc (tt := tT X.mg W0 t) (te := tE X.mg W0 .sh f) hc hN hy hyl hsw hi ok hg ht he hs) fun D σ H ⟨H0, S, M, δ, F, E, q⟩ => comp_t (W := W) (Q := fun x H1 => D.nx (σ.set i (some x)) H1)
    ⟨H0, S, M, δ, F, E, Out.ofS E q fun d v H1 s r o => o _ H1 _ ((E.grow s).setSh (r.shared E))⟩
theorem ds_setRC {i : Nat} {y : Str} {py cpos : Pos} {elt tg iter : Expr} {ifs : List Expr} {scope : Scope} {own : List (Str × Nat)} {src : IR} {bnd : BR} {t : TR} (vs : List Nat) (hvs : own.map (·.2) = vs) (hc : X.calm = true) (hN : X.N.Nodup) (hi : DIc X W tg iter src) (ok : BlkOk X.N X.env.scope scope own)
    (hg : ∀ (s : Shared) (H : Hp) (C : Addr) (cl : List (Str × Addr)) (fp : List Addr), DGv (X.blk s H scope (compEnvC scope cl C X.env) fp) tg bnd vs) (ht : ∀ (s : Shared) (H : Hp) (C : Addr) (cl : List (Str × Addr)) (fp : List Addr), DTs (X.blk s H scope (compEnvC scope cl C X.env) fp) ifs t)
    (he : ∀ (s : Shared) (H : Hp) (C : Addr) (cl : List (Str × Addr)) (fp : List Addr), DE (X.blk s H scope (compEnvC scope cl C X.env) fp) W0 .sh elt f) (hy : X.N[i]? = some y := by rfl) (hyl : X.env.scope.names.lookup y = some .local := by rfl) (hsw : swapsWith (.ListComp elt [⟨tg, iter, ifs, 0⟩] scope cpos) (some (.Name y py)) pos.line X.env = pure true := by rfl) (hs : ∀ x, foldedSetIterable iter X.env x = pure x := by intro _; rfl) :
    DS X κ W (.Assign [.Name y py] (.ListComp elt [⟨tg, iter, ifs, 0⟩] scope cpos) pos) (dSetR i (dComp vs src bnd t f)) := by
  subst hvs
  exact ps_weaken (ps_setLc (tt := tT X.mg W0 t) (te := tE X.mg W0 .sh f) hc hN hy hyl hsw hi ok hg ht he hs) fun D σ H ⟨H0, S, M, δ, F, E, q⟩ => comp_t (W := W) (Q := fun x H1 => D.nx (σ.set i (some x)) H1)
    ⟨H0, S, M, δ, F, E, Out.ofS E q fun d v H1 s r o => by
      obtain ⟨p, rfl, hp, r⟩ := r
      obtain ⟨F', E'⟩ := E.setRoE (i := i) s hp r
      exact o _ H1 F' E'⟩
end Dx
end
section
namespace Dx
open PySem L2 PyProof.Rows

variable {X : Cx} {W : WX} {m κ : Md} {a b c e o : Expr} {fa fb fc fo f fk fv : ER} {pos : Pos} {st : Stmt} {rest body : List Stmt} {F1 F2 G B : SM}
variable {S : Addr → Prop} {M : Gh} {F : Nat → List Addr} {H0 H H' : Hp} {σ : L2.St} {δ : Env}

theorem kit_bool {K : PySem.W.Frag} : KitT K "bool" := kit_all (by decide +kernel)
/-! a text so many times -/
def repS (a : Str) (k : Int) : Str := if k < 1 then Str.empty else if (k == 1 || a.length == 0) = true then a else ⟨(List.replicate k.toNat a.cps).foldl (· ++ ·) #[]⟩
theorem fold_size {a : Array Cp} : ∀ (n : Nat) (z : Array Cp), ((List.replicate n a).foldl (· ++ ·) z).size = z.size + n * a.size
  | 0, z => by simp
  | n + 1, z => by
    rw [List.replicate_succ, List.foldl_cons, fold_size n, Array.size_append, Nat.add_mul, Nat.one_mul]
    omega
theorem op_smul : OpR X (binaryOp .Mult) (fun x y H Q => ∃ a k, x = .str a ∧ y = .int k ∧ (a.length ≤ 1000 ∧ -1000 ≤ k ∧ k ≤ 1000) ∧ Q (.str (repS a k)) H) := by
  intro pins s σ H x y v u Q I rx ry h
  obtain ⟨a, k, rfl, rfl, hz, q⟩ := h
  obtain ⟨t, rfl⟩ := rx
  obtain ⟨t', rfl⟩ := ry
  obtain ⟨z1, z2, z3⟩ := hz
  have hkn : k.toNat ≤ 1000 := by omega
  have hm : a.length * k.toNat ≤ 1000 * 1000 := Nat.mul_le_mul z1 hkn
  have hs : a.length * k.toNat ≤ sizeLine := Nat.le_trans hm (by decide)
  refine PySem.P.mul_str (by rw [decide_eq_false (by omega), decide_eq_false (by omega)]; rfl) (fun h1 h2 => ?_) (fun h1 h2 => ?_) ?_
  · have hk0 : 0 < k := by omega
    intro hc
    have : (2 ^ 63 - 1 : Int) / 1000 ≤ (2 ^ 63 - 1) / k := Int.le_ediv_of_mul_le hk0 (by
      have h3 : (2 ^ 63 - 1 : Int) / 1000 * k ≤ (2 ^ 63 - 1 : Int) / 1000 * 1000 := Int.mul_le_mul_of_nonneg_left z3 (by decide)
      have h4 : (2 ^ 63 - 1 : Int) / 1000 * 1000 ≤ 2 ^ 63 - 1 := by decide
      omega)
    have h5 : (1000 : Int) ≤ (2 ^ 63 - 1) / 1000 := by decide
    omega
  · unfold Builtin.Str.tooLong
    exact decide_eq_false (by omega)
  · unfold repS at q
    split
    · rename_i h1
      rw [if_pos h1] at q
      exact ⟨by decide, .str _, H, I.tok _, ⟨_, rfl⟩, q⟩
    · rename_i h1
      rw [if_neg h1] at q
      split
      · rename_i h2
        rw [if_pos h2] at q
        exact ⟨.str _, H, I, ⟨_, rfl⟩, q⟩
      · rename_i h2
        rw [if_neg h2] at q
        refine ⟨?_, .str _, H, I.tok _, ⟨_, rfl⟩, q⟩
        show Array.size _ ≤ _
        rw [fold_size]
        have : a.cps.size = a.length := rfl
        rw [this, Nat.mul_comm]
        simpa using hs
def smulD : D → D → Res D
  | .str a, .int k => if a.length ≤ 1000 ∧ -1000 ≤ k ∧ k ≤ 1000 then .ok (.str (repS a k)) else .stuck
  | _, _ => .stuck
theorem de_smul (ha : DE X W m a fa) (hb : DE X W m b fb) : DE X W .sh (.BinOp a .Mult b pos) (dOp2 smulD fa fb) :=
  de_flat (flats_op2 fun d1 d2 d h => by unfold smulD at h; split at h <;> first | (cases h; done) | (split at h <;> first | (cases h; done) | (cases h; rfl))) (de_op2 op_smul (fun P H x y d1 d2 d Q hP r1 r2 hg hq => by
    unfold smulD at hg
    split at hg <;> first | (cases hg; done) | skip
    split at hg <;> cases hg
    rename_i hc
    exact ⟨_, _, Rep.str_iff.mp r1, Rep.int_iff.mp r2, hc, hq _ H (Same.refl _) (Rep.str_iff.mpr rfl)⟩) (fun d1 d2 e h => by unfold smulD at h; split at h <;> first | (cases h; done) | (split at h <;> cases h)) ha hb)

/-! a list so many times -/
theorem op_repR : OpR X (binaryOp .Mult) (fun x y H Q => ∃ l k xs, x = .ref l ∧ y = .int k ∧ Rd H l (.lst xs) ∧ -(2 ^ 63) ≤ k ∧ k < 2 ^ 63 ∧ xs.length * k.toNat ≤ sizeLine ∧
  ∀ p, H p = none → Q (.ref p) (upd H p (.lst (List.replicate k.toNat xs).flatten))) := by
  intro pins s σ H x y v u Q I rx ry h
  obtain ⟨l, k, xs, rfl, rfl, hH, h1, h2, hz, q⟩ := h
  cases rx
  obtain ⟨t, rfl⟩ := ry
  obtain ⟨z, its, n, r, hl, e⟩ := lst_rd I hH
  have hlen : its.toArray.size * k.toNat ≤ sizeLine := by rw [List.size_toArray, ← hl]; exact hz
  have hcap : ¬ its.toArray.size * k.toNat > (2 ^ 63 - 1) / 8 := by
    have : (sizeLine : Nat) ≤ (2 ^ 63 - 1) / 8 := by decide
    omega
  have hfit : ¬ (!Builtin.List.listFitsIndex k) = true := by
    rw [fitsIndex_both h1 h2]; exact Bool.false_ne_true
  have hlong : ¬ Builtin.List.listTooLong (its.toArray.size * k.toNat) = true := by
    rw [notLongL hlen]; exact Bool.false_ne_true
  have f0 : ∀ m : Nat, List.foldl (fun x1 x2 => x1 ++ x2) #[] (List.replicate m its.toArray) = (List.replicate m its).flatten.toArray := fun m => by
    have := foldl_rep its m []
    rw [List.nil_append] at this
    exact this
  have hnew : List.foldl (fun x1 x2 => x1 ++ x2) #[] (List.replicate (if its.toArray.isEmpty = true then 0 else k.toNat) its.toArray) = (List.replicate k.toNat its).flatten.toArray := by
    rw [f0]
    cases its with
    | nil => simp
    | cons a r' => rw [if_neg (by simp)]
  refine wpAny_binaryOp_repeat_ref (T := "list") (U := "int") (by decide) ⟨_, e, rfl⟩ (fun s' => typeIs_int s' k t) noFill_list_mul F.fills_int_mul F.slot_int_rmul repeat_list F.slot_int_index.lookup
    (call_meets F.slot_int_rmul (typeIs_int s k t) F.entry_int_rmul (F.args_int_rmul_2 _ _) (int___rmul___int_list k t l its.toArray n)
      ⟨e, rfl, ⟨_, e, rfl⟩, call_meets F.slot_list_mul ⟨_, e, rfl⟩ F.entry_list_mul (F.args_list_mul_2 _ _) (AutoListH.list___mul___list_int_3 l its.toArray n k t hfit hcap hlong) ⟨e, ?_⟩⟩)
  rw [hnew]
  exact ⟨.ref _, _, I.lnew (t' := s.toks) (r.rep k.toNat) (by rw [PyProof.Rows.lm_len_rep_flat, Nat.mul_comm]; exact hz), rfl, q _ I.fresh⟩
def lmulD : D → D → Res D
  | .lst xs, .int k => if xs.length ≤ 1000 ∧ k ≤ 1000 ∧ -1000 ≤ k then .ok (.lst (List.replicate k.toNat xs).flatten) else .stuck
  | _, _ => .stuck
theorem Reps.repl {H : Hp} {ds : List D} {vs : List V} (r : Reps H ds vs) : ∀ n : Nat, Reps H (List.replicate n ds).flatten (List.replicate n vs).flatten
  | 0 => .nil
  | n + 1 => by
    rw [List.replicate_succ, List.replicate_succ, List.flatten_cons, List.flatten_cons]
    exact r.append (r.repl n)
theorem r2_lmul : R2N (fun x y H Q => ∃ l k xs, x = .ref l ∧ y = .int k ∧ Rd H l (.lst xs) ∧ -(2 ^ 63) ≤ k ∧ k < 2 ^ 63 ∧ xs.length * k.toNat ≤ sizeLine ∧
  ∀ p, H p = none → Q (.ref p) (upd H p (.lst (List.replicate k.toNat xs).flatten))) lmulD := fun H0 S M σ H δ F m x y d1 d2 d Q E r1 r2 hg hq => by
  unfold lmulD at hg
  split at hg <;> first | (cases hg; done) | skip
  split at hg <;> cases hg
  rename_i xs k hc
  obtain ⟨a1, vs, rfl, h1, q1⟩ := Rep.lst_iff.mp r1
  have l1 := q1.length
  have hkn : k.toNat ≤ 1000 := by omega
  refine ⟨a1, k, vs, rfl, Rep.int_iff.mp r2, rd_hide h1, by omega, by omega, ?_, fun p hp => hq _ _ (same_upd hp) (res_lst E hp (q1.repl _))⟩
  have : vs.length * k.toNat ≤ 1000 * 1000 := Nat.mul_le_mul (by omega) hkn
  exact Nat.le_trans this (by decide)
theorem de_lmul (ha : DE X W m a fa) (hb : DE X W m b fb) : DE X W m.new (.BinOp a .Mult b pos) (dOp2 lmulD fa fb) :=
  pe_weaken (pe_op op_repR ha hb) fun σ H Q ⟨H0, S, M, δ, F, E, q⟩ => tOp_new r2_lmul (fun d1 d2 e h => by unfold lmulD at h; split at h <;> first | (cases h; done) | (split at h <;> cases h)) E q fun _ _ h => h

/-! a < b < c, of ints -/
def dChain (g h : D → D → Res D) (fa fb fc : ER) : ER := fun δ => (fa δ).bind fun x => (fb δ).bind fun y => (g x y).bind fun d => match d with
  | .bl true => (fc δ).bind fun z => h y z
  | .bl false => .ok (.bl false)
  | _ => .stuck
theorem chain_t {p p' : Int → Int → Bool} {Q P : VK} (E : EOk H0 S M σ H δ F) (h : Out X.mg W σ H S F .bo (dChain (cmpI p) (cmpI p') fa fb fc δ) Q) (hP : ∀ k H, Q (.bl k) H → P (.bl k) H) :
    tChain (rI0 fun i j => .bl (p i j)) (rI0 fun i j => .bl (p' i j)) (tE X.mg W .bo fa) (tE X.mg W .bo fb) (tE X.mg W .bo fc) σ H P := by
  refine ⟨H0, S, M, δ, F, E, Out.bind h fun d1 v1 H1 _ s1 r1 o1 => ?_⟩
  refine ⟨H0, S, M, δ, F, E.grow s1, Out.bind o1 fun d2 v2 H2 _ s2 r2 o2 => ?_⟩
  cases d1 <;> try exact o2.elim
  rename_i i _
  cases d2 <;> try exact o2.elim
  rename_i j _
  have e1 := r1.flat_inv rfl
  have e2 := r2.flat_inv rfl
  subst e1; subst e2
  refine ⟨i, j, rfl, rfl, p i j, rfl, ?_⟩
  have o2 : Out X.mg W σ H2 S F .bo (match D.bl (p i j) with
    | .bl true => (fc δ).bind fun z => cmpI p' (.int j) z
    | .bl false => .ok (.bl false)
    | _ => .stuck) Q := o2
  cases hp : p i j with
  | false =>
    rw [hp] at o2
    rw [if_neg (by decide)]
    exact hP _ _ (o2 (.bl false) H2 (Same.refl _) (ResOk.flat_mk (.bl _) rfl fun h => nomatch h))
  | true =>
    rw [hp] at o2
    rw [if_pos rfl]
    refine ⟨H0, S, M, δ, F, (E.grow s1).grow s2, Out.bind o2 fun d3 v3 H3 _ s3 r3 o3 => ?_⟩
    cases d3 <;> try exact o3.elim
    rename_i k _
    have e3 := r3.flat_inv rfl
    subst e3
    exact ⟨j, k, rfl, rfl, hP _ _ (o3 (.bl (p' j k)) H3 (Same.refl _) (ResOk.flat_mk (.bl _) rfl fun h => nomatch h))⟩
theorem de_chain {op op' : CmpOp} {p p' : Int → Int → Bool} (ho : OpR X (compareOp op) (rI0 fun i j => .bl (p i j))) (ho' : OpR X (compareOp op') (rI0 fun i j => .bl (p' i j))) (ha : DE X W .bo a fa) (hb : DE X W .bo b fb) (hc : DE X W .bo c fc)
    (hm : lastMarks [op, op'] [b, c] = false := by with_unfolding_all rfl) : DE X W .bo (.Compare a [op, op'] [b, c] pos) (dChain (cmpI p) (cmpI p') fa fb fc) :=
  pe_weaken (pe_chain ho ho' ha hb hc hm) fun σ H Q ⟨H0, S, M, δ, F, E, q⟩ => chain_t E q fun _ _ h => h
theorem dt_chain {op op' : CmpOp} {p p' : Int → Int → Bool} (ho : OpR X (compareOp op) (rI0 fun i j => .bl (p i j))) (ho' : OpR X (compareOp op') (rI0 fun i j => .bl (p' i j))) (ha : DE X W .bo a fa) (hb : DE X W .bo b fb) (hc : DE X W .bo c fc)
    (hm : lastMarks [op, op'] [b, c] = false := by with_unfolding_all rfl) : DT X W (.Compare a [op, op'] [b, c] pos) (dTst (dChain (cmpI p) (cmpI p') fa fb fc)) :=
  pt_weaken (pt_chain ho ho' ha hb hc hm) fun σ H Q ⟨H0, S, M, δ, F, E, q⟩ => by
    refine chain_t (Q := fun v H => ∃ k, v = .bl k ∧ Q k H) E ?_ fun k H h => h
    have q : OutT X.mg W σ H S F ((dChain (cmpI p) (cmpI p') fa fb fc δ).bind toB) Q := q
    exact Out.ofT q fun k H1 _ h => ⟨k, rfl, h⟩

theorem takesW0 : Takes X W0 := fun u s' ⟨_, _, _, _, _, _, _, _, _, _, _, _, _, _, _, _, w⟩ => w.elim
/-! a list or a tuple is walked -/
def iSeq (f : ER) : IR := fun δ => (f δ).bind fun d => match d with | .lst ds => .ok ds | .tup ds => .ok ds | _ => .stuck
theorem pi_or {tg iter : Expr} {t t' : TI} (h : PI X tg iter t) (h' : PI X tg iter t') : PI X tg iter fun σ H R => t σ H R ∨ t' σ H R := ⟨fun pins s σ H R I q => q.elim (h.run pins s σ H R I) (h'.run pins s σ H R I)⟩
theorem di_seq {tg iter : Expr} (h : DE X W .sh iter f) : DI X W tg iter (iSeq f) := pi_weaken (pi_or (di_list h) (di_tuple h)) fun σ H R ⟨H0, S, M, δ, F, E, q⟩ => by
  unfold iSeq at q
  cases hf : f δ with
  | stuck => rw [hf] at q; exact q.elim
  | exc e => rw [hf] at q; exact .inl ⟨H0, S, M, δ, F, E, by unfold iLst; rw [hf]; exact q⟩
  | ok d =>
    rw [hf] at q
    cases d <;> first | exact q.elim | skip
    · exact .inl ⟨H0, S, M, δ, F, E, by unfold iLst; rw [hf]; exact q⟩
    · exact .inr ⟨H0, S, M, δ, F, E, by unfold iTupl; rw [hf]; exact q⟩
end Dx
end
section
namespace Dx
open PySem L2 PyProof.Rows

variable {X : Cx} {W : WX} {m κ : Md} {a b c e o : Expr} {fa fb fc fo f fk fv : ER} {pos : Pos} {st : Stmt} {rest body : List Stmt} {F1 F2 G B : SM}
variable {S : Addr → Prop} {M : Gh} {F : Nat → List Addr} {H0 H H' : Hp} {σ : L2.St} {δ : Env}

/-! an own root is read: its parts are shared -/
theorem own_at (E : EOk H0 S M σ H δ F) {i : Nat} {d : D} (h : δ.getD i .no = .ro d) : ∃ a, F i = [a] ∧ σ[i]? = some (some (.ref a)) ∧ Root (hide (Oc S F) H) H d a := by
  have z := E.slot i
  rw [h] at z
  exact z
theorem own_more (E : EOk H0 S M σ H δ F) {i : Nat} {d : D} {a : Addr} (h : δ.getD i .no = .ro d) (ha : F i = [a]) : Root (hide (Oc S F) H) H d a := by
  obtain ⟨b, h1, _, r⟩ := own_at E h
  rw [ha] at h1
  cases h1
  exact r
theorem ixD_lst {xs : List D} {k d : D} (h : ixD (.lst xs) k = .ok d) : ∃ j, k = .int j ∧ atI xs j = some d := by
  cases k with
  | int j =>
    have h : (match atI xs j with | some d => Res.ok d | none => .stuck) = .ok d := h
    cases e : atI xs j with
    | none => rw [e] at h; cases h
    | some d' => rw [e] at h; cases h; exact ⟨j, rfl, e⟩
  | _ => cases h
theorem ixD_dic {kvs : List (Key × D)} {k d : D} (h : ixD (.dic kvs) k = .ok d) : ∃ kk, keyOf k = some kk ∧ lookK kvs kk = some d := by
  have h : (match askD (.dic kvs) k with | some (some e) => Res.ok e | _ => .stuck) = .ok d := h
  cases e : askD (.dic kvs) k with
  | none => rw [e] at h; cases h
  | some o =>
    rw [e] at h
    cases o with
    | none => cases h
    | some d' =>
      cases h
      simp only [askD, Option.map_eq_some_iff] at e
      exact e
theorem ixD_dct {kvs : List (List Key × D)} {k d : D} (h : ixD (.dct kvs) k = .ok d) : ∃ kk, tkeyOf k = some kk ∧ lookK kvs kk = some d := by
  have h : (match askD (.dct kvs) k with | some (some e) => Res.ok e | _ => .stuck) = .ok d := h
  cases e : askD (.dct kvs) k with
  | none => rw [e] at h; cases h
  | some o =>
    rw [e] at h
    cases o with
    | none => cases h
    | some d' =>
      cases h
      simp only [askD, Option.map_eq_some_iff] at e
      exact e
def dIxO (i : Nat) (f : ER) : ER := fun δ => match δ.getD i .no with
  | .ro d => (f δ).bind fun k => ixD d k
  | _ => .stuck
theorem de_ixO (i : Nat) {x : Str} {p : Pos} (hu : X.A.units + 64 < cLine) (hb : DE X W .bo b fb) (hN : X.N[i]? = some x := by rfl) (hv : Vis X.env.scope x := by first | exact Or.inl rfl | exact Or.inr (Or.inl rfl) | exact Or.inr (Or.inr rfl)) (hd : (x == ("__debug__" : Str)) = false := by decide)
    (hcd : (x == ("__classdict__" : Str)) = false := by decide) (hs : PlainIx b := by exact fun _ _ => rfl) : DE X W .sh (.Subscript (.Name x p) b pos) (dIxO i fb) :=
  pe_weaken (pe_ix (ix_any (by omega)) (pe_var hN hv hd hcd) hb hs) fun σ H Q ⟨H0, S, M, δ, F, E, q⟩ => by
    unfold dIxO at q
    cases h : δ.getD i .no with
    | no => rw [h] at q; exact q.elim
    | sh d => rw [h] at q; exact q.elim
    | ro d =>
      rw [h] at q
      obtain ⟨a, e1, e2, _⟩ := own_at E h
      refine ⟨.ref a, e2, H0, S, M, δ, F, E, Out.bind q fun k y H1 _ s1 r1 o1 => ?_⟩
      have E1 := E.grow s1
      have rt := own_more E1 h e1
      have r1 : Rep (hide S H1) k y := r1
      cases hg : ixD d k with
      | stuck => rw [hg] at o1; exact o1.elim
      | exc e => exact (noExc_ixD _ _ _ hg).elim
      | ok dd =>
        rw [hg] at o1
        have o1 : ∀ v H', Same H1 H' → Rep (hide (Oc S F) H') dd v → Q v H' := o1
        cases d with
        | lst ds =>
          obtain ⟨vs, hl, rs⟩ := rt
          obtain ⟨j, rfl, hj⟩ := ixD_lst hg
          obtain ⟨v, hv, rv⟩ := atI_rep rs hj
          exact .inl (.inl ⟨a, vs, j, v, rfl, Rep.int_iff.mp r1, .inl (.inl hl), hv, o1 v H1 (Same.refl _) rv⟩)
        | dic kvs =>
          obtain ⟨ws, hl, rs⟩ := rt
          obtain ⟨kk, hk1, hk2⟩ := ixD_dic hg
          rcases RepK.look kk rs with ⟨z1, z2⟩ | ⟨d2, v, z1, z2, z3⟩
          · rw [hk2] at z1; cases z1
          · rw [hk2] at z1; cases z1
            exact .inr ⟨a, v, rfl, .inl ⟨ws, kk, .inl hl, keyOf_rep hk1 r1, z2.symm⟩, o1 v H1 (Same.refl _) z3⟩
        | dct kvs =>
          obtain ⟨ws, hl, rs⟩ := rt
          obtain ⟨kk, hk1, hk2⟩ := ixD_dct hg
          obtain ⟨b', rfl, eb⟩ := tkeyOf_rep hk1 r1
          rcases RepT.look kk rs with ⟨z1, z2⟩ | ⟨d2, v, z1, z2, z3⟩
          · rw [hk2] at z1; cases z1
          · rw [hk2] at z1; cases z1
            exact .inr ⟨a, v, rfl, .inr ⟨ws, kk, b', .inl hl, rfl, (hide_some eb).2, z2.symm⟩, o1 v H1 (Same.refl _) z3⟩
        | _ => exact rt.elim
def dCopyO (i : Nat) : ER := fun δ => match δ.getD i .no with
  | .ro (.lst ds) => .ok (.lst ds)
  | _ => .stuck
theorem de_listO (i : Nat) {x : Str} {p p2 : Pos} (hm : X.mg "list" = none) (hN : X.N[i]? = some x := by rfl) (hv : Vis X.env.scope x := by first | exact Or.inl rfl | exact Or.inr (Or.inl rfl) | exact Or.inr (Or.inr rfl)) (hd : (x == ("__debug__" : Str)) = false := by decide)
    (hcd : (x == ("__classdict__" : Str)) = false := by decide) (hg : Gl X "list" := by rfl) (he : starEach [.Name x p2] X.env = (false, eval (.Name x p2) X.env) :: starEach [] X.env := by rfl) (hpl : (backTo pos (starEach [] X.env)).any (·.1) = false := by rfl) :
    DE X W .fr (.Call (.Name "list" p) [.Name x p2] [] pos) (dCopyO i) :=
  pe_weaken (pe_callTy call_list_of hg hm (by decide +kernel) (pa_cons (pe_var hN hv hd hcd) pa_nil he) (by decide) (by decide) he hpl) fun σ H Q ⟨H0, S, M, δ, F, E, q⟩ => by
    unfold dCopyO at q
    cases h : δ.getD i .no with
    | no => rw [h] at q; exact q.elim
    | sh d => rw [h] at q; exact q.elim
    | ro d =>
      rw [h] at q
      cases d <;> try exact q.elim
      rename_i ds
      obtain ⟨a, e1, e2, vs, hl, rs⟩ := own_at E h
      exact ⟨.ref a, e2, a, vs, rfl, .inl (.inl (.inl hl)), fun l hl2 => q _ _ (same_upd hl2) (res_lst (m := .sh) E hl2 rs)⟩
def dSliceO (i : Nat) (lo hi : PR) : ER := fun δ => match δ.getD i .no with
  | .ro (.lst ds) => (lo δ).bind fun l => (hi δ).bind fun h => .ok (.lst (cutL ds l h))
  | _ => .stuck
theorem de_sliceO (i : Nat) {x : Str} {p p2 : Pos} {lo hi : Option Expr} {fl fh : PR} (hl : DP X W lo fl) (hh : DP X W hi fh) (hN : X.N[i]? = some x := by rfl) (hv : Vis X.env.scope x := by first | exact Or.inl rfl | exact Or.inr (Or.inl rfl) | exact Or.inr (Or.inr rfl)) (hd : (x == ("__debug__" : Str)) = false := by decide)
    (hcd : (x == ("__classdict__" : Str)) = false := by decide) : DE X W .fr (.Subscript (.Name x p) (.Slice lo hi none p2) pos) (dSliceO i fl fh) :=
  pe_weaken (pe_slice sl_list (pe_var hN hv hd hcd) hl hh) fun σ H Q ⟨H0, S, M, δ, F, E, q⟩ => by
    unfold dSliceO at q
    cases h : δ.getD i .no with
    | no => rw [h] at q; exact q.elim
    | sh d => rw [h] at q; exact q.elim
    | ro d =>
      rw [h] at q
      cases d <;> try exact q.elim
      rename_i ds
      obtain ⟨a, e1, e2, _⟩ := own_at E h
      refine ⟨.ref a, e2, H0, S, M, δ, F, E, OutG.ofE q fun l H2 _ s2 o2 => ⟨H0, S, M, δ, F, E.grow s2, OutG.ofE o2 fun u H3 _ s3 o3 => ?_⟩⟩
      have E3 := (E.grow s2).grow s3
      obtain ⟨vs, hl3, rs⟩ := own_more E3 h e1
      have o3 : Out X.mg W σ H3 S F .fr (.ok (.lst (cutL ds l u))) Q := o3
      exact ⟨a, vs, rfl, .inl (.inl hl3), fun p hp => o3 _ _ (same_upd hp) (res_lst (m := .sh) E3 hp (reps_cut rs))⟩
end Dx
end
section
namespace Dx
open PySem L2 PyProof.Rows

/-! texts as lists of codes -/
def tx (l : List Nat) : Str := ⟨l.toArray⟩
abbrev T (l : List Nat) : D := .str (tx l)
def cs (a : Str) : List Nat := a.cps.toList
theorem tx_cs (a : Str) : tx (cs a) = a := by cases a; simp [tx, cs]
@[simp] theorem cs_tx (l : List Nat) : cs (tx l) = l := by simp [tx, cs]
@[simp] theorem tx_cps (l : List Nat) : (tx l).cps = l.toArray := id rfl
@[simp] theorem tx_len (l : List Nat) : (tx l).length = l.length := by simp [tx, Str.length]
@[simp] theorem tx_inj {a b : List Nat} : tx a = tx b ↔ a = b := ⟨fun h => by have := congrArg cs h; simpa using this, fun h => by rw [h]⟩
@[simp] theorem tx_beq {a b : List Nat} : (tx a == tx b) = (a == b) := by
  rw [Bool.eq_iff_iff]; simp
@[simp] theorem tx_app (a b : List Nat) : tx a ++ tx b = tx (a ++ b) := by
  show (⟨a.toArray ++ b.toArray⟩ : Str) = ⟨(a ++ b).toArray⟩
  simp
theorem big_line : (16777216 : Nat) ≤ sizeLine := by decide
theorem line_eq : sizeLine = 16777216 := by decide

section
variable {δ : Env} {fa fb fc f g : ER} {fs : LR} {a b : D}
@[simp] theorem e_dC (d : D) : dC d δ = .ok d := id rfl
@[simp] theorem e_Op2 (h : D → D → Res D) : dOp2 h fa fb δ = (fa δ).bind fun x => (fb δ).bind fun y => h x y := id rfl
@[simp] theorem e_Op1 (h : D → Res D) : dOp1 h fa δ = (fa δ).bind h := id rfl
@[simp] theorem e_Tst : dTst f δ = (f δ).bind toB := id rfl
@[simp] theorem e_toB (b : Bool) : toB (.bl b) = .ok b := id rfl
@[simp] theorem e_Nil : dNil δ = .ok [] := id rfl
@[simp] theorem e_Cons : dCons f fs δ = (f δ).bind fun x => (fs δ).bind fun xs => .ok (x :: xs) := id rfl
@[simp] theorem e_Call (h : List D → Res D) : dCall h fs δ = (fs δ).bind h := id rfl
@[simp] theorem e_Lst : dLst fs δ = (fs δ).bind fun xs => if xs.length ≤ 1000 then .ok (.lst xs) else .stuck := id rfl
@[simp] theorem e_Tup : dTup fs δ = (fs δ).bind fun xs => if xs.length ≤ 1000 then .ok (.tup xs) else .stuck := id rfl
@[simp] theorem e_AndT (f g : TR) : dAndT f g δ = (f δ).bind fun b => if b = true then g δ else .ok false := id rfl
@[simp] theorem e_OrT (f g : TR) : dOrT f g δ = (f δ).bind fun b => if b = true then .ok true else g δ := id rfl
@[simp] theorem e_NotT (f : TR) : dNotT f δ = (f δ).bind fun b => .ok (!b) := id rfl
@[simp] theorem e_AndV : dAndV f g δ = (f δ).bind fun d => (toB d).bind fun b => if b = true then g δ else .ok (.bl false) := id rfl
@[simp] theorem e_OrV : dOrV f g δ = (f δ).bind fun d => (toB d).bind fun b => if b = true then .ok (.bl true) else g δ := id rfl
@[simp] theorem e_NotV : dNotV f δ = (f δ).bind fun d => (toB d).bind fun b => .ok (.bl (!b)) := id rfl
@[simp] theorem e_IfE (t : TR) : dIfE t f g δ = (t δ).bind fun b => if b = true then f δ else g δ := id rfl
@[simp] theorem e_Imm : dImm f δ = (f δ).bind fun d => if flat d then .ok d else .stuck := id rfl
@[simp] theorem e_NoP : dNoP δ = .ok none := id rfl
@[simp] theorem e_P : dP f δ = (f δ).bind fun d => match d with | .int i => .ok (some i) | _ => .stuck := id rfl
@[simp] theorem e_Slice (h : D → Option Int → Option Int → Res D) (lo hi : PR) : dSlice h f lo hi δ = (f δ).bind fun d => (lo δ).bind fun l => (hi δ).bind fun u => h d l u := id rfl
@[simp] theorem e_Neg : dNeg f δ = (f δ).bind fun d => match d with | .int i => .ok (.int (-i)) | _ => .stuck := id rfl
@[simp] theorem e_M1 (n : String) (h : D → D → Res D) : dM1 n h fa fb δ = (fa δ).bind fun x => if isTD n x then (fb δ).bind fun y => h x y else .stuck := id rfl
@[simp] theorem e_Isi (n : String) : dIsi n f δ = (f δ).bind fun d => if okKind d then .ok (.bl (isiD n d)) else .stuck := id rfl
@[simp] theorem e_Get1 : dGet1 fa fb δ = (fa δ).bind fun x => if isDic x then (fb δ).bind fun y => match askD x y with | some (some e) => .ok e | some none => .ok .non | none => .stuck else .stuck := id rfl
@[simp] theorem e_Get2 : dGet2 fa fb fc δ = (fa δ).bind fun x => if isDic x then (fb δ).bind fun y => (fc δ).bind fun z => match askD x y with | some (some e) => .ok e | some none => .ok z | none => .stuck else .stuck := id rfl
@[simp] theorem e_YesT : tYesT δ = .ok true := id rfl
@[simp] theorem e_IxO (i : Nat) : dIxO i f δ = match δ.getD i .no with
  | .ro d => (f δ).bind fun k => ixD d k
  | _ => .stuck := id rfl
@[simp] theorem e_CopyO (i : Nat) : dCopyO i δ = match δ.getD i .no with
  | .ro (.lst ds) => .ok (.lst ds)
  | _ => .stuck := id rfl
@[simp] theorem e_SliceO (i : Nat) (lo hi : PR) : dSliceO i lo hi δ = match δ.getD i .no with
  | .ro (.lst ds) => (lo δ).bind fun l => (hi δ).bind fun h => .ok (.lst (cutL ds l h))
  | _ => .stuck := id rfl
/-! names -/
def slotB : Slot → Res D
  | .sh d => .ok d
  | .ro d => .ok d
  | .no => .stuck
def slotS : Slot → Res D
  | .sh d => .ok d
  | _ => .stuck
@[simp] theorem e_Var (i : Nat) : dVar i δ = slotB (δ.getD i .no) := id rfl
@[simp] theorem e_Sh (i : Nat) : dSh i δ = slotS (δ.getD i .no) := by unfold dSh; cases δ.getD i .no <;> rfl
@[simp] theorem slotB_sh (d : D) : slotB (.sh d) = .ok d := id rfl
@[simp] theorem slotB_ro (d : D) : slotB (.ro d) = .ok d := id rfl
@[simp] theorem slotS_sh (d : D) : slotS (.sh d) = .ok d := id rfl
def asLst : D → Res (List D)
  | .lst ds => .ok ds
  | _ => .stuck
def asTup : D → Res (List D)
  | .tup ds => .ok ds
  | _ => .stuck
def asSeq : D → Res (List D)
  | .lst ds => .ok ds
  | .tup ds => .ok ds
  | _ => .stuck
@[simp] theorem asSeq_lst (ds : List D) : asSeq (.lst ds) = .ok ds := id rfl
@[simp] theorem asSeq_tup (ds : List D) : asSeq (.tup ds) = .ok ds := id rfl
def asEnum : D → Res (List D)
  | .lst ds => .ok (enumL ds)
  | _ => .stuck
@[simp] theorem asLst_eq (ds : List D) : asLst (.lst ds) = .ok ds := id rfl
@[simp] theorem asTup_eq (ds : List D) : asTup (.tup ds) = .ok ds := id rfl
@[simp] theorem asEnum_eq (ds : List D) : asEnum (.lst ds) = .ok (enumL ds) := id rfl
/-! statements -/
variable {F1 F2 G B : SM}
def seqK (F2 : SM) : SR → SR
  | .nx δ => F2 δ
  | r => r
@[simp] theorem e_Seq : dSeq F1 F2 δ = seqK F2 (F1 δ) := by unfold dSeq seqK; cases F1 δ <;> rfl
@[simp] theorem seqK_nx : seqK F2 (.nx δ) = F2 δ := id rfl
@[simp] theorem seqK_ret (d : D) : seqK F2 (.ret d δ) = .ret d δ := id rfl
@[simp] theorem seqK_cont : seqK F2 (.cont δ) = .cont δ := id rfl
@[simp] theorem seqK_brk : seqK F2 (.brk δ) = .brk δ := id rfl
@[simp] theorem seqK_exc (e : Exn) : seqK F2 (.exc e δ) = .exc e δ := id rfl
@[simp] theorem e_Skip : dSkip δ = .nx δ := id rfl
@[simp] theorem e_Brk : dBrk δ = .brk δ := id rfl
@[simp] theorem e_Cont : dCont δ = .cont δ := id rfl
@[simp] theorem e_Drop : dDrop f δ = sBind (f δ) δ fun _ => .nx δ := id rfl
@[simp] theorem e_Set (i : Nat) : dSet i f δ = sBind (f δ) δ fun d => .nx (δ.set i (.sh d)) := id rfl
@[simp] theorem e_SetR (i : Nat) : dSetR i f δ = sBind (f δ) δ fun d => .nx (δ.set i (.ro d)) := id rfl
@[simp] theorem e_Ret : dRet f δ = sBind (f δ) δ fun d => .ret d δ := id rfl
@[simp] theorem e_If (t : TR) : dIf t F1 F2 δ = sBind (t δ) δ fun b => if b = true then F1 δ else F2 δ := id rfl
@[simp] theorem e_App (i : Nat) : dApp i f δ = match δ.getD i .no with
  | .ro (.lst ds) => sBind (f δ) δ fun d => if ds.length < 1000000 then .nx (δ.set i (.ro (.lst (ds ++ [d])))) else .stuck
  | _ => .stuck := id rfl
@[simp] theorem e_Dput (i : Nat) : dDput i fa fb δ = match δ.getD i .no with
  | .ro (.dic kvs) => sBind (fb δ) δ fun v => sBind (fa δ) δ fun k => match keyOf k with
    | some k => if kvs.length < 1000000 then .nx (δ.set i (.ro (.dic (putD kvs k v)))) else .stuck
    | none => .stuck
  | .ro (.dct kvs) => sBind (fb δ) δ fun v => sBind (fa δ) δ fun k => match tkeyOf k with
    | some k => if kvs.length < 1000000 then .nx (δ.set i (.ro (.dct (putD kvs k v)))) else .stuck
    | none => .stuck
  | _ => .stuck := id rfl
@[simp] theorem e_Lput (i : Nat) : dLput i fa fb δ = match δ.getD i .no with
  | .ro (.lst ds) => sBind (fb δ) δ fun v => sBind (fa δ) δ fun k => match k with
    | .int n => match ixN ds.length n with
      | some j => .nx (δ.set i (.ro (.lst (ds.set j v))))
      | none => .stuck
    | _ => .stuck
  | _ => .stuck := id rfl
@[simp] theorem e_RetV (i : Nat) : dRetV i δ = match δ.getD i .no with
  | .ro d => .ret d δ
  | _ => .stuck := id rfl
@[simp] theorem e_Clear (i : Nat) : dClear i δ = match δ.getD i .no with
  | .ro (.lst ds) => .nx (δ.set i (.ro (.lst [])))
  | _ => .stuck := id rfl
@[simp] theorem e_Pop (j i : Nat) : dPop j i δ = match δ.getD i .no with
  | .ro (.lst ds) => match ds.getLast? with
    | some d => .nx ((δ.set i (.ro (.lst ds.dropLast))).set j (.sh d))
    | none => .stuck
  | _ => .stuck := id rfl
@[simp] theorem e_frz (i : Nat) : frz i δ = match δ.getD i .no with
  | .ro d => δ.set i (.sh d)
  | _ => δ := id rfl
@[simp] theorem e_Frz (i : Nat) : dFrz i F1 δ = F1 (frz i δ) := id rfl
@[simp] theorem e_Asg (g : BR) : dAsg f g δ = sBind (f δ) δ fun d => match g d δ with | some δ' => .nx δ' | none => .stuck := id rfl
@[simp] theorem e_For (kills : List Nat) (bnd : BR) (src : IR) : dFor kills bnd B src δ = sBind (src δ) δ fun xs => forRun kills bnd B xs δ := id rfl
@[simp] theorem e_bName (i : Nat) (d : D) : bName i d δ = some (δ.set i (.sh d)) := id rfl
@[simp] theorem e_bNil : bNil [] δ = some δ := id rfl
@[simp] theorem e_bCons (f : BR) (g : BRs) (d : D) (r : List D) : bCons f g (d :: r) δ = (f d δ).bind (g r) := id rfl
@[simp] theorem e_bTup (n : Nat) (g : BRs) (ds : List D) : bTup n g (.tup ds) δ = if ds.length = n then g ds δ else none := id rfl
@[simp] theorem e_forg0 : forg [] δ = δ := id rfl
@[simp] theorem e_forg1 (i : Nat) (r : List Nat) : forg (i :: r) δ = forg r (δ.set i .no) := id rfl
@[simp] theorem e_iLst : iLst f δ = (f δ).bind asLst := by unfold iLst; congr 1; try (funext d; cases d <;> rfl)
@[simp] theorem e_iOwn (i : Nat) : iOwn i δ = match δ.getD i .no with
  | .ro (.lst ds) => .ok ds
  | _ => .stuck := id rfl
@[simp] theorem e_iTupl : iTupl f δ = (f δ).bind asTup := by unfold iTupl; congr 1; try (funext d; cases d <;> rfl)
@[simp] theorem e_iSeq : iSeq f δ = (f δ).bind asSeq := by unfold iSeq; congr 1; try (funext d; cases d <;> rfl)
@[simp] theorem e_iEnumL : iEnumL f δ = (f δ).bind asEnum := by unfold iEnumL; congr 1; try (funext d; cases d <;> rfl)
@[simp] theorem e_iRange : iRange f δ = (f δ).bind fun d => match d with | .int j => if rngOk j = true then .ok (rngL 0 j.toNat) else .stuck | _ => .stuck := id rfl
@[simp] theorem e_iSigns : iSigns f δ = (f δ).bind fun d => match d with | .str z => .ok (signsL z) | _ => .stuck := id rfl
@[simp] theorem e_Comp (vs : List Nat) (bnd : BR) (t : TR) (src : IR) : dComp vs src bnd t f δ = (src δ).bind fun xs => if xs.length < 1000000 ∧ noRo vs δ = true then (compRun vs bnd t f xs δ).bind fun r => .ok (.lst r) else .stuck := id rfl
end
/-! operations on data -/
@[simp] theorem add_int (i j : Int) : addD (.int i) (.int j) = .ok (.int (i + j)) := id rfl
@[simp] theorem add_tx (a b : List Nat) (h : a.length + b.length ≤ 16777216) : addD (T a) (T b) = .ok (T (a ++ b)) := by
  show (if _ then _ else _) = _
  rw [if_pos (by rw [tx_len, tx_len, line_eq]; exact h), tx_app]
@[simp] theorem int2_eq (C : Int → Int → Bool) (k : Int → Int → D) (i j : Int) : int2 C k (.int i) (.int j) = if C i j = true then .ok (k i j) else .stuck := id rfl
@[simp] theorem cmpI_eq (p : Int → Int → Bool) (i j : Int) : cmpI p (.int i) (.int j) = .ok (.bl (p i j)) := id rfl
@[simp] theorem len_tx (a : List Nat) (h : a.length ≤ 16777216) : lenD (T a) = .ok (.int a.length) := by
  show (if _ then _ else _) = _
  rw [if_pos (by rw [tx_len, line_eq]; exact h), tx_len]
@[simp] theorem len_lst (xs : List D) : lenD (.lst xs) = .ok (.int xs.length) := id rfl
@[simp] theorem len_tup (xs : List D) : lenD (.tup xs) = .ok (.int xs.length) := id rfl
@[simp] theorem eqC_tx (a b : List Nat) : eqC (T a) (T b) = .ok (.bl (a == b)) := by
  show optB (if scal (.str (tx a)) (.str (tx b)) then some (tx a == tx b) else none) id = _
  rw [tx_beq]; rfl
@[simp] theorem neC_tx (a b : List Nat) : neC (T a) (T b) = .ok (.bl (!(a == b))) := by
  show optB (if scal (.str (tx a)) (.str (tx b)) then some (tx a == tx b) else none) not = _
  rw [tx_beq]; rfl
@[simp] theorem eqC_int (a b : Int) : eqC (.int a) (.int b) = .ok (.bl (a == b)) := id rfl
@[simp] theorem neC_int (a b : Int) : neC (.int a) (.int b) = .ok (.bl (!(a == b))) := id rfl
theorem atI_ofNat {α : Type} (xs : List α) (n : Nat) : atI xs (n : Int) = xs[n]? := by
  unfold atI ixN
  rw [if_pos (by omega)]
  by_cases h : n < xs.length
  · rw [if_pos (by omega)]; rfl
  · rw [if_neg (by omega)]
    exact (List.getElem?_eq_none (by omega)).symm
theorem atI_last {α : Type} (xs : List α) (x : α) : atI (xs ++ [x]) (-1) = some x := by
  unfold atI ixN
  rw [if_neg (by omega), if_pos (by rw [List.length_append, List.length_singleton]; omega)]
  show (xs ++ [x])[(-1 + ((xs ++ [x]).length : Int)).toNat]? = _
  have : (-1 + ((xs ++ [x]).length : Int)).toNat = xs.length := by rw [List.length_append, List.length_singleton]; omega
  rw [this]; simp
theorem ix_lst (xs : List D) (i : Int) (d : D) (h : atI xs i = some d) : ixD (.lst xs) (.int i) = .ok d := by
  show (match atI xs i with | some d => _ | none => _) = _
  rw [h]
theorem ix_tup (xs : List D) (i : Int) (d : D) (h : atI xs i = some d) : ixD (.tup xs) (.int i) = .ok d := by
  show (match atI xs i with | some d => _ | none => _) = _
  rw [h]
theorem ix_tx (a : List Nat) (i : Int) (c : Nat) (hl : a.length ≤ 16777216) (h : atI a i = some c) : ixD (T a) (.int i) = .ok (T [c]) := by
  show (if _ then (match atI a.toArray.toList i with | some c => _ | none => _) else _) = _
  rw [if_pos (by rw [tx_len, line_eq]; exact hl)]
  simp only [h]
  rfl
@[simp] theorem sliceL_eq (xs : List D) (lo hi : Option Int) : sliceL (.lst xs) lo hi = .ok (.lst (cutL xs lo hi)) := id rfl
@[simp] theorem sliceS_tx (a : List Nat) (lo hi : Option Int) (hl : a.length ≤ 16777216) : sliceS (T a) lo hi = .ok (T (cutL a lo hi)) := by
  show (if _ then _ else _) = _
  rw [if_pos (by rw [tx_len, line_eq]; exact hl)]
  rfl
theorem rep_tx (a : List Nat) (k : Int) : repS (tx a) k = tx (List.replicate k.toNat a).flatten := by
  unfold repS
  split
  · rename_i h
    have : k.toNat = 0 := by omega
    rw [this]; rfl
  · split
    · rename_i h
      simp only [tx_len, Bool.or_eq_true, beq_iff_eq] at h
      rcases h with h | h
      · subst h; simp
      · have : a = [] := List.eq_nil_of_length_eq_zero h
        subst this; simp
    · have : ∀ (n : Nat) (z : List Nat), (List.replicate n a.toArray).foldl (· ++ ·) z.toArray = (z ++ (List.replicate n a).flatten).toArray := by
        intro n
        induction n with
        | zero => intro z; simp
        | succ n ih =>
          intro z
          rw [List.replicate_succ, List.foldl_cons, List.append_toArray, ih, List.replicate_succ, List.flatten_cons, List.append_assoc]
      have h := this k.toNat []
      simp only [tx, tx_cps] at h ⊢
      rw [h]; simp
@[simp] theorem smul_tx (a : List Nat) (k : Int) (h : a.length ≤ 1000 ∧ -1000 ≤ k ∧ k ≤ 1000) : smulD (T a) (.int k) = .ok (T (List.replicate k.toNat a).flatten) := by
  show (if _ then _ else _) = _
  rw [if_pos (by rw [tx_len]; exact h), rep_tx]
theorem rstrip_tx (a : List Nat) (c : Nat) : Txt.rstripChars (tx a) (tx [c]) = tx (a.reverse.dropWhile (· == c)).reverse := by
  unfold Txt.rstripChars
  rw [stripBy_eq]
  have hg : (fun x => (tx [c]).cps.contains x) = (fun x => x == c) := by
    funext x
    rw [Bool.eq_iff_iff]
    simp [tx]
  show Builtin.Str.strSub (tx a) 0 ((tx a).length - (((tx a).cps.toList.drop 0).reverse.takeWhile fun x => (tx [c]).cps.contains x).length) = _
  rw [hg]
  unfold Builtin.Str.strSub
  show (⟨a.toArray.extract 0 _⟩ : Str) = ⟨_⟩
  congr 1
  rw [tx_len]
  show a.toArray.extract 0 (a.length - (a.reverse.takeWhile (· == c)).length) = (a.reverse.dropWhile (· == c)).reverse.toArray
  have e : a = (a.reverse.dropWhile (· == c)).reverse ++ (a.reverse.takeWhile (· == c)).reverse := by
    rw [← List.reverse_append, List.takeWhile_append_dropWhile, List.reverse_reverse]
  have hl : a.length - (a.reverse.takeWhile (· == c)).length = (a.reverse.dropWhile (· == c)).reverse.length := by
    have := congrArg List.length e
    simp only [List.length_append, List.length_reverse] at this ⊢
    omega
  rw [hl]
  apply Array.toList_inj.mp
  simp only [Array.toList_extract, List.extract_eq_drop_take, List.drop_zero, Nat.sub_zero]
  show List.take _ a = _
  conv => lhs; rw [e]
  rw [List.take_append_of_le_length (by simp), List.take_of_length_le (by simp)]
@[simp] theorem rstripD_tx (a : List Nat) (c : Nat) (hl : a.length ≤ 16777216) : rstripD (T a) (T [c]) = .ok (T (a.reverse.dropWhile (· == c)).reverse) := by
  show (if _ then _ else _) = _
  rw [if_pos (by rw [tx_len, line_eq]; exact hl), rstrip_tx]
theorem strIn_one (c : Nat) (l : List Nat) : strIn (tx [c]) (tx l) = decide (c ∈ l) := by
  rcases strIn_cases (tx [c]) (tx l) with ⟨c', h1, h2⟩ | h
  · have : [c] = [c'] := tx_inj.mp (by rw [h1]; rfl)
    cases this
    rw [h2]; rfl
  · rw [h]
    have := PySem.StrLaws.found_one (tx l) c
    exact this
@[simp] theorem inD_one (c : Nat) (l : List Nat) : inD false (T [c]) (T l) = .ok (.bl (decide (c ∈ l))) := by
  show optB (some (strIn (tx [c]) (tx l))) _ = _
  rw [strIn_one]; rfl
@[simp] theorem ninD_one (c : Nat) (l : List Nat) : inD true (T [c]) (T l) = .ok (.bl (!decide (c ∈ l))) := by
  show optB (some (strIn (tx [c]) (tx l))) _ = _
  rw [strIn_one]; rfl
@[simp] theorem signs_tx (l : List Nat) : signsL (tx l) = l.map fun c => T [c] := id rfl
@[simp] theorem isTD_str (s : Str) : isTD "str" (.str s) = true := id rfl
@[simp] theorem isTD_lst (s : List D) : isTD "list" (.lst s) = true := id rfl
@[simp] theorem cMul_r (i j : Int) (h1 : 0 ≤ j) (h2 : j ≤ 1000000000000) : cMul i j = true := by
  unfold cMul fits64
  simp only [Bool.or_eq_true, decide_eq_true_eq]
  omega
theorem cMul_l (i j : Int) (h1 : 0 ≤ i) (h2 : i ≤ 1000000000000) : cMul i j = true := by
  unfold cMul fits64
  simp only [Bool.or_eq_true, decide_eq_true_eq]
  omega
@[simp] theorem rngOk_ok (j : Int) (h1 : -1000000000000 ≤ j) (h2 : j ≤ 1000000000000) : rngOk j = true := by
  unfold rngOk
  simp only [decide_eq_true_eq]
  omega
/-! loops -/
theorem forRun_cons {kills : List Nat} {bnd : BR} {B : SM} {x : D} {xs : List D} {δ δ1 : Env} (h : bnd x (forg kills δ) = some δ1) : forRun kills bnd B (x :: xs) δ = match B δ1 with
      | .nx δ2 => forRun kills bnd B xs δ2
      | .cont δ2 => forRun kills bnd B xs δ2
      | .brk δ2 => .nx δ2
      | r => r := by
  show (match bnd x (forg kills δ) with | none => _ | some δ1 => _) = _
  rw [h]
  try rfl
/-- every turn goes on: P holds of what is left and of the names -/
theorem forRun_inv {kills : List Nat} {bnd : BR} {B : SM} (P : List D → Env → Prop) (hs : ∀ x xs δ, P (x :: xs) δ → ∃ δ1 δ2, bnd x (forg kills δ) = some δ1 ∧ (B δ1 = .nx δ2 ∨ B δ1 = .cont δ2) ∧ P xs δ2) :
    ∀ xs δ, P xs δ → ∃ δ', forRun kills bnd B xs δ = .nx (forg kills δ') ∧ P [] δ'
  | [], δ, h => ⟨δ, rfl, h⟩
  | x :: xs, δ, h => by
    obtain ⟨δ1, δ2, h1, h2, h3⟩ := hs x xs δ h
    obtain ⟨δ', q, p⟩ := forRun_inv P hs xs δ2 h3
    refine ⟨δ', ?_, p⟩
    rw [forRun_cons h1]
    rcases h2 with h2 | h2 <;> rw [h2] <;> exact q
theorem rngL_len (a n : Nat) : (rngL a n).length = n := by simp [rngL]
end Dx
end
section
namespace Dx
open PySem L2 PyProof.Rows

/-! comprehensions over lists -/
theorem compRun_map {vs : List Nat} {bnd : BR} {f : ER} {δ : Env} (g : D → D) : ∀ (xs : List D), (∀ x ∈ xs, ∃ δ1, bnd x (forg vs δ) = some δ1 ∧ f δ1 = .ok (g x)) → compRun vs bnd tYesT f xs δ = .ok (xs.map g)
  | [], _ => rfl
  | x :: xs, h => by
    obtain ⟨δ1, h1, h2⟩ := h x List.mem_cons_self
    unfold compRun
    simp only [h1, e_YesT, h2]
    rw [compRun_map g xs fun y hy => h y (List.mem_cons_of_mem _ hy)]
    rfl
theorem compRun_filter {vs : List Nat} {bnd : BR} {t : TR} {f : ER} {δ : Env} (p : D → Bool) (g : D → D) : ∀ (xs : List D), (∀ x ∈ xs, ∃ δ1, bnd x (forg vs δ) = some δ1 ∧ t δ1 = .ok (p x) ∧ (p x = true → f δ1 = .ok (g x))) → compRun vs bnd t f xs δ = .ok ((xs.filter p).map g)
  | [], _ => rfl
  | x :: xs, h => by
    obtain ⟨δ1, h1, h2, h3⟩ := h x List.mem_cons_self
    have ih := compRun_filter p g xs fun y hy => h y (List.mem_cons_of_mem _ hy)
    unfold compRun
    simp only [h1, h2]
    cases hp : p x with
    | true => simp only [h3 hp, ih, List.filter_cons, hp, if_true]; rfl
    | false => simp only [ih, List.filter_cons, hp]; rfl
/-! join -/
theorem strsOf_T (ls : List (List Nat)) : strsOf (ls.map T) = some (ls.map tx) := by
  rw [show ls.map T = (ls.map tx).map D.str by rw [List.map_map]; rfl]
  exact strsOf_strs _
theorem fold_join (sep : List Nat) : ∀ (ls : List (List Nat)) (z : List Nat), (ls.map tx).foldl (fun acc p => acc ++ (tx sep).cps ++ p.cps) z.toArray = (z ++ (ls.map fun l => sep ++ l).flatten).toArray
  | [], z => by simp
  | l :: r, z => by
    rw [List.map_cons, List.foldl_cons]
    have : z.toArray ++ (tx sep).cps ++ (tx l).cps = (z ++ sep ++ l).toArray := by simp
    rw [this, fold_join sep r]
    simp
def joinL (sep : List Nat) : List (List Nat) → List Nat
  | [] => []
  | l :: r => l ++ (r.map fun l => sep ++ l).flatten
theorem join_txt (sep : List Nat) (ls : List (List Nat)) : Txt.join (tx sep) (ls.map tx) = tx (joinL sep ls) := by
  cases ls with
  | nil => rfl
  | cons l r =>
    show (⟨(r.map tx).foldl (fun acc p => acc ++ (tx sep).cps ++ p.cps) l.toArray⟩ : Str) = _
    rw [fold_join]; rfl
theorem joinL_nil (ls : List (List Nat)) : joinL [] ls = ls.flatten := by
  cases ls <;> simp [joinL]
theorem joinL_len (sep : List Nat) : ∀ ls : List (List Nat), (joinL sep ls).length ≤ (ls.map fun l => sep.length + l.length).sum
  | [] => by simp [joinL]
  | l :: r => by
    have : ∀ r : List (List Nat), ((r.map fun l => sep ++ l).flatten).length = (r.map fun l => sep.length + l.length).sum := fun r => by
      induction r with
      | nil => rfl
      | cons a r ih => simp [ih]; omega
    simp [joinL]
    have h := this r
    simp at h
    omega
theorem joinD_lst (sep : List Nat) (ls : List (List Nat)) (h : (ls.map List.length).sum + ls.length * sep.length ≤ 16777216) : joinD (T sep) (.lst (ls.map T)) = .ok (T (joinL sep ls)) := by
  show joinSeq (tx sep) (ls.map T) = _
  unfold joinSeq
  rw [strsOf_T]
  dsimp only
  rw [if_pos (by simpa [List.map_map, Function.comp_def] using h), join_txt]
theorem joinD_tup (sep : List Nat) (ls : List (List Nat)) (h : (ls.map List.length).sum + ls.length * sep.length ≤ 16777216) : joinD (T sep) (.tup (ls.map T)) = .ok (T (joinL sep ls)) := joinD_lst sep ls h
theorem sum_le {α : Type} (f : α → Nat) (b : Nat) : ∀ (l : List α), (∀ x ∈ l, f x ≤ b) → (l.map f).sum ≤ l.length * b
  | [], _ => by simp
  | x :: r, h => by
    have h1 := h x List.mem_cons_self
    have h2 := sum_le f b r fun y hy => h y (List.mem_cons_of_mem _ hy)
    simp only [List.map_cons, List.sum_cons, List.length_cons, Nat.add_mul]
    omega
/-! parts -/
theorem cut_take {α : Type} (xs : List α) (n : Nat) : cutL xs none (some (n : Int)) = xs.take n := by
  unfold cutL
  rw [show HT.sIx xs.length 0 none = 0 from rfl, HT.sIx_nat]
  simp
theorem cut_drop {α : Type} (xs : List α) (n : Nat) : cutL xs (some (n : Int)) none = xs.drop n := by
  unfold cutL
  rw [show HT.sIx xs.length xs.length none = xs.length from rfl, HT.sIx_nat]
  apply List.ext_getElem?
  intro i
  simp only [List.getElem?_take, List.getElem?_drop]
  by_cases h : n ≤ xs.length
  · rw [Nat.min_eq_left h]
    split
    · rfl
    · exact (List.getElem?_eq_none (by omega)).symm
  · rw [Nat.min_eq_right (by omega)]
    split
    · omega
    · exact (List.getElem?_eq_none (by omega)).symm
theorem cut_mid {α : Type} (xs : List α) (a b : Nat) : cutL xs (some (a : Int)) (some (b : Int)) = (xs.take b).drop a := by
  unfold cutL
  rw [HT.sIx_nat, HT.sIx_nat]
  apply List.ext_getElem?
  intro i
  simp only [List.getElem?_take, List.getElem?_drop]
  by_cases h : a ≤ xs.length
  · rw [Nat.min_eq_left h]
    by_cases h2 : b ≤ xs.length
    · rw [Nat.min_eq_left h2]
      by_cases h3 : i < b - a
      · rw [if_pos h3, if_pos (by omega)]
      · rw [if_neg h3, if_neg (by omega)]
    · rw [Nat.min_eq_right (a := b) (by omega)]
      by_cases h3 : i < xs.length - a
      · rw [if_pos h3, if_pos (by omega)]
      · rw [if_neg h3]
        split
        · exact (List.getElem?_eq_none (by omega)).symm
        · rfl
  · have e1 : min a xs.length = xs.length := Nat.min_eq_right (by omega)
    have e2 : min b xs.length ≤ xs.length := Nat.min_le_right _ _
    rw [e1, if_neg (by omega)]
    split
    · exact (List.getElem?_eq_none (by omega)).symm
    · rfl
theorem ix_tx_nat (a : List Nat) (n : Nat) (c : Nat) (hl : a.length ≤ 16777216) (h : a[n]? = some c) : ixD (T a) (.int (n : Int)) = .ok (T [c]) := ix_tx a n c hl (by rw [Dx.atI_ofNat]; exact h)
theorem ix_lst_nat (a : List D) (n : Nat) (c : D) (h : a[n]? = some c) : ixD (.lst a) (.int (n : Int)) = .ok c := ix_lst a n c (by rw [Dx.atI_ofNat]; exact h)
theorem ix_tup_nat (a : List D) (n : Nat) (c : D) (h : a[n]? = some c) : ixD (.tup a) (.int (n : Int)) = .ok c := ix_tup a n c (by rw [Dx.atI_ofNat]; exact h)
/-- the position in a row by an int below its length -/
theorem ix_int {α : Type} (a : List α) (i : Int) (h0 : 0 ≤ i) (h1 : i < a.length) : ∃ (n : Nat) (c : α), i = (n : Int) ∧ a[n]? = some c := by
  refine ⟨i.toNat, a[i.toNat]'(by omega), by omega, List.getElem?_eq_getElem _⟩
theorem forRun_nil {kills : List Nat} {bnd : BR} {B : SM} {δ : Env} : forRun kills bnd B [] δ = .nx (forg kills δ) := rfl
/-- a loop that looks for the first: R tells the answer of a turn -/
theorem forRun_first {α : Type} {kills : List Nat} {bnd : BR} {B : SM} (P : Env → Prop) (emb : α → D) (R : α → Option D) : ∀ (l : List α) (δ : Env), P δ →
    (∀ x ∈ l, ∀ δ, P δ → ∃ δ1, bnd (emb x) (forg kills δ) = some δ1 ∧ ((R x = none ∧ ∃ δ2, (B δ1 = .nx δ2 ∨ B δ1 = .cont δ2) ∧ P δ2) ∨ ∃ d δ2, R x = some d ∧ B δ1 = .ret d δ2)) →
    (l.findSome? R = none ∧ ∃ δ', forRun kills bnd B (l.map emb) δ = .nx (forg kills δ') ∧ P δ') ∨ ∃ d δ', l.findSome? R = some d ∧ forRun kills bnd B (l.map emb) δ = .ret d δ'
  | [], δ, h, _ => .inl ⟨rfl, δ, rfl, h⟩
  | x :: xs, δ, h, hs => by
    obtain ⟨δ1, h1, h2⟩ := hs x List.mem_cons_self δ h
    rw [List.map_cons, forRun_cons h1]
    rcases h2 with ⟨hr, δ2, hB, hp⟩ | ⟨d, δ2, hr, hB⟩
    · have ih := forRun_first P emb R xs δ2 hp fun y hy => hs y (List.mem_cons_of_mem _ hy)
      rw [List.findSome?_cons, hr]
      rcases hB with hB | hB <;> rw [hB] <;> exact ih
    · right
      rw [hB]
      exact ⟨d, δ2, by rw [List.findSome?_cons, hr], rfl⟩
theorem enumL_map {α : Type} (f : α → D) (l : List α) : enumL (l.map f) = l.zipIdx.map fun p => D.tup [.int (p.2 : Nat), f p.1] := by
  unfold enumL
  rw [List.zipIdx_map, List.map_map]
  rfl
theorem zip_at {α : Type} {l : List α} {p : α × Nat} (h : p ∈ l.zipIdx) : l[p.2]? = some p.1 := List.mem_zipIdx_iff_getElem?.mp h
/-! rows of texts -/
def rowD (r : List (List Nat)) : D := .lst (r.map T)
def rowsD (rs : List (List (List Nat))) : D := .lst (rs.map rowD)
@[simp] theorem asLst_rows (rs : List (List (List Nat))) : asLst (rowsD rs) = .ok (rs.map rowD) := id rfl
@[simp] theorem asLst_row (r : List (List Nat)) : asLst (rowD r) = .ok (r.map T) := id rfl
@[simp] theorem asEnum_rows (rs : List (List (List Nat))) : asEnum (rowsD rs) = .ok (enumL (rs.map rowD)) := id rfl
theorem inB_row (t : List Nat) (r : List (List Nat)) : inB (T t) (rowD r) = some (decide (t ∈ r)) := by
  show anyN (fun y => eqN 30 y (T t)) (r.map T) = _
  induction r with
  | nil => rfl
  | cons a r ih =>
    have e : eqN 30 (T a) (T t) = some (tx a == tx t) := rfl
    simp only [List.map_cons, anyN, ih, e, tx_beq, Option.bind_some]
    congr 1
    rw [Bool.eq_iff_iff]
    simp only [Bool.or_eq_true, beq_iff_eq, decide_eq_true_eq, List.mem_cons]
    exact ⟨fun h => h.imp Eq.symm id, fun h => h.imp Eq.symm id⟩
theorem inD_row (t : List Nat) (r : List (List Nat)) : inD false (T t) (rowD r) = .ok (.bl (decide (t ∈ r))) := by
  show optB (inB (T t) (rowD r)) _ = _
  rw [inB_row]; rfl
theorem lindex_row (t : List Nat) (r : List (List Nat)) (h : t ∈ r) : lindexD (rowD r) (T t) = .ok (.int (r.idxOf t : Nat)) := by
  have e1 : (r.map T).all flat = true := by rw [List.all_map]; exact List.all_eq_true.mpr fun _ _ => rfl
  have e2 : (r.map T).findIdx? (fun z => flatEq z (T t)) = some (r.idxOf t) := by
    rw [List.findIdx?_map]
    have : (fun z => flatEq z (T t)) ∘ T = fun z => z == t := by
      funext z
      show (tx z == tx t) = _
      rw [tx_beq]
    rw [this, List.findIdx?_eq_some_iff_findIdx_eq]
    exact ⟨List.idxOf_lt_length_iff.mpr h, rfl⟩
  show (if _ then (match (r.map T).findIdx? (fun z => flatEq z (T t)) with | some j => _ | none => _) else _) = _
  rw [e2, if_pos (by rw [e1]; rfl)]
theorem row_at {rs : List (List (List Nat))} {p : Nat} {r : List (List Nat)} (h : rs[p]? = some r) : ixD (rowsD rs) (.int (p : Nat)) = .ok (rowD r) :=
  ix_lst_nat _ _ _ (by rw [List.getElem?_map, h]; rfl)
theorem text_at {r : List (List Nat)} {p : Nat} {t : List Nat} (h : r[p]? = some t) : ixD (rowD r) (.int (p : Nat)) = .ok (T t) :=
  ix_lst_nat _ _ _ (by rw [List.getElem?_map, h]; rfl)
@[simp] theorem len_rowD (r : List (List Nat)) : lenD (rowD r) = .ok (.int r.length) := by
  show Res.ok (D.int ((r.map T).length : Nat)) = _
  rw [List.length_map]
@[simp] theorem len_rowsD (r : List (List (List Nat))) : lenD (rowsD r) = .ok (.int r.length) := by
  show Res.ok (D.int ((r.map rowD).length : Nat)) = _
  rw [List.length_map]
end Dx
end
namespace Tx
open PySem L2 PyProof.Rows Dx
def top (i : Nat) : Stmt := PySem.Challenge.pw_citeward_k23_whole_each_pointing_tells_o.main.body.getD i (.Pass ⟨0, 0, 0, 0⟩)
abbrev s_rival : Stmt := top 2
abbrev s_step_of : Stmt := top 3
abbrev s_letter : Stmt := top 4
abbrev s_pointings : Stmt := top 5
abbrev s__law_cell_at : Stmt := top 7
abbrev s__law_numbers : Stmt := top 8
abbrev s__law_rows : Stmt := top 9
abbrev s__law_others_have : Stmt := top 10
abbrev s__law_right : Stmt := top 11
abbrev s_law : Stmt := top 12
@[simp] theorem lit_0 : Str.ofString "^" = tx [94] := by decide +kernel
@[simp] theorem lit_1 : Str.ofString "Lee, Ann" = tx [76, 101, 101, 44, 32, 65, 110, 110] := by decide +kernel
@[simp] theorem lit_2 : Str.ofString "the same" = tx [116, 104, 101, 32, 115, 97, 109, 101] := by decide +kernel
@[simp] theorem lit_3 : Str.ofString "abc" = tx [97, 98, 99] := by decide +kernel
@[simp] theorem lit_4 : Str.ofString "" = tx [] := by decide +kernel
@[simp] theorem lit_5 : Str.ofString "abcdefghijklmnopqrstuvwxyz" = tx [97, 98, 99, 100, 101, 102, 103, 104, 105, 106, 107, 108, 109, 110, 111, 112, 113, 114, 115, 116, 117, 118, 119, 120, 121, 122] := by decide +kernel
section
/-! rival -/
def l_rival_0 : SM := (dIf (dAndT (dTst (dNe (dVar 4) (dVar 1))) (dTst (dIn (dVar 3) (dVar 5)))) (dRet (dTup (dCons (dVar 4) (dCons (dM1 "list" lindexD (dVar 5) (dVar 3)) dNil)))) dSkip)
def b_rival : SM := (dSeq (dSet 3 (dIx (dIx (dSh 0) (dSh 1)) (dSh 2))) (dSeq (dFor [4, 5] (bTup 2 (bCons (bName 4) (bCons (bName 5) bNil))) l_rival_0 (iEnumL (dSh 0))) (dRet (dC .non))))
def f_rival : List D → Res D := runB .sh 6 b_rival
abbrev N_rival : List Str := ["rows", "place", "step", "text", "other", "row"]
theorem sc_rival : FnScope N_rival ["rows", "place", "step"] (defScope s_rival) := ⟨rfl, rfl, rfl, by decide +kernel, rfl, by decide +kernel, by decide +kernel⟩
theorem ok_rival {P : Program} {w : World} {K : PySem.W.Frag} {mg : Str → Option Value} {base : Heap} {f : Addr} {fd : FuncData} (FF : Fun K "rival" "rival" s_rival f fd) (z_enumerate : mg "enumerate" = none) : FnOk P w K mg base (L2.CX P w) 1 f fd ["rows", "place", "step"] (spF mg .sh 3 f_rival) :=
  fnok_mk .sh FF sc_rival fun cdv A outer s H E hr => by
    have hu := hr.units
    have SC := sc_rival
    exact (db_cons (ds_set (i := 3) SC.nd (de_ix (m := .sh) hu (de_ix (m := .sh) hu (de_var 0) (de_var 1)) (de_var 2))) (db_cons (ds_for [4, 5] (passes_of rfl) rfl (di_enum (de_var 0) z_enumerate) (dg_tup rfl (dgs_cons (dg_name 4 SC.nd) (dgs_cons (dg_name 5 SC.nd) dgs_nil))) (db_one (ds_if (dw_dt (dw_and (dt_ne (m := .bo) hu (de_varB 4) (de_varB 1)) (dw_and1 (dt_in (m := .bo) hu (de_varB 3) (de_varB 5))))) (db_one (ds_ret (by intro h; cases h) (de_tup (m := .bo) (da_cons (de_varB 4) (da_cons (de_bo (de_lindex (m := .bo) (de_varB 5) (de_varB 3))) da_nil))))) db_nil))) (db_one (ds_ret (by intro h; cases h) (de_bo de_non)))))
/-! step_of -/
def l_step_of_0 : SM := (dIf (dTst (dOp2 isND (dCall f_rival (dCons (dVar 0) (dCons (dVar 1) (dCons (dVar 2) dNil)))) (dC .non))) (dRet (dVar 2)) dSkip)
def b_step_of : SM := (dSeq (dFor [2] (bName 2) l_step_of_0 (iRange (dOp1 lenD (dIx (dVar 0) (dVar 1))))) (dRet (dC .non)))
def f_step_of : List D → Res D := runB .sh 3 b_step_of
abbrev N_step_of : List Str := ["rows", "place", "step"]
theorem sc_step_of : FnScope N_step_of ["rows", "place"] (defScope s_step_of) := ⟨rfl, rfl, rfl, by decide +kernel, rfl, by decide +kernel, by decide +kernel⟩
theorem ok_step_of {P : Program} {w : World} {K : PySem.W.Frag} {mg : Str → Option Value} {base : Heap} {f : Addr} {fd : FuncData} (FF : Fun K "step_of" "step_of" s_step_of f fd) (z_len : mg "len" = none) (z_range : mg "range" = none) (c_rival : Cal P w K mg base 1 "rival" ["rows", "place", "step"] (spF mg .sh 3 f_rival)) : FnOk P w K mg base (L2.CX P w) 2 f fd ["rows", "place"] (spF mg .sh 2 f_step_of) :=
  fnok_mk .sh FF sc_step_of fun cdv A outer s H E hr => by
    have hu := hr.units
    have SC := sc_step_of
    exact (db_cons (ds_for [2] (passes_of rfl) rfl (di_range (m := .bo) (de_bo (de_len (m := .bo) z_len (de_ix (m := .bo) hu (de_varB 0) (de_varB 1)))) z_range) (dg_name 2 SC.nd) (db_one (ds_if (dt_isN (m := .bo) (de_call (m := .bo) (κ := .sh) c_rival hr (takes_of rfl rfl rfl rfl) (da_cons (de_varB 0) (da_cons (de_varB 1) (da_cons (de_varB 2) da_nil))) rfl (hl_3))) (db_one (ds_ret (by intro h; cases h) (de_varB 2))) db_nil))) (db_one (ds_ret (by intro h; cases h) (de_bo de_non))))
/-! letter -/
def w_letter : Nat := 300
def l_letter_0 : SM := (dSeq (dSet 0 (dOp2 subD (dOp2 fdivD (dVar 0) (dC (.int 26))) (dC (.int 1)))) (dSet 1 (dAdd (dIx (dC (.str "abcdefghijklmnopqrstuvwxyz")) (dOp2 modD (dVar 0) (dC (.int 26)))) (dSh 1))))
def b_letter : SM := (dSeq (dSet 1 (dIx (dC (.str "abcdefghijklmnopqrstuvwxyz")) (dOp2 modD (dVar 0) (dC (.int 26))))) (dSeq (whileRun [] (dTst (dOp2 geD (dVar 0) (dC (.int 26)))) l_letter_0 w_letter) (dRet (dVar 1))))
def f_letter : List D → Res D := runB .sh 2 b_letter
abbrev N_letter : List Str := ["n", "text"]
theorem sc_letter : FnScope N_letter ["n"] (defScope s_letter) := ⟨rfl, rfl, rfl, by decide +kernel, rfl, by decide +kernel, by decide +kernel⟩
theorem ok_letter {P : Program} {w : World} {K : PySem.W.Frag} {mg : Str → Option Value} {base : Heap} {f : Addr} {fd : FuncData} (FF : Fun K "letter" "letter" s_letter f fd) (g_SMALL : ∃ t, mg "SMALL" = some (.str "abcdefghijklmnopqrstuvwxyz" t)) : FnOk P w K mg base (L2.CX P w) 1 f fd ["n"] (spF mg .sh 1 f_letter) :=
  fnok_mk .sh FF sc_letter fun cdv A outer s H E hr => by
    have hu := hr.units
    have SC := sc_letter
    exact (db_cons (ds_set (i := 1) SC.nd (de_ix (m := .sh) hu (de_gstr g_SMALL) (de_mod (m := .bo) (de_varB 0) (de_bo de_int)))) (db_cons (ds_while w_letter [] (passes_of rfl) (dt_ge (m := .bo) (de_varB 0) (de_bo de_int)) (db_cons (ds_set (i := 0) SC.nd (de_sub (m := .bo) (de_bo (de_fdiv (m := .bo) (de_varB 0) (de_bo de_int))) (de_bo de_int))) (db_one (ds_set (i := 1) SC.nd (de_add (m := .sh) (de_ix (m := .sh) hu (de_gstr g_SMALL) (de_mod (m := .bo) (de_varB 0) (de_bo de_int))) (de_var 1)))))) (db_one (ds_ret (by intro h; cases h) (de_varB 1)))))
/-! pointings -/
def l_pointings_0 : SM := (dSeq (dSet 5 (dCall f_step_of (dCons (dSh 0) (dCons (dSh 3) dNil)))) (dIf (dTst (dOp2 isND (dVar 5) (dC .non))) (dSeq (dSet 6 (dImm (dGet2 (dVar 2) (dIx (dVar 4) (dNeg (dC (.int 1)))) (dC (.int 0))))) (dSeq (dDput 2 (dIx (dVar 4) (dNeg (dC (.int 1)))) (dAdd (dSh 6) (dC (.int 1)))) (dApp 1 (dAdd (dAdd (dIx (dSh 4) (dNeg (dC (.int 1)))) (dC (.str "^"))) (dCall f_letter (dCons (dSh 6) dNil)))))) (dApp 1 (dIx (dSh 4) (dSh 5)))))
def b_pointings : SM := (dSeq (dSetR 1 (dLst dNil)) (dSeq (dSetR 2 (dC (.dic []))) (dSeq (dFor [3, 4, 5, 6] (bTup 2 (bCons (bName 3) (bCons (bName 4) bNil))) l_pointings_0 (iEnumL (dSh 0))) (dRetV 1))))
def f_pointings : List D → Res D := runB .fr 7 b_pointings
abbrev N_pointings : List Str := ["rows", "found", "many", "place", "row", "step", "number"]
theorem sc_pointings : FnScope N_pointings ["rows"] (defScope s_pointings) := ⟨rfl, rfl, rfl, by decide +kernel, rfl, by decide +kernel, by decide +kernel⟩
theorem ok_pointings {P : Program} {w : World} {K : PySem.W.Frag} {mg : Str → Option Value} {base : Heap} {f : Addr} {fd : FuncData} (FF : Fun K "pointings" "pointings" s_pointings f fd) (z_enumerate : mg "enumerate" = none) (c_letter : Cal P w K mg base 2 "letter" ["n"] (spF mg .sh 1 f_letter)) (c_step_of : Cal P w K mg base 2 "step_of" ["rows", "place"] (spF mg .sh 2 f_step_of)) : FnOk P w K mg base (L2.CX P w) 3 f fd ["rows"] (spF mg .fr 1 f_pointings) :=
  fnok_mk .fr FF sc_pointings fun cdv A outer s H E hr => by
    have hu := hr.units
    have SC := sc_pointings
    exact (db_cons (ds_setR (i := 1) SC.nd (de_lst (m := .sh) da_nil)) (db_cons (ds_setR (i := 2) SC.nd de_dic0) (db_cons (ds_for [3, 4, 5, 6] (passes_of rfl) rfl (di_enum (de_var 0) z_enumerate) (dg_tup rfl (dgs_cons (dg_name 3 SC.nd) (dgs_cons (dg_name 4 SC.nd) dgs_nil))) (db_cons (ds_set (i := 5) SC.nd (de_call (m := .sh) (κ := .sh) c_step_of hr (takes_of rfl rfl rfl rfl) (da_cons (de_var 0) (da_cons (de_var 3) da_nil)) rfl (hl_2))) (db_one (ds_if (dt_isN (m := .bo) (de_varB 5)) (db_cons (ds_set (i := 6) SC.nd (de_imm (de_get2 (m := .bo) hu (de_varB 2) (de_ix (m := .bo) hu (de_varB 4) (de_bo (de_neg (m := .bo) (de_bo de_int)))) (de_bo de_int)))) (db_cons (ds_dput 2 hu (de_ix (m := .bo) hu (de_varB 4) (de_bo (de_neg (m := .bo) (de_bo de_int)))) (de_add (m := .sh) (de_var 6) de_int)) (db_one (ds_append 1 (de_add (m := .sh) (de_add (m := .sh) (de_ix (m := .sh) hu (de_var 4) (de_neg (m := .bo) (de_bo de_int))) de_str) (de_call (m := .sh) (κ := .sh) c_letter hr (takes_of rfl rfl rfl rfl) (da_cons (de_var 6) da_nil) rfl (hl_1))))))) (db_one (ds_append 1 (de_ix (m := .sh) hu (de_var 4) (de_var 5)))))))) (db_one (ds_retV 1)))))
/-! _law_cell_at -/
def b__law_cell_at : SM := (dSeq (dIf (dTst (dOp2 ltD (dVar 1) (dOp1 lenD (dVar 0)))) (dRet (dIx (dVar 0) (dVar 1))) dSkip) (dRet (dC (.int 0))))
def f__law_cell_at : List D → Res D := runB .sh 2 b__law_cell_at
abbrev N__law_cell_at : List Str := ["_law_script", "_law_k"]
theorem sc__law_cell_at : FnScope N__law_cell_at ["_law_script", "_law_k"] (defScope s__law_cell_at) := ⟨rfl, rfl, rfl, by decide +kernel, rfl, by decide +kernel, by decide +kernel⟩
theorem ok__law_cell_at {P : Program} {w : World} {K : PySem.W.Frag} {mg : Str → Option Value} {base : Heap} {f : Addr} {fd : FuncData} (FF : Fun K "_law_cell_at" "_law_cell_at" s__law_cell_at f fd) (z_len : mg "len" = none) : FnOk P w K mg base (L2.CX P w) 1 f fd ["_law_script", "_law_k"] (spF mg .sh 2 f__law_cell_at) :=
  fnok_mk .sh FF sc__law_cell_at fun cdv A outer s H E hr => by
    have hu := hr.units
    have SC := sc__law_cell_at
    exact (db_cons (ds_if (dt_lt (m := .bo) (de_varB 1) (de_bo (de_len (m := .bo) z_len (de_varB 0)))) (db_one (ds_ret (by intro h; cases h) (de_ix (m := .bo) hu (de_varB 0) (de_varB 1)))) db_nil) (db_one (ds_ret (by intro h; cases h) (de_bo de_int))))
/-! _law_numbers -/
def l__law_numbers_0 : SM := (dSeq (dApp 2 (dOp2 modD (dVar 3) (dC (.int 5040)))) (dSet 3 (dOp2 fdivD (dVar 3) (dC (.int 5040)))))
def l__law_numbers_1 : SM := (dSeq (dSet 3 (dOp2 modD (dOp2 mulD (dAdd (dAdd (dVar 3) (dVar 4)) (dC (.int 1))) (dC (.int 48271))) (dC (.int 2147483647)))) (dApp 2 (dOp2 modD (dOp2 mulD (dVar 3) (dC (.int 69621))) (dC (.int 2147483629)))))
def b__law_numbers : SM := (dSeq (dSetR 2 (dLst dNil)) (dSeq (dSet 3 (dOp2 fdivD (dVar 0) (dC (.int 2)))) (dSeq (dIf (dTst (dEq (dOp2 modD (dVar 0) (dC (.int 2))) (dC (.int 1)))) (dSeq (dFor [4] (bName 4) l__law_numbers_0 (iRange (dVar 1))) (dRet (dVar 2))) dSkip) (dSeq (dSet 3 (dOp2 modD (dVar 3) (dC (.int 2147483647)))) (dSeq (dFor [4] (bName 4) l__law_numbers_1 (iRange (dVar 1))) (dRet (dVar 2)))))))
def f__law_numbers : List D → Res D := runB .sh 5 b__law_numbers
abbrev N__law_numbers : List Str := ["_law_cell", "_law_many", "_law_found", "_law_number", "_law_k"]
theorem sc__law_numbers : FnScope N__law_numbers ["_law_cell", "_law_many"] (defScope s__law_numbers) := ⟨rfl, rfl, rfl, by decide +kernel, rfl, by decide +kernel, by decide +kernel⟩
theorem ok__law_numbers {P : Program} {w : World} {K : PySem.W.Frag} {mg : Str → Option Value} {base : Heap} {f : Addr} {fd : FuncData} (FF : Fun K "_law_numbers" "_law_numbers" s__law_numbers f fd) (z_range : mg "range" = none) : FnOk P w K mg base (L2.CX P w) 1 f fd ["_law_cell", "_law_many"] (spF mg .sh 2 f__law_numbers) :=
  fnok_mk .sh FF sc__law_numbers fun cdv A outer s H E hr => by
    have hu := hr.units
    have SC := sc__law_numbers
    exact (db_cons (ds_setR (i := 2) SC.nd (de_lst (m := .sh) da_nil)) (db_cons (ds_set (i := 3) SC.nd (de_fdiv (m := .bo) (de_varB 0) (de_bo de_int))) (db_cons (ds_if (dt_eq (m := .bo) hu (de_bo (de_mod (m := .bo) (de_varB 0) (de_bo de_int))) (de_bo de_int)) (db_cons (ds_for [4] (passes_of rfl) rfl (di_range (m := .bo) (de_varB 1) z_range) (dg_name 4 SC.nd) (db_cons (ds_append 2 (de_mod (m := .bo) (de_varB 3) (de_bo de_int))) (db_one (ds_set (i := 3) SC.nd (de_fdiv (m := .bo) (de_varB 3) (de_bo de_int)))))) (db_one (ds_ret (by intro h; cases h) (de_varB 2)))) db_nil) (db_cons (ds_set (i := 3) SC.nd (de_mod (m := .bo) (de_varB 3) (de_bo de_int))) (db_cons (ds_for [4] (passes_of rfl) rfl (di_range (m := .bo) (de_varB 1) z_range) (dg_name 4 SC.nd) (db_cons (ds_set (i := 3) SC.nd (de_mod (m := .bo) (de_bo (de_mul (m := .bo) (de_add (m := .bo) (de_add (m := .bo) (de_varB 3) (de_varB 4)) (de_bo de_int)) (de_bo de_int))) (de_bo de_int))) (db_one (ds_append 2 (de_mod (m := .bo) (de_bo (de_mul (m := .bo) (de_varB 3) (de_bo de_int))) (de_bo de_int)))))) (db_one (ds_ret (by intro h; cases h) (de_varB 2))))))))
/-! _law_rows -/
def l__law_rows_0 : SM := (dIf (dTst (dEq (dOp2 modD (dVar 0) (dC (.int 3))) (dC (.int 0)))) (dSeq (dSet 8 (dAdd (dSh 8) (dIx (dC (.str "abc")) (dOp2 modD (dVar 9) (dC (.int 3)))))) (dApp 7 (dSh 8))) (dApp 7 (dSlice sliceS (dAdd (dVar 5) (dOp1 strD (dOp2 modD (dVar 9) (dVar 4)))) dNoP (dP (dOp2 mulD (dC (.int 1000)) (dOp2 modD (dVar 9) (dVar 4)))))))
def l__law_rows_1 : SM := (dSeq (dSetR 7 (dLst dNil)) (dSeq (dSet 8 (dSh 5)) (dSeq (dFor [9] (bName 9) l__law_rows_0 (iLst (dCall f__law_numbers (dCons (dSh 6) (dCons (dSh 1) dNil))))) (dSeq (dIf (dAndT (dTst (dEq (dOp2 modD (dVar 0) (dC (.int 3))) (dC (.int 2)))) (dTst (dOp2 gtD (dOp2 modD (dVar 6) (dC (.int 4))) (dC (.int 0))))) (dLput 7 (dNeg (dC (.int 1))) (dC (.str "the same"))) dSkip) (dFrz 7 (dApp 3 (dSh 7)))))))
def b__law_rows : SM := (dSeq (dSetR 3 (dLst dNil)) (dSeq (dSet 4 (dAdd (dC (.int 2)) (dOp2 modD (dOp2 fdivD (dVar 0) (dC (.int 3))) (dC (.int 39))))) (dSeq (dSet 5 (dSlice sliceS (dC (.str "Lee, Ann")) dNoP (dP (dOp2 modD (dOp2 fdivD (dVar 0) (dC (.int 120))) (dC (.int 9)))))) (dSeq (dFor [6, 7, 8, 9] (bName 6) l__law_rows_1 (iLst (dSh 2))) (dRet (dVar 3))))))
def f__law_rows : List D → Res D := runB .sh 10 b__law_rows
abbrev N__law_rows : List Str := ["_law_sort", "_law_steps", "_law_cells", "_law_rows_here", "_law_many", "_law_base", "_law_cell", "_law_row", "_law_text", "_law_number"]
theorem sc__law_rows : FnScope N__law_rows ["_law_sort", "_law_steps", "_law_cells"] (defScope s__law_rows) := ⟨rfl, rfl, rfl, by decide +kernel, rfl, by decide +kernel, by decide +kernel⟩
theorem ok__law_rows {P : Program} {w : World} {K : PySem.W.Frag} {mg : Str → Option Value} {base : Heap} {f : Addr} {fd : FuncData} (FF : Fun K "_law_rows" "_law_rows" s__law_rows f fd) (z_str : mg "str" = none) (c__law_numbers : Cal P w K mg base 1 "_law_numbers" ["_law_cell", "_law_many"] (spF mg .sh 2 f__law_numbers)) : FnOk P w K mg base (L2.CX P w) 2 f fd ["_law_sort", "_law_steps", "_law_cells"] (spF mg .sh 3 f__law_rows) :=
  fnok_mk .sh FF sc__law_rows fun cdv A outer s H E hr => by
    have hu := hr.units
    have SC := sc__law_rows
    exact (db_cons (ds_setR (i := 3) SC.nd (de_lst (m := .sh) da_nil)) (db_cons (ds_set (i := 4) SC.nd (de_add (m := .sh) de_int (de_mod (m := .bo) (de_bo (de_fdiv (m := .bo) (de_varB 0) (de_bo de_int))) (de_bo de_int)))) (db_cons (ds_set (i := 5) SC.nd (de_sliceS (m := .bo) (de_bo de_str) dp_none (dp_some (m := .bo) (de_bo (de_mod (m := .bo) (de_bo (de_fdiv (m := .bo) (de_varB 0) (de_bo de_int))) (de_bo de_int)))))) (db_cons (ds_for [6, 7, 8, 9] (passes_of rfl) rfl (di_list (de_var 2)) (dg_name 6 SC.nd) (db_cons (ds_setR (i := 7) SC.nd (de_lst (m := .sh) da_nil)) (db_cons (ds_set (i := 8) SC.nd (de_var 5)) (db_cons (ds_for [9] (passes_of rfl) rfl (di_list (de_call (m := .sh) (κ := .sh) c__law_numbers hr (takes_of rfl rfl rfl rfl) (da_cons (de_var 6) (da_cons (de_var 1) da_nil)) rfl (hl_2))) (dg_name 9 SC.nd) (db_one (ds_if (dt_eq (m := .bo) hu (de_bo (de_mod (m := .bo) (de_varB 0) (de_bo de_int))) (de_bo de_int)) (db_cons (ds_set (i := 8) SC.nd (de_add (m := .sh) (de_var 8) (de_ix (m := .sh) hu de_str (de_mod (m := .bo) (de_varB 9) (de_bo de_int))))) (db_one (ds_append 7 (de_var 8)))) (db_one (ds_append 7 (de_sliceS (m := .bo) (de_add (m := .bo) (de_varB 5) (de_bo (de_strI (m := .bo) z_str (de_bo (de_mod (m := .bo) (de_varB 9) (de_varB 4)))))) dp_none (dp_some (m := .bo) (de_bo (de_mul (m := .bo) (de_bo de_int) (de_bo (de_mod (m := .bo) (de_varB 9) (de_varB 4)))))))))))) (db_cons (ds_if (dw_dt (dw_and (dt_eq (m := .bo) hu (de_bo (de_mod (m := .bo) (de_varB 0) (de_bo de_int))) (de_bo de_int)) (dw_and1 (dt_gt (m := .bo) (de_bo (de_mod (m := .bo) (de_varB 6) (de_bo de_int))) (de_bo de_int))))) (db_one (ds_lput 7 (de_bo (de_neg (m := .bo) (de_bo de_int))) de_str)) db_nil) (db_one (ds_frz 7 (ds_append 3 (de_var 7))))))))) (db_one (ds_ret (by intro h; cases h) (de_varB 3)))))))
/-! _law_others_have -/
def l__law_others_have_0 : SM := (dIf (dAndT (dTst (dNe (dVar 3) (dVar 1))) (dTst (dIn (dVar 2) (dIx (dVar 0) (dVar 3))))) (dRet (dC (.bl true))) dSkip)
def b__law_others_have : SM := (dSeq (dFor [3] (bName 3) l__law_others_have_0 (iRange (dOp1 lenD (dVar 0)))) (dRet (dC (.bl false))))
def f__law_others_have : List D → Res D := runB .sh 4 b__law_others_have
abbrev N__law_others_have : List Str := ["_law_rows_here", "_law_place", "_law_text", "_law_other"]
theorem sc__law_others_have : FnScope N__law_others_have ["_law_rows_here", "_law_place", "_law_text"] (defScope s__law_others_have) := ⟨rfl, rfl, rfl, by decide +kernel, rfl, by decide +kernel, by decide +kernel⟩
theorem ok__law_others_have {P : Program} {w : World} {K : PySem.W.Frag} {mg : Str → Option Value} {base : Heap} {f : Addr} {fd : FuncData} (FF : Fun K "_law_others_have" "_law_others_have" s__law_others_have f fd) (z_len : mg "len" = none) (z_range : mg "range" = none) : FnOk P w K mg base (L2.CX P w) 1 f fd ["_law_rows_here", "_law_place", "_law_text"] (spF mg .sh 3 f__law_others_have) :=
  fnok_mk .sh FF sc__law_others_have fun cdv A outer s H E hr => by
    have hu := hr.units
    have SC := sc__law_others_have
    exact (db_cons (ds_for [3] (passes_of rfl) rfl (di_range (m := .bo) (de_bo (de_len (m := .bo) z_len (de_varB 0))) z_range) (dg_name 3 SC.nd) (db_one (ds_if (dw_dt (dw_and (dt_ne (m := .bo) hu (de_varB 3) (de_varB 1)) (dw_and1 (dt_in (m := .bo) hu (de_varB 2) (de_ix (m := .bo) hu (de_varB 0) (de_varB 3)))))) (db_one (ds_ret (by intro h; cases h) (de_bo de_bl))) db_nil))) (db_one (ds_ret (by intro h; cases h) (de_bo de_bl))))
/-! _law_right -/
def c__law_right_0 : ER := (dComp [9] (iLst (dSlice sliceL (dSh 1) dNoP (dP (dVar 2)))) (bName 9) (dTst (dEq (dSlice sliceT (dPart (dVar 9) (dC (.str "^"))) dNoP (dP (dC (.int 2)))) (dTup (dCons (dIx (dVar 3) (dNeg (dC (.int 1)))) (dCons (dC (.str "^")) dNil))))) (dSh 9))
def l__law_right_1 : SM := (dIf (dNotT (dTst (dCall f__law_others_have (dCons (dVar 0) (dCons (dVar 2) (dCons (dVar 9) dNil)))))) (dRet (dC (.bl false))) dSkip)
def b__law_right : SM := (dSeq (dSet 3 (dIx (dSh 0) (dSh 2))) (dSeq (dAsg (dPart (dIx (dSh 1) (dSh 2)) (dC (.str "^"))) (bTup 3 (bCons (bName 4) (bCons (bName 5) (bCons (bName 6) bNil))))) (dSeq (dIf (dTst (dEq (dVar 5) (dC (.str "")))) (dSeq (dIf (dOrT (dTst (dNin (dVar 4) (dVar 3))) (dTst (dCall f__law_others_have (dCons (dVar 0) (dCons (dVar 2) (dCons (dVar 4) dNil)))))) (dRet (dC (.bl false))) dSkip) (dSet 7 (dSlice sliceL (dSh 3) dNoP (dP (dM1 "list" lindexD (dVar 3) (dVar 4)))))) (dSeq (dSet 8 c__law_right_0) (dSeq (dIf (dOrT (dTst (dNe (dVar 4) (dIx (dVar 3) (dNeg (dC (.int 1)))))) (dTst (dNe (dVar 6) (dCall f_letter (dCons (dOp1 lenD (dVar 8)) dNil))))) (dRet (dC (.bl false))) dSkip) (dSet 7 (dSh 3))))) (dSeq (dFor [9] (bName 9) l__law_right_1 (iLst (dSh 7))) (dRet (dC (.bl true)))))))
def f__law_right : List D → Res D := runB .sh 10 b__law_right
abbrev N__law_right : List Str := ["_law_rows_here", "_law_told", "_law_place", "_law_row", "_law_text", "_law_mark", "_law_sign", "_law_lower", "_law_ahead", "_law_one"]
theorem sc__law_right : FnScope N__law_right ["_law_rows_here", "_law_told", "_law_place"] (defScope s__law_right) := ⟨rfl, rfl, rfl, by decide +kernel, rfl, by decide +kernel, by decide +kernel⟩
theorem ok__law_right {P : Program} {w : World} {K : PySem.W.Frag} {mg : Str → Option Value} {base : Heap} {f : Addr} {fd : FuncData} (FF : Fun K "_law_right" "_law_right" s__law_right f fd) (z_len : mg "len" = none) (c__law_others_have : Cal P w K mg base 1 "_law_others_have" ["_law_rows_here", "_law_place", "_law_text"] (spF mg .sh 3 f__law_others_have)) (c_letter : Cal P w K mg base 1 "letter" ["n"] (spF mg .sh 1 f_letter)) : FnOk P w K mg base (L2.CX P w) 2 f fd ["_law_rows_here", "_law_told", "_law_place"] (spF mg .sh 3 f__law_right) :=
  fnok_mk .sh FF sc__law_right fun cdv A outer s H E hr => by
    have hu := hr.units
    have SC := sc__law_right
    exact (db_cons (ds_set (i := 3) SC.nd (de_ix (m := .sh) hu (de_var 0) (de_var 2))) (db_cons (ds_asg (de_part (m := .sh) (de_ix (m := .sh) hu (de_var 1) (de_var 2)) de_str) (dg_tup rfl (dgs_cons (dg_name 4 SC.nd) (dgs_cons (dg_name 5 SC.nd) (dgs_cons (dg_name 6 SC.nd) dgs_nil))))) (db_cons (ds_if (dt_eq (m := .bo) hu (de_varB 5) (de_bo de_str)) (db_cons (ds_if (dw_dt (dw_or (dt_nin (m := .bo) hu (de_varB 4) (de_varB 3)) (dw_or1 (dt_val (m := .bo) (de_call (m := .bo) (κ := .sh) c__law_others_have hr (takes_of rfl rfl rfl rfl) (da_cons (de_varB 0) (da_cons (de_varB 2) (da_cons (de_varB 4) da_nil))) rfl (hl_3)))))) (db_one (ds_ret (by intro h; cases h) (de_bo de_bl))) db_nil) (db_one (ds_set (i := 7) SC.nd (de_sh (de_sliceL (m := .sh) (de_var 3) dp_none (dp_some (m := .bo) (de_bo (de_lindex (m := .bo) (de_varB 3) (de_varB 4))))))))) (db_cons (ds_setC (i := 8) (own := [("_law_one", 9)]) [9] rfl rfl SC.nd (di_c (di_list (de_sh (de_sliceL (m := .sh) (de_var 1) dp_none (dp_some (m := .bo) (de_varB 2)))))) (blkOk_by (own := [("_law_one", 9)]) (N := N__law_right) (sc := defScope s__law_right) (by decide +kernel)) (fun _ _ _ _ _ => (dgv_name 9 SC.nd (by decide))) (fun _ _ _ _ _ => (dts_one (dt_eq (m := .bo) hu (de_sliceT (m := .bo) (de_part (m := .bo) (de_varB 9) (de_bo de_str)) dp_none (dp_some (m := .bo) (de_bo de_int))) (de_tup (m := .bo) (da_cons (de_ix (m := .bo) hu (de_varB 3) (de_bo (de_neg (m := .bo) (de_bo de_int)))) (da_cons (de_bo de_str) da_nil)))))) (fun _ _ _ _ _ => (de_var 9))) (db_cons (ds_if (dw_dt (dw_or (dt_ne (m := .bo) hu (de_varB 4) (de_ix (m := .bo) hu (de_varB 3) (de_bo (de_neg (m := .bo) (de_bo de_int))))) (dw_or1 (dt_ne (m := .bo) hu (de_varB 6) (de_call (m := .bo) (κ := .sh) c_letter hr (takes_of rfl rfl rfl rfl) (da_cons (de_bo (de_len (m := .bo) z_len (de_varB 8))) da_nil) rfl (hl_1)))))) (db_one (ds_ret (by intro h; cases h) (de_bo de_bl))) db_nil) (db_one (ds_set (i := 7) SC.nd (de_var 3)))))) (db_cons (ds_for [9] (passes_of rfl) rfl (di_list (de_var 7)) (dg_name 9 SC.nd) (db_one (ds_if (dt_not (dt_val (m := .bo) (de_call (m := .bo) (κ := .sh) c__law_others_have hr (takes_of rfl rfl rfl rfl) (da_cons (de_varB 0) (da_cons (de_varB 2) (da_cons (de_varB 9) da_nil))) rfl (hl_3)))) (db_one (ds_ret (by intro h; cases h) (de_bo de_bl))) db_nil))) (db_one (ds_ret (by intro h; cases h) (de_bo de_bl)))))))
/-! law -/
def c_law_0 : ER := (dComp [7] (iLst (dSh 2)) (bName 7) tYesT (dOp1 listD (dSh 7)))
def l_law_1 : SM := (dIf (dOrT (dNotT (dTst (dIsi "str" (dIx (dVar 4) (dVar 5))))) (dTst (dIn (dIx (dVar 4) (dVar 5)) (dSlice sliceL (dVar 4) dNoP (dP (dVar 5)))))) (dRet (dC (.bl false))) dSkip)
def l_law_2 : SM := (dIf (dNotT (dTst (dCall f__law_right (dCons (dVar 2) (dCons (dVar 4) (dCons (dVar 5) dNil)))))) (dRet (dC (.bl false))) dSkip)
def b_law : SM := (dSeq (dSet 1 (dAdd (dC (.int 1)) (dOp2 modD (dCall f__law_cell_at (dCons (dVar 0) (dCons (dC (.int 1)) dNil))) (dC (.int 6))))) (dSeq (dSet 2 (dCall f__law_rows (dCons (dCall f__law_cell_at (dCons (dSh 0) (dCons (dC (.int 0)) dNil))) (dCons (dSh 1) (dCons (dSlice sliceL (dSh 0) (dP (dC (.int 2))) (dP (dC (.int 42)))) dNil))))) (dSeq (dSet 3 c_law_0) (dSeq (dSetR 4 (dCall f_pointings (dCons (dSh 3) dNil))) (dSeq (dIf (dOrT (dNotT (dTst (dIsi "list" (dVar 4)))) (dOrT (dTst (dNe (dOp1 lenD (dVar 4)) (dOp1 lenD (dVar 2)))) (dTst (dNe (dVar 3) (dVar 2))))) (dRet (dC (.bl false))) dSkip) (dSeq (dFor [5] (bName 5) l_law_1 (iRange (dOp1 lenD (dVar 2)))) (dSeq (dFor [5] (bName 5) l_law_2 (iRange (dOp1 lenD (dVar 2)))) (dSeq (dSet 6 (dCopyO 4)) (dSeq (dApp 4 (dC (.str ""))) (dRet (dEq (dCall f_pointings (dCons (dVar 2) dNil)) (dVar 6))))))))))))
def f_law : List D → Res D := runB .sh 8 b_law
abbrev N_law : List Str := ["_law_script", "_law_steps", "_law_rows_here", "_law_handed", "_law_told", "_law_place", "_law_kept", "_law_row"]
theorem sc_law : FnScope N_law ["_law_script"] (defScope s_law) := ⟨rfl, rfl, rfl, by decide +kernel, rfl, by decide +kernel, by decide +kernel⟩
theorem ok_law {P : Program} {w : World} {K : PySem.W.Frag} {mg : Str → Option Value} {base : Heap} {f : Addr} {fd : FuncData} (FF : Fun K "law" "law" s_law f fd) (z_isinstance : mg "isinstance" = none) (z_len : mg "len" = none) (z_list : mg "list" = none) (z_range : mg "range" = none) (z_str : mg "str" = none) (c__law_cell_at : Cal P w K mg base 3 "_law_cell_at" ["_law_script", "_law_k"] (spF mg .sh 2 f__law_cell_at)) (c__law_right : Cal P w K mg base 3 "_law_right" ["_law_rows_here", "_law_told", "_law_place"] (spF mg .sh 3 f__law_right)) (c__law_rows : Cal P w K mg base 3 "_law_rows" ["_law_sort", "_law_steps", "_law_cells"] (spF mg .sh 3 f__law_rows)) (c_pointings : Cal P w K mg base 3 "pointings" ["rows"] (spF mg .fr 1 f_pointings)) : FnOk P w K mg base (L2.CX P w) 4 f fd ["_law_script"] (spF mg .sh 1 f_law) :=
  fnok_mk .sh FF sc_law fun cdv A outer s H E hr => by
    have hu := hr.units
    have SC := sc_law
    exact (db_cons (ds_set (i := 1) SC.nd (de_add (m := .sh) de_int (de_mod (m := .bo) (de_call (m := .bo) (κ := .sh) c__law_cell_at hr (takes_of rfl rfl rfl rfl) (da_cons (de_varB 0) (da_cons (de_bo de_int) da_nil)) rfl (hl_2)) (de_bo de_int)))) (db_cons (ds_set (i := 2) SC.nd (de_call (m := .sh) (κ := .sh) c__law_rows hr (takes_of rfl rfl rfl rfl) (da_cons (de_call (m := .sh) (κ := .sh) c__law_cell_at hr (takes_of rfl rfl rfl rfl) (da_cons (de_var 0) (da_cons de_int da_nil)) rfl (hl_2)) (da_cons (de_var 1) (da_cons (de_sh (de_sliceL (m := .sh) (de_var 0) (dp_some (m := .bo) (de_bo de_int)) (dp_some (m := .bo) (de_bo de_int)))) da_nil))) rfl (hl_3))) (db_cons (ds_setC (i := 3) (own := [("_law_row", 7)]) [7] rfl rfl SC.nd (di_c (di_list (de_var 2))) (blkOk_by (own := [("_law_row", 7)]) (N := N_law) (sc := defScope s_law) (by decide +kernel)) (fun _ _ _ _ _ => (dgv_name 7 SC.nd (by decide))) (fun _ _ _ _ _ => dts_nil) (fun _ _ _ _ _ => (de_sh (de_list (m := .sh) z_list (de_var 7))))) (db_cons (ds_setR (i := 4) SC.nd (de_call (m := .sh) (κ := .fr) c_pointings hr (takes_of rfl rfl rfl rfl) (da_cons (de_var 3) da_nil) rfl (hl_1))) (db_cons (ds_if (dw_dt (dw_or (dt_not (dt_val (m := .bo) (de_bo (de_isi (m := .bo) kit_list z_isinstance z_list (by decide +kernel) (de_varB 4))))) (dw_or (dt_ne (m := .bo) hu (de_bo (de_len (m := .bo) z_len (de_varB 4))) (de_bo (de_len (m := .bo) z_len (de_varB 2)))) (dw_or1 (dt_ne (m := .bo) hu (de_varB 3) (de_varB 2)))))) (db_one (ds_ret (by intro h; cases h) (de_bo de_bl))) db_nil) (db_cons (ds_for [5] (passes_of rfl) rfl (di_range (m := .bo) (de_bo (de_len (m := .bo) z_len (de_varB 2))) z_range) (dg_name 5 SC.nd) (db_one (ds_if (dw_dt (dw_or (dt_not (dt_val (m := .bo) (de_bo (de_isi (m := .bo) kit_str z_isinstance z_str (by decide +kernel) (de_ix (m := .bo) hu (de_varB 4) (de_varB 5)))))) (dw_or1 (dt_in (m := .bo) hu (de_ix (m := .bo) hu (de_varB 4) (de_varB 5)) (de_sliceL (m := .bo) (de_varB 4) dp_none (dp_some (m := .bo) (de_varB 5))))))) (db_one (ds_ret (by intro h; cases h) (de_bo de_bl))) db_nil))) (db_cons (ds_for [5] (passes_of rfl) rfl (di_range (m := .bo) (de_bo (de_len (m := .bo) z_len (de_varB 2))) z_range) (dg_name 5 SC.nd) (db_one (ds_if (dt_not (dt_val (m := .bo) (de_call (m := .bo) (κ := .sh) c__law_right hr (takes_of rfl rfl rfl rfl) (da_cons (de_varB 2) (da_cons (de_varB 4) (da_cons (de_varB 5) da_nil))) rfl (hl_3)))) (db_one (ds_ret (by intro h; cases h) (de_bo de_bl))) db_nil))) (db_cons (ds_set (i := 6) SC.nd (de_sh (de_listO 4 z_list))) (db_cons (ds_append 4 de_str) (db_one (ds_ret (by intro h; cases h) (de_bo (de_eq (m := .bo) hu (de_call (m := .bo) (κ := .fr) c_pointings hr (takes_of rfl rfl rfl rfl) (da_cons (de_varB 2) da_nil) rfl (hl_1)) (de_varB 6))))))))))))))
end
theorem all_mk {l : PySem.W.OpenLaw} {w : World} {K : PySem.W.Frag} {h : Heap} {mg : Str → Option Value} (X : K.In h) (G : h.Ns mainGlobals mg)
    {od0 an0 : Option Addr} {sl0 : Array (Option Value)} {oc0 kV0 dc0 pm0 cd0 ct0 : Value} {f0 : Addr}
    {od1 an1 : Option Addr} {sl1 : Array (Option Value)} {oc1 kV1 dc1 pm1 cd1 ct1 : Value} {f1 : Addr}
    {od2 an2 : Option Addr} {sl2 : Array (Option Value)} {oc2 kV2 dc2 pm2 cd2 ct2 : Value} {f2 : Addr}
    {od3 an3 : Option Addr} {sl3 : Array (Option Value)} {oc3 kV3 dc3 pm3 cd3 ct3 : Value} {f3 : Addr}
    {od4 an4 : Option Addr} {sl4 : Array (Option Value)} {oc4 kV4 dc4 pm4 cd4 ct4 : Value} {f4 : Addr}
    {od5 an5 : Option Addr} {sl5 : Array (Option Value)} {oc5 kV5 dc5 pm5 cd5 ct5 : Value} {f5 : Addr}
    {od6 an6 : Option Addr} {sl6 : Array (Option Value)} {oc6 kV6 dc6 pm6 cd6 ct6 : Value} {f6 : Addr}
    {od7 an7 : Option Addr} {sl7 : Array (Option Value)} {oc7 kV7 dc7 pm7 cd7 ct7 : Value} {f7 : Addr}
    {od8 an8 : Option Addr} {sl8 : Array (Option Value)} {oc8 kV8 dc8 pm8 cd8 ct8 : Value} {f8 : Addr}
    {od9 an9 : Option Addr} {sl9 : Array (Option Value)} {oc9 kV9 dc9 pm9 cd9 ct9 : Value} {f9 : Addr}
    (a0 : PySem.W.nsIn K mainGlobals "rival" = some (some (.ref f0))) (l0 : K.lookup f0 = some ⟨oc0, od0, .func (PySem.W.fnOf "rival" "rival" (defArgs s_rival) (defBody s_rival) (defScope s_rival) .none kV0 dc0 pm0 an0 cd0 ct0), sl0⟩) (c0 : PySem.W.codeIn K cd0 "rival" = true) (k0 : PySem.W.keepIn K (.ref f0) = true)
    (a1 : PySem.W.nsIn K mainGlobals "step_of" = some (some (.ref f1))) (l1 : K.lookup f1 = some ⟨oc1, od1, .func (PySem.W.fnOf "step_of" "step_of" (defArgs s_step_of) (defBody s_step_of) (defScope s_step_of) .none kV1 dc1 pm1 an1 cd1 ct1), sl1⟩) (c1 : PySem.W.codeIn K cd1 "step_of" = true) (k1 : PySem.W.keepIn K (.ref f1) = true)
    (a2 : PySem.W.nsIn K mainGlobals "letter" = some (some (.ref f2))) (l2 : K.lookup f2 = some ⟨oc2, od2, .func (PySem.W.fnOf "letter" "letter" (defArgs s_letter) (defBody s_letter) (defScope s_letter) .none kV2 dc2 pm2 an2 cd2 ct2), sl2⟩) (c2 : PySem.W.codeIn K cd2 "letter" = true) (k2 : PySem.W.keepIn K (.ref f2) = true)
    (a3 : PySem.W.nsIn K mainGlobals "pointings" = some (some (.ref f3))) (l3 : K.lookup f3 = some ⟨oc3, od3, .func (PySem.W.fnOf "pointings" "pointings" (defArgs s_pointings) (defBody s_pointings) (defScope s_pointings) .none kV3 dc3 pm3 an3 cd3 ct3), sl3⟩) (c3 : PySem.W.codeIn K cd3 "pointings" = true) (k3 : PySem.W.keepIn K (.ref f3) = true)
    (a4 : PySem.W.nsIn K mainGlobals "_law_cell_at" = some (some (.ref f4))) (l4 : K.lookup f4 = some ⟨oc4, od4, .func (PySem.W.fnOf "_law_cell_at" "_law_cell_at" (defArgs s__law_cell_at) (defBody s__law_cell_at) (defScope s__law_cell_at) .none kV4 dc4 pm4 an4 cd4 ct4), sl4⟩) (c4 : PySem.W.codeIn K cd4 "_law_cell_at" = true) (k4 : PySem.W.keepIn K (.ref f4) = true)
    (a5 : PySem.W.nsIn K mainGlobals "_law_numbers" = some (some (.ref f5))) (l5 : K.lookup f5 = some ⟨oc5, od5, .func (PySem.W.fnOf "_law_numbers" "_law_numbers" (defArgs s__law_numbers) (defBody s__law_numbers) (defScope s__law_numbers) .none kV5 dc5 pm5 an5 cd5 ct5), sl5⟩) (c5 : PySem.W.codeIn K cd5 "_law_numbers" = true) (k5 : PySem.W.keepIn K (.ref f5) = true)
    (a6 : PySem.W.nsIn K mainGlobals "_law_rows" = some (some (.ref f6))) (l6 : K.lookup f6 = some ⟨oc6, od6, .func (PySem.W.fnOf "_law_rows" "_law_rows" (defArgs s__law_rows) (defBody s__law_rows) (defScope s__law_rows) .none kV6 dc6 pm6 an6 cd6 ct6), sl6⟩) (c6 : PySem.W.codeIn K cd6 "_law_rows" = true) (k6 : PySem.W.keepIn K (.ref f6) = true)
    (a7 : PySem.W.nsIn K mainGlobals "_law_others_have" = some (some (.ref f7))) (l7 : K.lookup f7 = some ⟨oc7, od7, .func (PySem.W.fnOf "_law_others_have" "_law_others_have" (defArgs s__law_others_have) (defBody s__law_others_have) (defScope s__law_others_have) .none kV7 dc7 pm7 an7 cd7 ct7), sl7⟩) (c7 : PySem.W.codeIn K cd7 "_law_others_have" = true) (k7 : PySem.W.keepIn K (.ref f7) = true)
    (a8 : PySem.W.nsIn K mainGlobals "_law_right" = some (some (.ref f8))) (l8 : K.lookup f8 = some ⟨oc8, od8, .func (PySem.W.fnOf "_law_right" "_law_right" (defArgs s__law_right) (defBody s__law_right) (defScope s__law_right) .none kV8 dc8 pm8 an8 cd8 ct8), sl8⟩) (c8 : PySem.W.codeIn K cd8 "_law_right" = true) (k8 : PySem.W.keepIn K (.ref f8) = true)
    (a9 : PySem.W.nsIn K mainGlobals "law" = some (some (.ref f9))) (l9 : K.lookup f9 = some ⟨oc9, od9, .func (PySem.W.fnOf "law" "law" (defArgs s_law) (defBody s_law) (defScope s_law) .none kV9 dc9 pm9 an9 cd9 ct9), sl9⟩) (c9 : PySem.W.codeIn K cd9 "law" = true) (k9 : PySem.W.keepIn K (.ref f9) = true)
    (z_enumerate : PySem.W.nsIn K mainGlobals "enumerate" = some none)
    (z_isinstance : PySem.W.nsIn K mainGlobals "isinstance" = some none)
    (z_len : PySem.W.nsIn K mainGlobals "len" = some none)
    (z_list : PySem.W.nsIn K mainGlobals "list" = some none)
    (z_range : PySem.W.nsIn K mainGlobals "range" = some none)
    (z_str : PySem.W.nsIn K mainGlobals "str" = some none)
    {t_SMALL : _} (g_SMALL : PySem.W.nsIn K mainGlobals "SMALL" = some (some (.str "abcdefghijklmnopqrstuvwxyz" t_SMALL))) :
    ∃ fa fd, mg "law" = some (.ref fa) ∧ (∀ (s : Shared) (u : Value), BindsTo s fd ⟨[u], []⟩ [("_law_script", u)]) ∧ ∀ base : Heap, K.In base → base.Ns mainGlobals mg → FnOk l.prog w K mg base (L2.CX l.prog w) 4 fa fd ["_law_script"] (spF mg .sh 1 f_law) := by
  exact ⟨_, _, PySem.W.mg_of X G a9, fun s v => .of_eq rfl, fun base Xb Gb => by
    have F_0 := fun_mk (st := s_rival) l0 c0 k0
    have K_rival : Cal l.prog w K mg base 1 "rival" ["rows", "place", "step"] (spF mg .sh 3 f_rival) := ⟨f0, _, ok_rival F_0 (PySem.W.mg_none_of X G z_enumerate), PySem.W.mg_of X G a0, F_0.kp, F_0.binds (ps := ["rows", "place", "step"]) fun _ _ _ _ _ _ us hl => match us, hl with | [_, _, _], _ => rfl⟩
    have F_1 := fun_mk (st := s_step_of) l1 c1 k1
    have K_step_of : Cal l.prog w K mg base 2 "step_of" ["rows", "place"] (spF mg .sh 2 f_step_of) := ⟨f1, _, ok_step_of F_1 (PySem.W.mg_none_of X G z_len) (PySem.W.mg_none_of X G z_range) (K_rival.mono (by decide)), PySem.W.mg_of X G a1, F_1.kp, F_1.binds (ps := ["rows", "place"]) fun _ _ _ _ _ _ us hl => match us, hl with | [_, _], _ => rfl⟩
    have F_2 := fun_mk (st := s_letter) l2 c2 k2
    have K_letter : Cal l.prog w K mg base 1 "letter" ["n"] (spF mg .sh 1 f_letter) := ⟨f2, _, ok_letter F_2 ⟨_, PySem.W.mg_of X G g_SMALL⟩, PySem.W.mg_of X G a2, F_2.kp, F_2.binds (ps := ["n"]) fun _ _ _ _ _ _ us hl => match us, hl with | [_], _ => rfl⟩
    have F_3 := fun_mk (st := s_pointings) l3 c3 k3
    have K_pointings : Cal l.prog w K mg base 3 "pointings" ["rows"] (spF mg .fr 1 f_pointings) := ⟨f3, _, ok_pointings F_3 (PySem.W.mg_none_of X G z_enumerate) (K_letter.mono (by decide)) (K_step_of.mono (by decide)), PySem.W.mg_of X G a3, F_3.kp, F_3.binds (ps := ["rows"]) fun _ _ _ _ _ _ us hl => match us, hl with | [_], _ => rfl⟩
    have F_4 := fun_mk (st := s__law_cell_at) l4 c4 k4
    have K__law_cell_at : Cal l.prog w K mg base 1 "_law_cell_at" ["_law_script", "_law_k"] (spF mg .sh 2 f__law_cell_at) := ⟨f4, _, ok__law_cell_at F_4 (PySem.W.mg_none_of X G z_len), PySem.W.mg_of X G a4, F_4.kp, F_4.binds (ps := ["_law_script", "_law_k"]) fun _ _ _ _ _ _ us hl => match us, hl with | [_, _], _ => rfl⟩
    have F_5 := fun_mk (st := s__law_numbers) l5 c5 k5
    have K__law_numbers : Cal l.prog w K mg base 1 "_law_numbers" ["_law_cell", "_law_many"] (spF mg .sh 2 f__law_numbers) := ⟨f5, _, ok__law_numbers F_5 (PySem.W.mg_none_of X G z_range), PySem.W.mg_of X G a5, F_5.kp, F_5.binds (ps := ["_law_cell", "_law_many"]) fun _ _ _ _ _ _ us hl => match us, hl with | [_, _], _ => rfl⟩
    have F_6 := fun_mk (st := s__law_rows) l6 c6 k6
    have K__law_rows : Cal l.prog w K mg base 2 "_law_rows" ["_law_sort", "_law_steps", "_law_cells"] (spF mg .sh 3 f__law_rows) := ⟨f6, _, ok__law_rows F_6 (PySem.W.mg_none_of X G z_str) (K__law_numbers.mono (by decide)), PySem.W.mg_of X G a6, F_6.kp, F_6.binds (ps := ["_law_sort", "_law_steps", "_law_cells"]) fun _ _ _ _ _ _ us hl => match us, hl with | [_, _, _], _ => rfl⟩
    have F_7 := fun_mk (st := s__law_others_have) l7 c7 k7
    have K__law_others_have : Cal l.prog w K mg base 1 "_law_others_have" ["_law_rows_here", "_law_place", "_law_text"] (spF mg .sh 3 f__law_others_have) := ⟨f7, _, ok__law_others_have F_7 (PySem.W.mg_none_of X G z_len) (PySem.W.mg_none_of X G z_range), PySem.W.mg_of X G a7, F_7.kp, F_7.binds (ps := ["_law_rows_here", "_law_place", "_law_text"]) fun _ _ _ _ _ _ us hl => match us, hl with | [_, _, _], _ => rfl⟩
    have F_8 := fun_mk (st := s__law_right) l8 c8 k8
    have K__law_right : Cal l.prog w K mg base 2 "_law_right" ["_law_rows_here", "_law_told", "_law_place"] (spF mg .sh 3 f__law_right) := ⟨f8, _, ok__law_right F_8 (PySem.W.mg_none_of X G z_len) (K__law_others_have.mono (by decide)) (K_letter.mono (by decide)), PySem.W.mg_of X G a8, F_8.kp, F_8.binds (ps := ["_law_rows_here", "_law_told", "_law_place"]) fun _ _ _ _ _ _ us hl => match us, hl with | [_, _, _], _ => rfl⟩
    exact ok_law (fun_mk (st := s_law) l9 c9 k9) (PySem.W.mg_none_of X G z_isinstance) (PySem.W.mg_none_of X G z_len) (PySem.W.mg_none_of X G z_list) (PySem.W.mg_none_of X G z_range) (PySem.W.mg_none_of X G z_str) (K__law_cell_at.mono (by decide)) (K__law_right.mono (by decide)) (K__law_rows.mono (by decide)) (K_pointings.mono (by decide))⟩
theorem cell_at_ok (ns : List Int) (k : Nat) : f__law_cell_at [.lst (ns.map D.int), .int k] = .ok (.int (ns.getD k 0)) := by
  unfold f__law_cell_at runB b__law_cell_at
  by_cases h : k < ns.length
  · have e := ix_lst_nat (ns.map D.int) k (.int ns[k]) (by simp [h])
    simp [env0, h, e, List.getD, List.getElem?_eq_getElem h]
  · simp [env0, h, List.getD, List.getElem?_eq_none (Nat.le_of_not_lt h)]

theorem getD_some {α : Type} (l : List α) (k : Nat) (d : α) (h : k < l.length) : l[k]? = some (l.getD k d) := by simp [List.getD, h]

theorem eqAll_refl {f : D → D → Option Bool} : ∀ {xs : List D}, (∀ x ∈ xs, f x x = some true) → eqAll f xs xs = some true
  | [], _ => rfl
  | x :: xs, h => by
    unfold eqAll
    rw [h x List.mem_cons_self, eqAll_refl fun y hy => h y (List.mem_cons_of_mem _ hy)]
    rfl

abbrev Rows := List (List (List Nat))
def others (rs : Rows) (place : Nat) (t : List Nat) : Bool := rs.zipIdx.any fun p => decide (p.2 ≠ place) && decide (t ∈ p.1)
def rivalR (place : Nat) (t : List Nat) (p : List (List Nat) × Nat) : Option D := if p.2 ≠ place ∧ t ∈ p.1 then some (.tup [.int (p.2 : Nat), .int (p.1.idxOf t : Nat)]) else none
def rivalO (rs : Rows) (place : Nat) (t : List Nat) : Option D := rs.zipIdx.findSome? (rivalR place t)
theorem rival_ok {rs : Rows} {place step : Nat} {r : List (List Nat)} {t : List Nat} (hr : rs[place]? = some r) (ht : r[step]? = some t) :
    f_rival [rowsD rs, .int place, .int step] = .ok ((rivalO rs place t).getD .non) := by
  have h := forRun_first (kills := [4, 5]) (bnd := bTup 2 (bCons (bName 4) (bCons (bName 5) bNil))) (B := l_rival_0) (fun δ => ∃ a b, δ = [.sh (rowsD rs), .sh (.int place), .sh (.int step), .sh (T t), a, b]) (fun p : List (List Nat) × Nat => D.tup [.int (p.2 : Nat), rowD p.1]) (rivalR place t) rs.zipIdx [.sh (rowsD rs), .sh (.int place), .sh (.int step), .sh (T t), .no, .no] ⟨_, _, rfl⟩ (fun p hp δ ⟨a, b, e⟩ => by
    subst e
    refine ⟨_, rfl, ?_⟩
    have hin := inD_row t p.1
    by_cases c1 : p.2 = place
    · left
      refine ⟨by unfold rivalR; rw [if_neg (by simp [c1])], [.sh (rowsD rs), .sh (.int place), .sh (.int step), .sh (T t), .sh (.int p.2), .sh (rowD p.1)], .inl ?_, _, _, rfl⟩
      simp [l_rival_0, c1]
    · have c1' : ((p.2 : Int) == (place : Int)) = false := by rw [beq_eq_false_iff_ne]; omega
      by_cases c2 : t ∈ p.1
      · right
        have hi := lindex_row t p.1 c2
        have hd : isTD "list" (rowD p.1) = true := rfl
        refine ⟨.tup [.int (p.2 : Nat), .int (p.1.idxOf t : Nat)], [.sh (rowsD rs), .sh (.int place), .sh (.int step), .sh (T t), .sh (.int p.2), .sh (rowD p.1)], by unfold rivalR; rw [if_pos ⟨c1, c2⟩], ?_⟩
        simp [l_rival_0, c1', hin, c2, hd, hi]
      · left
        refine ⟨by unfold rivalR; rw [if_neg (by simp [c2])], [.sh (rowsD rs), .sh (.int place), .sh (.int step), .sh (T t), .sh (.int p.2), .sh (rowD p.1)], .inl ?_, _, _, rfl⟩
        simp [l_rival_0, c1', hin, c2])
  have e1 := row_at hr
  have e2 := text_at ht
  have e3 : enumL (rs.map rowD) = rs.zipIdx.map fun p => D.tup [.int (p.2 : Nat), rowD p.1] := enumL_map rowD rs
  have e4 : rowsD rs = .lst (rs.map rowD) := rfl
  unfold f_rival runB b_rival
  simp [env0, e1, e2]
  rw [e3]
  rcases h with ⟨h1, δ', h2, a, b, rfl⟩ | ⟨d, δ', h1, h2⟩
  · rw [h2]
    unfold rivalO; rw [h1]
    simp
  · rw [h2]
    unfold rivalO; rw [h1]
    simp
theorem rivalO_none {rs : Rows} {place : Nat} {t : List Nat} : rivalO rs place t = none ↔ others rs place t = false := by
  unfold rivalO others
  rw [List.findSome?_eq_none_iff, List.any_eq_false]
  constructor
  · intro h p hp
    have := h p hp
    unfold rivalR at this
    split at this
    · cases this
    · rename_i h1
      simpa using h1
  · intro h p hp
    have := h p hp
    unfold rivalR
    rw [if_neg (by simpa using this)]
theorem rivalO_some {rs : Rows} {place : Nat} {t : List Nat} (h : others rs place t = true) : ∃ ds, rivalO rs place t = some (.tup ds) := by
  cases e : rivalO rs place t with
  | none => rw [rivalO_none.mp e] at h; cases h
  | some d =>
    unfold rivalO at e
    obtain ⟨p, _, h2⟩ := List.exists_of_findSome?_eq_some e
    unfold rivalR at h2
    split at h2
    · cases h2; exact ⟨_, rfl⟩
    · cases h2

def leastR (rs : Rows) (place : Nat) (r : List (List Nat)) (s : Nat) : Option D := if others rs place (r.getD s []) = false then some (.int (s : Nat)) else none
def leastO (rs : Rows) (place : Nat) (r : List (List Nat)) : Option D := (List.range r.length).findSome? (leastR rs place r)
theorem step_of_ok {rs : Rows} {place : Nat} {r : List (List Nat)} (hr : rs[place]? = some r) (hl : r.length ≤ 1000000) : f_step_of [rowsD rs, .int place] = .ok ((leastO rs place r).getD .non) := by
  have h := forRun_first (kills := [2]) (bnd := bName 2) (B := l_step_of_0) (fun δ => ∃ a, δ = [.sh (rowsD rs), .sh (.int place), a]) (fun i : Nat => D.int (0 + (i : Int))) (leastR rs place r) (List.range r.length) [.sh (rowsD rs), .sh (.int place), .no] ⟨_, rfl⟩ (fun s hs δ ⟨a, e⟩ => by
    subst e
    have hs : s < r.length := List.mem_range.mp hs
    have e1 : r[s]? = some (r.getD s []) := by simp [List.getD, hs]
    have e2 := rival_ok hr e1
    refine ⟨_, rfl, ?_⟩
    cases ho : others rs place (r.getD s []) with
    | false =>
      right
      rw [rivalO_none.mpr ho] at e2
      refine ⟨.int (s : Nat), [.sh (rowsD rs), .sh (.int place), .sh (.int (0 + (s : Int)))], by unfold leastR; rw [if_pos ho], ?_⟩
      simp at e2
      simp [l_step_of_0, e2, isND]
    | true =>
      left
      obtain ⟨ds, hd⟩ := rivalO_some ho
      rw [hd] at e2
      refine ⟨by unfold leastR; rw [if_neg (by rw [ho]; simp)], [.sh (rowsD rs), .sh (.int place), .sh (.int (0 + (s : Int)))], .inl ?_, _, rfl⟩
      simp at e2
      simp [l_step_of_0, e2, isND])
  have e1 := row_at hr
  unfold f_step_of runB b_step_of
  simp [env0, e1]
  rw [rngOk_ok _ (by omega) (by omega), if_pos rfl, sBind_ok]
  unfold rngL
  rcases h with ⟨h1, δ', h2, a, rfl⟩ | ⟨d, δ', h1, h2⟩
  · rw [h2]
    unfold leastO; rw [h1]
    simp
  · rw [h2]
    unfold leastO; rw [h1]
    simp
theorem least_some {rs : Rows} {place : Nat} {r : List (List Nat)} {d : D} (h : leastO rs place r = some d) : ∃ s, d = .int (s : Nat) ∧ s < r.length ∧ others rs place (r.getD s []) = false ∧ ∀ u, u < s → others rs place (r.getD u []) = true := by
  unfold leastO at h
  rw [List.findSome?_eq_some_iff] at h
  obtain ⟨l1, s, l2, h1, h2, h3⟩ := h
  have hs : s = l1.length := by
    have := congrArg (fun l => l[l1.length]?) h1
    simp [List.getElem?_range] at this
    by_cases hh : l1.length < r.length
    · rw [List.getElem?_eq_getElem (by simpa using hh)] at this
      simp at this
      exact this.symm
    · rw [List.getElem?_eq_none (by simp; omega)] at this
      cases this
  unfold leastR at h2
  split at h2
  · rename_i ho
    cases h2
    have hl : s < r.length := by
      have : s ∈ List.range r.length := by rw [h1]; simp
      exact List.mem_range.mp this
    refine ⟨s, rfl, hl, ho, fun u hu => ?_⟩
    have hm : u ∈ l1 := by
      have := congrArg (fun l => l[u]?) h1
      simp only [List.getElem?_append, show u < l1.length by omega, if_true] at this
      rw [List.getElem?_range (by omega)] at this
      exact List.mem_of_getElem? this.symm
    have := h3 u hm
    unfold leastR at this
    split at this
    · cases this
    · rename_i hh
      simpa using hh
  · cases h2
theorem least_none {rs : Rows} {place : Nat} {r : List (List Nat)} (h : leastO rs place r = none) : ∀ u, u < r.length → others rs place (r.getD u []) = true := by
  intro u hu
  unfold leastO at h
  rw [List.findSome?_eq_none_iff] at h
  have := h u (List.mem_range.mpr hu)
  unfold leastR at this
  split at this
  · cases this
  · rename_i hh
    simpa using hh

def othR (rs : Rows) (place : Nat) (t : List Nat) (o : Nat) : Option D := if o ≠ place ∧ t ∈ rs.getD o [] then some (.bl true) else none
theorem others_ok (rs : Rows) (place : Nat) (t : List Nat) (hl : rs.length ≤ 1000000) : f__law_others_have [rowsD rs, .int place, .str (tx t)] = .ok (.bl (others rs place t)) := by
  have h := forRun_first (kills := [3]) (bnd := bName 3) (B := l__law_others_have_0) (fun δ => ∃ a, δ = [.sh (rowsD rs), .sh (.int place), .sh (T t), a]) (fun i : Nat => D.int (0 + (i : Int))) (othR rs place t) (List.range rs.length) [.sh (rowsD rs), .sh (.int place), .sh (T t), .no] ⟨_, rfl⟩ (fun o ho δ ⟨a, e⟩ => by
    subst e
    have ho : o < rs.length := List.mem_range.mp ho
    have e1 : rs[o]? = some (rs.getD o []) := by simp [List.getD, ho]
    have e2 := row_at e1
    have hin := inD_row t (rs.getD o [])
    refine ⟨_, rfl, ?_⟩
    by_cases c1 : o = place
    · left
      refine ⟨by unfold othR; rw [if_neg (fun h => h.1 c1)], [.sh (rowsD rs), .sh (.int place), .sh (T t), .sh (.int (0 + (o : Int)))], .inl ?_, _, rfl⟩
      simp [l__law_others_have_0, c1]
    · have c1' : ((o : Int) == (place : Int)) = false := by rw [beq_eq_false_iff_ne]; omega
      by_cases c2 : t ∈ rs.getD o []
      · right
        refine ⟨.bl true, [.sh (rowsD rs), .sh (.int place), .sh (T t), .sh (.int (0 + (o : Int)))], by unfold othR; rw [if_pos ⟨c1, c2⟩], ?_⟩
        simp only [Int.zero_add, l__law_others_have_0, e_If, e_AndT, e_Tst, e_Op2, e_Var, e_bName, List.getD_cons_zero, List.getD_cons_succ, slotB_sh, Res.bind_ok, neC_int, e_toB, c1', e2, hin, c2, e_Ret, e_dC, sBind_ok, e_forg0, e_forg1, List.set_cons_succ, List.set_cons_zero, decide_true, if_true, Bool.not_false]
      · left
        refine ⟨by unfold othR; rw [if_neg (fun h => c2 h.2)], [.sh (rowsD rs), .sh (.int place), .sh (T t), .sh (.int (0 + (o : Int)))], .inl ?_, _, rfl⟩
        simp only [Int.zero_add, l__law_others_have_0, e_If, e_AndT, e_Tst, e_Op2, e_Var, e_bName, List.getD_cons_zero, List.getD_cons_succ, slotB_sh, Res.bind_ok, neC_int, e_toB, c1', e2, hin, c2, e_Ret, e_dC, sBind_ok, e_forg0, e_forg1, List.set_cons_succ, List.set_cons_zero, decide_false, if_true, Bool.not_false, Bool.false_eq_true, if_false, e_Skip])
  have key : others rs place t = ((List.range rs.length).findSome? (othR rs place t)).isSome := by
    rw [Bool.eq_iff_iff]
    unfold others
    rw [List.any_eq_true, List.findSome?_isSome_iff]
    constructor
    · rintro ⟨p, hp, h2⟩
      have := zip_at hp
      have hlt : p.2 < rs.length := (List.getElem?_eq_some_iff.mp this).1
      have hg : rs.getD p.2 [] = p.1 := by simp [List.getD, this]
      simp only [Bool.and_eq_true, decide_eq_true_eq] at h2
      exact ⟨p.2, List.mem_range.mpr hlt, by unfold othR; rw [hg, if_pos h2]; rfl⟩
    · rintro ⟨o, ho, h2⟩
      have ho := List.mem_range.mp ho
      by_cases hh : o ≠ place ∧ t ∈ rs.getD o []
      · refine ⟨(rs.getD o [], o), List.mem_zipIdx_iff_getElem?.mpr (by simp [List.getD, ho]), by simp only [Bool.and_eq_true, decide_eq_true_eq]; exact hh⟩
      · unfold othR at h2; rw [if_neg hh] at h2; cases h2
  rw [key]
  unfold f__law_others_have runB b__law_others_have
  simp [env0]
  rw [rngOk_ok _ (by omega) (by omega), if_pos rfl, sBind_ok]
  unfold rngL
  rcases h with ⟨h1, δ', h2, a, rfl⟩ | ⟨d, δ', h1, h2⟩
  · rw [h2, h1]
    simp
  · rw [h2, h1]
    have : d = .bl true := by
      obtain ⟨o, _, h3⟩ := List.exists_of_findSome?_eq_some h1
      unfold othR at h3
      split at h3
      · cases h3; rfl
      · cases h3
    subst this
    simp

/-! ### the mathematics -/
abbrev small : List Nat := [97, 98, 99, 100, 101, 102, 103, 104, 105, 106, 107, 108, 109, 110, 111, 112, 113, 114, 115, 116, 117, 118, 119, 120, 121, 122]
def letL (n : Nat) : List Nat := if h : n < 26 then [97 + n] else letL (n / 26 - 1) ++ [97 + n % 26]
termination_by n
decreasing_by omega
theorem letL_lt {n : Nat} (h : n < 26) : letL n = [97 + n] := by rw [letL, dif_pos h]
theorem letL_ge {n : Nat} (h : ¬ n < 26) : letL n = letL (n / 26 - 1) ++ [97 + n % 26] := by rw [letL, dif_neg h]
theorem small_at : ∀ c, c < 26 → small[c]? = some (97 + c) := by decide
theorem small_ix (n : Nat) : ixD (T small) (.int ((n : Int) % 26)) = .ok (T [97 + n % 26]) := by
  refine ix_tx _ _ _ (by decide) ?_
  rw [show ((n : Int) % 26) = ((n % 26 : Nat) : Int) by omega, atI_ofNat]
  exact small_at _ (by omega)
theorem letL_len : ∀ (f n : Nat), n < 26 ^ f → (letL n).length ≤ f + 1
  | 0, n, h => by
    rw [letL_lt (by simp at h; omega)]
    simp
  | f + 1, n, h => by
    by_cases hn : n < 26
    · rw [letL_lt hn]; simp
    · rw [letL_ge hn, List.length_append]
      have : n / 26 - 1 < 26 ^ f := by
        have : n / 26 < 26 ^ f := by rw [Nat.pow_succ] at h; omega
        omega
      have := letL_len f _ this
      simp; omega
theorem letter_loop (f : Nat) : ∀ (n : Nat) (t : List Nat), n < 26 ^ f → f + t.length ≤ 10000 → ∃ n' : Int, whileRun [] (dTst (dOp2 geD (dVar 0) (dC (.int 26)))) l_letter_0 (f + 1) [.sh (.int n), .sh (T ((97 + n % 26) :: t))] = .nx [.sh (.int n'), .sh (T (letL n ++ t))] := by
  induction f with
  | zero =>
    intro n t h
    simp at h; subst h
    intro _
    exact ⟨0, by rw [letL_lt (by decide)]; rfl⟩
  | succ f ih =>
    intro n t h hl
    unfold whileRun
    by_cases hn : n < 26
    · refine ⟨n, ?_⟩
      have : ¬ (26 : Int) ≤ n := by omega
      rw [letL_lt hn, Nat.mod_eq_of_lt hn]
      simp [this]
    · have h26 : (26 : Int) ≤ n := by omega
      have hd : (n : Int) / 26 - 1 = ((n / 26 - 1 : Nat) : Int) := by omega
      have hb : n / 26 - 1 < 26 ^ f := by
        have : n / 26 < 26 ^ f := by rw [Nat.pow_succ] at h; omega
        omega
      obtain ⟨n', q⟩ := ih (n / 26 - 1) ((97 + n % 26) :: t) hb (by simp; omega)
      refine ⟨n', ?_⟩
      rw [letL_ge hn, List.append_assoc]
      simp only [List.cons_append, List.nil_append]
      rw [← q]
      simp [h26, hd, small_ix, l_letter_0]
      rw [add_tx _ _ (by simp; omega)]
      simp
theorem letter_ok (n : Nat) (h : n < 26 ^ 299) : f_letter [.int n] = .ok (T (letL n)) := by
  obtain ⟨n', q⟩ := letter_loop 299 n [] h (by decide)
  rw [List.append_nil] at q
  unfold f_letter runB b_letter w_letter
  simp [env0, small_ix]
  rw [q]
  simp

theorem letL_pos (n : Nat) : letL n ≠ [] := by
  by_cases hn : n < 26
  · rw [letL_lt hn]; simp
  · rw [letL_ge hn]; simp
theorem letL_small : ∀ n : Nat, ∀ c ∈ letL n, 97 ≤ c ∧ c < 123 := by
  intro n
  induction n using Nat.strongRecOn with
  | _ n ih =>
    intro c hc
    by_cases hn : n < 26
    · rw [letL_lt hn, List.mem_singleton] at hc; omega
    · rw [letL_ge hn, List.mem_append, List.mem_singleton] at hc
      rcases hc with hc | hc
      · exact ih _ (by omega) c hc
      · omega
theorem small_mem : ∀ c, c < 123 → 97 ≤ c → c ∈ small := by decide
def val (l : List Nat) : Nat := l.foldl (fun v c => v * 26 + (c - 96)) 0
theorem val_letL : ∀ n : Nat, val (letL n) = n + 1 := by
  intro n
  induction n using Nat.strongRecOn with
  | _ n ih =>
    by_cases hn : n < 26
    · rw [letL_lt hn]; simp [val]; omega
    · rw [letL_ge hn]
      have := ih (n / 26 - 1) (by omega)
      unfold val at this ⊢
      rw [List.foldl_append, this]
      simp; omega
theorem letL_inj {n m : Nat} (h : letL n = letL m) : n = m := by
  have := congrArg val h
  rw [val_letL, val_letL] at this
  omega

theorem look_map {κ : Type} [DecidableEq κ] (k : κ) (v : D) (k' : κ) : ∀ kvs : List (κ × D), lookK (kvs.map fun kv => if kv.1 = k then (kv.1, v) else kv) k' = if k' = k then (lookK kvs k).map (fun _ => v) else lookK kvs k'
  | [] => by simp [lookK]
  | (k0, d) :: r => by
    have ih := look_map k v k' r
    rw [List.map_cons]
    by_cases h0 : k0 = k
    · subst h0
      rw [if_pos rfl, lookK_cons, lookK_cons, ih, lookK_cons]
      by_cases h1 : k' = k0
      · subst h1; simp
      · rw [if_neg h1, if_neg h1, if_neg (fun e => h1 e.symm), if_neg (fun e => h1 e.symm)]
    · rw [if_neg h0, lookK_cons, lookK_cons, lookK_cons, ih]
      by_cases h1 : k' = k
      · subst h1
        rw [if_neg h0, if_pos rfl, if_pos rfl, if_neg h0]
      · rw [if_neg h1, if_neg h1]
theorem look_snoc {κ : Type} [DecidableEq κ] (k : κ) (v : D) (k' : κ) : ∀ kvs : List (κ × D), lookK (kvs ++ [(k, v)]) k' = match lookK kvs k' with | some x => some x | none => if k = k' then some v else none
  | [] => by
    rw [List.nil_append, lookK_cons]
    rfl
  | (k0, d) :: r => by
    rw [List.cons_append, lookK_cons, lookK_cons, look_snoc k v k' r]
    by_cases h : k0 = k' <;> simp [h]
theorem look_any {κ : Type} [DecidableEq κ] (k : κ) : ∀ kvs : List (κ × D), (kvs.any fun kv => decide (kv.1 = k)) = (lookK kvs k).isSome
  | [] => rfl
  | (k0, d) :: r => by
    rw [List.any_cons, lookK_cons, look_any k r]
    by_cases h : k0 = k <;> simp [h]
theorem look_put {κ : Type} [DecidableEq κ] (kvs : List (κ × D)) (k : κ) (v : D) (k' : κ) : lookK (putD kvs k v) k' = if k' = k then some v else lookK kvs k' := by
  unfold putD
  rw [look_any]
  cases h : lookK kvs k with
  | some x =>
    simp only [Option.isSome_some, if_true]
    rw [look_map, h]
    rfl
  | none =>
    simp only [Option.isSome_none, Bool.false_eq_true, if_false]
    rw [look_snoc]
    by_cases h1 : k' = k
    · subst h1; rw [h]; try simp
    · rw [if_neg h1]
      cases lookK kvs k' with
      | some x => rfl
      | none =>
        show (if k = k' then some v else none) = none
        rw [if_neg (fun e => h1 e.symm)]
theorem put_len {κ : Type} [DecidableEq κ] (kvs : List (κ × D)) (k : κ) (v : D) : (putD kvs k v).length ≤ kvs.length + 1 := by
  unfold putD
  split <;> simp
def lastT (r : List (List Nat)) : List Nat := r.getLastD []
def stuckB (rs : Rows) (p : Nat) : Bool := (leastO rs p (rs.getD p [])).isNone
def cnt (rs : Rows) (t : List Nat) : Nat → Nat
  | 0 => 0
  | p + 1 => cnt rs t p + if stuckB rs p = true ∧ lastT (rs.getD p []) = t then 1 else 0
theorem cnt_le (rs : Rows) (t : List Nat) : ∀ p, cnt rs t p ≤ p
  | 0 => Nat.le_refl _
  | p + 1 => by
    have := cnt_le rs t p
    unfold cnt
    split <;> omega
def ptT (rs : Rows) (p : Nat) : List Nat := match leastO rs p (rs.getD p []) with
  | some (.int s) => (rs.getD p []).getD s.toNat []
  | _ => lastT (rs.getD p []) ++ 94 :: letL (cnt rs (lastT (rs.getD p [])) p)
theorem last_ix (r : List (List Nat)) (h : r ≠ []) : ixD (rowD r) (.int (-1)) = .ok (T (lastT r)) := by
  obtain ⟨u, x, rfl⟩ : ∃ u x, r = u ++ [x] := ⟨r.dropLast, r.getLast h, (List.dropLast_concat_getLast h).symm⟩
  have : lastT (u ++ [x]) = x := by simp [lastT]
  rw [this]
  exact ix_lst _ _ _ (by rw [List.map_append]; exact Dx.atI_last _ _)
theorem pointings_ok (rs : Rows) (hl : rs.length ≤ 1000) (hne : ∀ r ∈ rs, r ≠ [] ∧ r.length ≤ 1000) (htx : ∀ r ∈ rs, ∀ t ∈ r, t.length ≤ 1000) : f_pointings [rowsD rs] = .ok (rowD ((List.range rs.length).map (ptT rs))) := by
  have e3 : enumL (rs.map rowD) = rs.zipIdx.map fun p => D.tup [.int (p.2 : Nat), rowD p.1] := enumL_map rowD rs
  obtain ⟨δ', q, pp⟩ := forRun_inv (kills := [3, 4, 5, 6]) (bnd := bTup 2 (bCons (bName 3) (bCons (bName 4) bNil))) (B := l_pointings_0) (fun xs δ => ∃ (p : Nat) (kvs : List (Key × D)) (a b c d : Slot), δ = [.sh (rowsD rs), .ro (.lst (((List.range p).map (ptT rs)).map T)), .ro (.dic kvs), a, b, c, d] ∧ xs = (rs.zipIdx.drop p).map (fun p => D.tup [.int (p.2 : Nat), rowD p.1]) ∧ p ≤ rs.length ∧ kvs.length ≤ p ∧ ∀ t, lookK kvs (Sum.inr (tx t)) = if cnt rs t p = 0 then none else some (.int (cnt rs t p : Nat))) (fun x xs δ h => by
    obtain ⟨p, kvs, a, b, c, d, rfl, hx, hp, hkl, hk⟩ := h
    have hp2 : p < rs.length := by
      by_cases hh : p < rs.length
      · exact hh
      · rw [List.drop_eq_nil_of_le (by simp; omega)] at hx
        cases hx
    have hd : rs.zipIdx.drop p = (rs[p], p) :: rs.zipIdx.drop (p + 1) := by
      rw [List.drop_eq_getElem_cons (by simpa using hp2)]
      simp
    rw [hd, List.map_cons] at hx
    cases hx
    have hr : rs[p]? = some rs[p] := List.getElem?_eq_getElem hp2
    have hg : rs.getD p [] = rs[p] := by simp [List.getD, hp2]
    have hm : rs[p] ∈ rs := List.getElem_mem _
    have hS := step_of_ok hr (by have := (hne _ hm).2; omega)
    have hcnt : ∀ t, cnt rs t (p + 1) = cnt rs t p + if stuckB rs p = true ∧ lastT rs[p] = t then 1 else 0 := fun t => by
      rw [← hg]; rfl
    have hst : stuckB rs p = (leastO rs p rs[p]).isNone := by unfold stuckB; rw [hg]
    have hpt : ptT rs p = match leastO rs p rs[p] with
        | some (.int s) => rs[p].getD s.toNat []
        | _ => lastT rs[p] ++ 94 :: letL (cnt rs (lastT rs[p]) p) := by unfold ptT; rw [hg]
    have hrange : ((List.range (p + 1)).map (ptT rs)).map T = ((List.range p).map (ptT rs)).map T ++ [T (ptT rs p)] := by
      rw [List.range_succ]; simp
    have hlen : (((List.range p).map (ptT rs)).map T).length < 1000000 := by simp; omega
    have hli := last_ix rs[p] (hne _ hm).1
    have hll : (lastT rs[p]).length ≤ 1000 := by
      have hn := (hne _ hm).1
      have : lastT rs[p] = rs[p].getLast hn := by unfold lastT; rw [List.getLastD_eq_getLast?, List.getLast?_eq_some_getLast hn]; rfl
      rw [this]
      exact htx _ hm _ (List.getLast_mem hn)
    generalize hR : rs[p] = r at *
    generalize ((List.range p).map (ptT rs)).map T = fd at *
    cases hO : leastO rs p r with
    | some dd =>
      obtain ⟨s, rfl, hs1, _, _⟩ := least_some hO
      rw [hO] at hS hst hpt
      have e1 := text_at (r := r) (p := s) (getD_some r s [] hs1)
      refine ⟨_, _, rfl, .inl ?_, p + 1, kvs, .sh (.int p), .sh (rowD r), .sh (.int s), .no, rfl, rfl, by omega, by omega, fun t => ?_⟩
      · rw [hrange, hpt]
        simp at hS
        simp [l_pointings_0, hS, isND]
        simp at e1
        simp [e1, hlen]
      · rw [hcnt t, hst]
        simp [hk t]
    | none =>
      rw [hO] at hS hst hpt
      have hc := hk (lastT r)
      have hcl := cnt_le rs (lastT r) p
      have hlet := letter_ok (cnt rs (lastT r) p) (Nat.lt_of_le_of_lt (Nat.le_trans hcl (Nat.le_trans hp hl)) (by
        have : (26 : Nat) ^ 3 ≤ 26 ^ 299 := Nat.pow_le_pow_right (by decide) (by decide)
        have : (1000 : Nat) < 26 ^ 3 := by decide
        omega))
      have hletl := letL_len 3 (cnt rs (lastT r) p) (by
        have : (1000 : Nat) < 26 ^ 3 := by decide
        omega)
      have e5 : askD (.dic kvs) (T (lastT r)) = some (lookK kvs (Sum.inr (tx (lastT r)))) := rfl
      have e6 : keyOf (T (lastT r)) = some (Sum.inr (tx (lastT r))) := rfl
      have e7 : isDic (.dic kvs) = true := rfl
      have hget : (match lookK kvs (Sum.inr (tx (lastT r))) with | some e => Res.ok e | none => Res.ok (.int 0)) = .ok (.int (cnt rs (lastT r) p : Nat)) := by
        rw [hc]
        by_cases h0 : cnt rs (lastT r) p = 0
        · rw [if_pos h0, h0]; rfl
        · rw [if_neg h0]
      have hget2 : dGet2 (dVar 2) (dIx (dVar 4) (dNeg (dC (.int 1)))) (dC (.int 0)) [.sh (rowsD rs), .ro (.lst fd), .ro (.dic kvs), .sh (.int p), .sh (rowD r), .sh .non, .no] = .ok (.int (cnt rs (lastT r) p : Nat)) := by
        rw [← hget]
        simp [hli, e7, e5]
        cases lookK kvs (Sum.inr (tx (lastT r))) <;> rfl
      refine ⟨_, _, rfl, .inl ?_, p + 1, putD kvs (Sum.inr (tx (lastT r))) (.int (cnt rs (lastT r) p + 1 : Nat)), .sh (.int p), .sh (rowD r), .sh .non, .sh (.int (cnt rs (lastT r) p : Nat)), rfl, rfl, by omega, Nat.le_trans (put_len _ _ _) (by omega), fun t => ?_⟩
      · rw [hrange, hpt]
        generalize cnt rs (lastT r) p = c at *
        simp at hS
        unfold l_pointings_0
        simp only [e_Seq, e_Set, e_Call, e_Cons, e_Nil, e_Sh, List.getD_cons_zero, List.getD_cons_succ, slotS_sh, Res.bind_ok, e_forg0, e_forg1, List.set_cons_succ, List.set_cons_zero, hS, sBind_ok, seqK_nx, e_If, e_Tst, e_Op2, e_Var, slotB_sh, e_dC, isND, e_toB, if_true, e_Imm, hget2, flat]
        simp [hli, e6, show kvs.length < 1000000 by omega, hlet]
        rw [add_tx _ _ (by simp; omega)]
        simp
        rw [add_tx _ _ (by simp; omega)]
        simp [hlen]
      · rw [look_put, hcnt t, hst]
        by_cases ht : t = lastT r
        · subst ht
          simp
        · rw [if_neg (by simpa using ht), hk t]
          have : ¬ lastT r = t := fun e => ht e.symm
          simp [this]) (enumL (rs.map rowD)) [.sh (rowsD rs), .ro (.lst []), .ro (.dic []), .no, .no, .no, .no] ⟨0, [], .no, .no, .no, .no, rfl, by rw [e3]; rfl, by omega, Nat.le_refl _, fun t => rfl⟩
  obtain ⟨p, kvs, a, b, c, d, rfl, hx, hp, _, _⟩ := pp
  have hpe : p = rs.length := by
    have := congrArg List.length hx
    simp at this
    omega
  subst hpe
  unfold f_pointings runB b_pointings
  simp [env0]
  rw [q]
  simp [rowD]

theorem sub_tx (l : List Nat) (i j : Nat) : Builtin.Str.strSub (tx l) i j = tx ((l.take j).drop i) := by
  unfold Builtin.Str.strSub
  show (⟨l.toArray.extract i j⟩ : Str) = ⟨_⟩
  congr 1
  apply Array.toList_inj.mp
  simp [List.extract_eq_drop_take, List.drop_take]
theorem occ1_none (l : List Nat) (c : Nat) (h : c ∉ l) : Builtin.Str.occurrences (tx l) (tx [c]) 0 (tx l).length 1 = [] := by
  have := PySem.StrLaws.found_one (tx l) c
  have h2 : (!(Builtin.Str.occurrences (tx l) (tx [c]) 0 (tx l).length 1).isEmpty) = decide (c ∈ l) := this
  rw [decide_eq_false h] at h2
  cases e : Builtin.Str.occurrences (tx l) (tx [c]) 0 (tx l).length 1 with
  | nil => rfl
  | cons a r => rw [e] at h2; cases h2
theorem part_none (l : List Nat) (c : Nat) (h : c ∉ l) (hl : l.length ≤ 16777216) : partD (T l) (T [c]) = .ok (.tup [T l, T [], T []]) := by
  show (if _ then _ else _) = _
  rw [if_pos ⟨by rw [tx_len]; rfl, by rw [tx_len, line_eq]; exact hl⟩]
  unfold Txt.partition
  rw [occ1_none l c h]
  rfl
theorem occ1_some (a b : List Nat) (c : Nat) (h : c ∉ a) : ∃ r, Builtin.Str.occurrences (tx (a ++ c :: b)) (tx [c]) 0 (tx (a ++ c :: b)).length 1 = a.length :: r := by
  have key : ∀ i, PySem.StrLaws.At (tx (a ++ c :: b)) (tx [c]) (tx (a ++ c :: b)).length i ↔ (a ++ c :: b)[i]? = some c := fun i => PySem.StrLaws.subAt_one (tx (a ++ c :: b)) c i
  rcases PySem.StrLaws.occ_head (tx (a ++ c :: b)) (tx [c]) 1 (Nat.le_refl _) with ⟨_, h2⟩ | ⟨i, r, h1, h2, h3⟩
  · exact (h2 a.length ((key a.length).mpr (by simp))).elim
  · have hi := (key i).mp h2
    have h4 : i = a.length := by
      rcases Nat.lt_trichotomy i a.length with hh | hh | hh
      · exfalso
        rw [List.getElem?_append_left hh] at hi
        exact h (List.mem_of_getElem? hi)
      · exact hh
      · exact (h3 a.length hh ((key a.length).mpr (by simp))).elim
    exact ⟨r, by rw [h1, h4]⟩
theorem part_some (a b : List Nat) (c : Nat) (h : c ∉ a) (hl : (a ++ c :: b).length ≤ 16777216) : partD (T (a ++ c :: b)) (T [c]) = .ok (.tup [T a, T [c], T b]) := by
  show (if _ then _ else _) = _
  rw [if_pos ⟨by rw [tx_len]; rfl, by rw [tx_len, line_eq]; exact hl⟩]
  obtain ⟨r, hr⟩ := occ1_some a b c h
  have e : Txt.partition (tx (a ++ c :: b)) (tx [c]) = (tx a, tx [c], tx b) := by
    unfold Txt.partition
    rw [hr]
    show (Builtin.Str.strSub _ 0 a.length, tx [c], Builtin.Str.strSub _ (a.length + 1) (tx (a ++ c :: b)).length) = _
    rw [sub_tx, sub_tx, tx_len]
    have e1 : ((a ++ c :: b).take a.length).drop 0 = a := by simp
    have e2 : ((a ++ c :: b).take (a ++ c :: b).length).drop (a.length + 1) = b := by
      rw [List.take_length, List.drop_append]
      simp
    rw [e1, e2]
  rw [e]

theorem numbers_ok (c : Int) (n : Nat) (hn : n ≤ 1000) : ∃ ls : List Int, f__law_numbers [.int c, .int n] = .ok (.lst (ls.map D.int)) ∧ ls.length = n := by
  by_cases hc : c % 2 = 1
  · obtain ⟨δ', q, p⟩ := forRun_inv (kills := [4]) (bnd := bName 4) (B := l__law_numbers_0) (fun xs δ => (∃ (ls : List Int) (m : Int) (s : Slot), δ = [.sh (.int c), .sh (.int n), .ro (.lst (ls.map D.int)), .sh (.int m), s] ∧ ls.length + xs.length = n) ∧ ∀ x ∈ xs, ∃ i, x = .int i) (fun x xs δ h => by
      obtain ⟨⟨ls, m, s, rfl, h1⟩, h2⟩ := h
      obtain ⟨i, rfl⟩ := h2 x List.mem_cons_self
      simp at h1
      refine ⟨_, _, rfl, .inl ?_, ⟨ls ++ [m % 5040], m / 5040, .sh (.int i), rfl, by simp; omega⟩, fun x hx => h2 x (List.mem_cons_of_mem _ hx)⟩
      simp [l__law_numbers_0, show ls.length < 1000000 by omega]) (rngL 0 n) [.sh (.int c), .sh (.int n), .ro (.lst []), .sh (.int (c / 2)), .no] ⟨⟨[], _, .no, rfl, by simp [rngL]⟩, fun x hx => by
        obtain ⟨i, _, rfl⟩ := List.mem_map.mp hx
        exact ⟨_, rfl⟩⟩
    obtain ⟨⟨ls, m, s, rfl, h1⟩, _⟩ := p
    refine ⟨ls, ?_, by simpa using h1⟩
    unfold f__law_numbers runB b__law_numbers
    simp [env0, hc]
    rw [rngOk_ok _ (by omega) (by omega), if_pos rfl, sBind_ok, q]
    simp
  · obtain ⟨δ', q, p⟩ := forRun_inv (kills := [4]) (bnd := bName 4) (B := l__law_numbers_1) (fun xs δ => (∃ (ls : List Int) (m : Int) (s : Slot), δ = [.sh (.int c), .sh (.int n), .ro (.lst (ls.map D.int)), .sh (.int m), s] ∧ ls.length + xs.length = n) ∧ ∀ x ∈ xs, ∃ i, x = .int i) (fun x xs δ h => by
      obtain ⟨⟨ls, m, s, rfl, h1⟩, h2⟩ := h
      obtain ⟨i, rfl⟩ := h2 x List.mem_cons_self
      simp at h1
      refine ⟨_, _, rfl, .inl ?_, ⟨ls ++ [(m + i + 1) * 48271 % 2147483647 * 69621 % 2147483629], (m + i + 1) * 48271 % 2147483647, .sh (.int i), rfl, by simp; omega⟩, fun x hx => h2 x (List.mem_cons_of_mem _ hx)⟩
      simp [l__law_numbers_1, show ls.length < 1000000 by omega]) (rngL 0 n) [.sh (.int c), .sh (.int n), .ro (.lst []), .sh (.int (c / 2 % 2147483647)), .no] ⟨⟨[], _, .no, rfl, by simp [rngL]⟩, fun x hx => by
        obtain ⟨i, _, rfl⟩ := List.mem_map.mp hx
        exact ⟨_, rfl⟩⟩
    obtain ⟨⟨ls, m, s, rfl, h1⟩, _⟩ := p
    refine ⟨ls, ?_, by simpa using h1⟩
    have hc' : (c % 2 == 1) = false := by rw [beq_eq_false_iff_ne]; exact hc
    unfold f__law_numbers runB b__law_numbers
    simp [env0, hc]
    rw [rngOk_ok _ (by omega) (by omega), if_pos rfl, sBind_ok, q]
    simp
def Cl (t : List Nat) : Prop := t.length ≤ 100 ∧ 94 ∉ t
theorem strD_small : ∀ n : Nat, n < 100 → ((cs (Str.ofString (toString (n : Int)))).length ≤ 10 ∧ 94 ∉ cs (Str.ofString (toString (n : Int)))) ∧ (n : Int).natAbs.log2 < 1920 := by decide +kernel
theorem strD_ok (i : Int) (h0 : 0 ≤ i) (h1 : i < 100) : ∃ l, strD (.int i) = .ok (T l) ∧ l.length ≤ 10 ∧ 94 ∉ l := by
  obtain ⟨n, rfl⟩ : ∃ n : Nat, i = n := ⟨i.toNat, by omega⟩
  obtain ⟨a, b⟩ := strD_small n (by omega)
  refine ⟨cs (Str.ofString (toString (n : Int))), ?_, a⟩
  show (if _ then _ else _) = _
  rw [if_pos b]
  exact congrArg (fun z => Res.ok (D.str z)) (tx_cs _).symm
theorem abc_ix (i : Int) : ∃ c, ixD (T [97, 98, 99]) (.int (i % 3)) = .ok (T [c]) ∧ c ≠ 94 := by
  obtain ⟨n, c, e, h⟩ := ix_int [97, 98, 99] (i % 3) (by omega) (by show i % 3 < 3; omega)
  refine ⟨c, by rw [e]; exact ix_tx_nat _ _ _ (by decide) h, fun hh => ?_⟩
  have := List.mem_of_getElem? h
  rw [hh] at this
  exact absurd this (by decide)
theorem row_ok (sort : Int) (A B C : D) (many : Int) (hm : 2 ≤ many ∧ many ≤ 40) (base : List Nat) (hb : base.length ≤ 8 ∧ 94 ∉ base) (cell : D) (ls : List Int) (hl : ls.length ≤ 6) :
    ∃ (r : List (List Nat)) (t : Slot), forRun [9] (bName 9) l__law_rows_0 (ls.map D.int) [.sh (.int sort), .sh A, .sh B, .ro C, .sh (.int many), .sh (T base), .sh cell, .ro (.lst []), .sh (T base), .no] = .nx [.sh (.int sort), .sh A, .sh B, .ro C, .sh (.int many), .sh (T base), .sh cell, .ro (rowD r), t, .no] ∧ r.length = ls.length ∧ ∀ t ∈ r, Cl t := by
  obtain ⟨δ', q, p⟩ := forRun_inv (kills := [9]) (bnd := bName 9) (B := l__law_rows_0) (fun xs δ => (∃ (r : List (List Nat)) (t : List Nat) (s : Slot), δ = [.sh (.int sort), .sh A, .sh B, .ro C, .sh (.int many), .sh (T base), .sh cell, .ro (.lst (r.map T)), .sh (T t), s] ∧ r.length + xs.length = ls.length ∧ t.length ≤ 8 + r.length ∧ 94 ∉ t ∧ ∀ t ∈ r, Cl t) ∧ ∀ x ∈ xs, ∃ i, x = .int i) (fun x xs δ h => by
    obtain ⟨⟨r, t, s, rfl, h1, h3, h5, h6⟩, h2⟩ := h
    obtain ⟨i, rfl⟩ := h2 x List.mem_cons_self
    simp at h1
    by_cases hs : sort % 3 = 0
    · obtain ⟨c, hc, hc9⟩ := abc_ix i
      have h94 : 94 ∉ t ++ [c] := by simp [h5]; omega
      refine ⟨_, _, rfl, .inl ?_, ⟨r ++ [t ++ [c]], t ++ [c], .sh (.int i), rfl, by simp; omega, by simp; omega, h94, ?_⟩, fun x hx => h2 x (List.mem_cons_of_mem _ hx)⟩
      · simp [l__law_rows_0, hs, hc]
        rw [add_tx _ _ (by simp; omega)]
        simp [show r.length < 1000000 by omega]
      · intro u hu
        rcases List.mem_append.mp hu with hu | hu
        · exact h6 u hu
        · rw [List.mem_singleton] at hu; subst hu; exact ⟨by simp; omega, h94⟩
    · obtain ⟨k, hk, hk2⟩ : ∃ k : Nat, i % many = (k : Int) ∧ k < 100 := ⟨(i % many).toNat, by have := Int.emod_nonneg i (show many ≠ 0 by omega); omega, by have := Int.emod_lt_of_pos i (show 0 < many by omega); omega⟩
      obtain ⟨l, hl1, hl2, hl3⟩ := strD_ok (k : Int) (by omega) (by omega)
      have hcut : cutL (base ++ l) none (some (1000 * (k : Int))) = (base ++ l).take (1000 * k) := by
        rw [show (1000 * (k : Int)) = ((1000 * k : Nat) : Int) by omega]
        exact cut_take _ _
      have hcl : Cl ((base ++ l).take (1000 * k)) := ⟨by simp; omega, fun hh => by
        have := List.mem_of_mem_take hh
        rcases List.mem_append.mp this with h | h
        · exact hb.2 h
        · exact hl3 h⟩
      have hbl := hb.1
      refine ⟨_, _, rfl, .inl ?_, ⟨r ++ [(base ++ l).take (1000 * k)], t, .sh (.int i), rfl, by simp; omega, by simp; omega, h5, ?_⟩, fun x hx => h2 x (List.mem_cons_of_mem _ hx)⟩
      · generalize (base ++ l).take (1000 * k) = u at *
        simp [l__law_rows_0, hs, show 0 < many by omega, hk, hl1]
        rw [add_tx _ _ (by omega)]
        simp
        rw [cMul_l _ _ (by decide) (by decide)]
        simp [sliceS_tx (base ++ l) _ _ (by simp; omega), hcut, show r.length < 1000000 by omega]
      · intro u hu
        rcases List.mem_append.mp hu with hu | hu
        · exact h6 u hu
        · rw [List.mem_singleton] at hu; subst hu; exact hcl) (ls.map D.int) [.sh (.int sort), .sh A, .sh B, .ro C, .sh (.int many), .sh (T base), .sh cell, .ro (.lst []), .sh (T base), .no] ⟨⟨[], base, .no, rfl, by simp, by have := hb.1; simp; omega, hb.2, fun t ht => nomatch ht⟩, fun x hx => by
        obtain ⟨i, _, rfl⟩ := List.mem_map.mp hx
        exact ⟨_, rfl⟩⟩
  obtain ⟨⟨r, t, s, rfl, h1, _, _, h6⟩, _⟩ := p
  exact ⟨r, .sh (T t), by rw [q]; rfl, by simpa using h1, h6⟩
theorem ixN_last (n : Nat) (h : 1 ≤ n) : ixN n (-1) = some (n - 1) := by
  unfold ixN
  rw [if_neg (by decide), if_pos (by omega)]
  congr 1
  omega
theorem rows_ok (sort : Int) (steps : Nat) (hs1 : 1 ≤ steps) (hst : steps ≤ 6) (cells : List Int) (hc : cells.length ≤ 1000) : ∃ rs : Rows, f__law_rows [.int sort, .int steps, .lst (cells.map D.int)] = .ok (rowsD rs) ∧ rs.length = cells.length ∧ ∀ r ∈ rs, r.length = steps ∧ ∀ t ∈ r, Cl t := by
  obtain ⟨k, hk, hk2⟩ : ∃ k : Nat, sort / 120 % 9 = (k : Int) ∧ k < 9 := ⟨(sort / 120 % 9).toNat, by omega, by omega⟩
  have hcut : cutL [76, 101, 101, 44, 32, 65, 110, 110] none (some (k : Int)) = List.take k [76, 101, 101, 44, 32, 65, 110, 110] := cut_take _ _
  have hb : (List.take k [76, 101, 101, 44, 32, 65, 110, 110]).length ≤ 8 ∧ 94 ∉ List.take k [76, 101, 101, 44, 32, 65, 110, 110] := ⟨by simp; omega, fun hh => absurd (List.mem_of_mem_take hh) (by decide)⟩
  generalize List.take k [76, 101, 101, 44, 32, 65, 110, 110] = base at hcut hb
  obtain ⟨δ', q, p⟩ := forRun_inv (kills := [6, 7, 8, 9]) (bnd := bName 6) (B := l__law_rows_1) (fun xs δ => (∃ (rs : Rows) (a b c d : Slot), δ = [.sh (.int sort), .sh (.int steps), .sh (.lst (cells.map D.int)), .ro (.lst (rs.map rowD)), .sh (.int (2 + sort / 3 % 39)), .sh (T base), a, b, c, d] ∧ rs.length + xs.length = cells.length ∧ ∀ r ∈ rs, r.length = steps ∧ ∀ t ∈ r, Cl t) ∧ ∀ x ∈ xs, ∃ i, x = .int i) (fun x xs δ h => by
    obtain ⟨⟨rs, a, b, c, d, rfl, h1, h3⟩, h2⟩ := h
    obtain ⟨i, rfl⟩ := h2 x List.mem_cons_self
    simp at h1
    obtain ⟨ls, hls, hll⟩ := numbers_ok i steps (by omega)
    obtain ⟨r, t, hr, hrl, hrc⟩ := row_ok sort (.int steps) (.lst (cells.map D.int)) (.lst (rs.map rowD)) (2 + sort / 3 % 39) (by omega) base hb (.int i) ls (by omega)
    by_cases hcond : sort % 3 = 2 ∧ 0 < i % 4
    · have hix := ixN_last r.length (by omega)
      have hset : rowD (r.set (r.length - 1) [116, 104, 101, 32, 115, 97, 109, 101]) = .lst ((r.map T).set (r.length - 1) (T [116, 104, 101, 32, 115, 97, 109, 101])) := by unfold rowD; rw [List.map_set]
      refine ⟨_, _, rfl, .inl ?_, ⟨rs ++ [r.set (r.length - 1) [116, 104, 101, 32, 115, 97, 109, 101]], .sh (.int i), .sh (rowD (r.set (r.length - 1) [116, 104, 101, 32, 115, 97, 109, 101])), t, .no, rfl, by simp; omega, ?_⟩, fun x hx => h2 x (List.mem_cons_of_mem _ hx)⟩
      · rw [List.map_append, List.map_cons, hset]
        simp [l__law_rows_1, hls]
        rw [hr]
        simp [hcond.1, hcond.2, rowD, hix, show rs.length < 1000000 by omega]
      · intro r' hr'
        rcases List.mem_append.mp hr' with hr' | hr'
        · exact h3 r' hr'
        · rw [List.mem_singleton] at hr'; subst hr'
          refine ⟨by simp; omega, fun t ht => ?_⟩
          rcases List.mem_or_eq_of_mem_set ht with h | h
          · exact hrc t h
          · subst h; exact ⟨by decide, by decide⟩
    · refine ⟨_, _, rfl, .inl ?_, ⟨rs ++ [r], .sh (.int i), .sh (rowD r), t, .no, rfl, by simp; omega, ?_⟩, fun x hx => h2 x (List.mem_cons_of_mem _ hx)⟩
      · simp [l__law_rows_1, hls]
        rw [hr]
        by_cases hc1 : sort % 3 = 2
        · have hc2 : ¬ 0 < i % 4 := fun h => hcond ⟨hc1, h⟩
          simp [hc1, hc2, show rs.length < 1000000 by omega]
        · simp [hc1, show rs.length < 1000000 by omega]
      · intro r' hr'
        rcases List.mem_append.mp hr' with hr' | hr'
        · exact h3 r' hr'
        · rw [List.mem_singleton] at hr'; subst hr'; exact ⟨by omega, hrc⟩) (cells.map D.int) [.sh (.int sort), .sh (.int steps), .sh (.lst (cells.map D.int)), .ro (.lst []), .sh (.int (2 + sort / 3 % 39)), .sh (T base), .no, .no, .no, .no] ⟨⟨[], _, _, _, _, rfl, by simp, fun r hr => nomatch hr⟩, fun x hx => by
        obtain ⟨i, _, rfl⟩ := List.mem_map.mp hx
        exact ⟨_, rfl⟩⟩
  obtain ⟨⟨rs, a, b, c, d, rfl, h1, h3⟩, _⟩ := p
  refine ⟨rs, ?_, by simpa using h1, h3⟩
  unfold f__law_rows runB b__law_rows
  simp [env0, hk, hcut]
  rw [q]
  simp [rowsD]
structure Ok (rs : Rows) (steps : Nat) : Prop where
  len : rs.length ≤ 100
  row : ∀ r ∈ rs, r.length = steps ∧ ∀ t ∈ r, Cl t
  s1 : 1 ≤ steps
  s6 : steps ≤ 6
def told (rs : Rows) : List (List Nat) := (List.range rs.length).map (ptT rs)
theorem told_at (rs : Rows) {p : Nat} (h : p < rs.length) : (told rs)[p]? = some (ptT rs p) := by
  unfold told
  rw [List.getElem?_map, List.getElem?_range h]; rfl
theorem row_of {rs : Rows} {steps p : Nat} (O : Ok rs steps) (h : p < rs.length) : rs[p]? = some (rs.getD p []) ∧ (rs.getD p []).length = steps ∧ ∀ t ∈ rs.getD p [], Cl t := by
  have e := getD_some rs p [] h
  have := O.row _ (List.mem_of_getElem? e)
  exact ⟨e, this.1, this.2⟩
theorem last_mem {rs : Rows} {steps p : Nat} (O : Ok rs steps) (h : p < rs.length) : lastT (rs.getD p []) ∈ rs.getD p [] := by
  obtain ⟨_, h1, _⟩ := row_of O h
  generalize rs.getD p [] = r at *
  have hn : r ≠ [] := fun e => by rw [e] at h1; have := O.s1; simp at h1; omega
  have : lastT r = r.getLast hn := by unfold lastT; rw [List.getLastD_eq_getLast?, List.getLast?_eq_some_getLast hn]; rfl
  rw [this]; exact List.getLast_mem hn
theorem pt_cases {rs : Rows} {steps p : Nat} (O : Ok rs steps) (h : p < rs.length) :
    (stuckB rs p = false ∧ ∃ s, s < steps ∧ ptT rs p = (rs.getD p []).getD s [] ∧ ptT rs p ∈ rs.getD p [] ∧ others rs p (ptT rs p) = false ∧ ∀ u, u < s → others rs p ((rs.getD p []).getD u []) = true) ∨
    (stuckB rs p = true ∧ ptT rs p = lastT (rs.getD p []) ++ 94 :: letL (cnt rs (lastT (rs.getD p [])) p) ∧ ∀ u, u < steps → others rs p ((rs.getD p []).getD u []) = true) := by
  obtain ⟨_, h1, _⟩ := row_of O h
  unfold stuckB ptT
  generalize hR : rs.getD p [] = r at *
  cases hO : leastO rs p r with
  | none => exact .inr ⟨rfl, rfl, fun u hu => least_none hO u (by omega)⟩
  | some d =>
    obtain ⟨s, rfl, hs, ho, hu⟩ := least_some hO
    refine .inl ⟨rfl, s, by omega, rfl, ?_, ho, hu⟩
    exact List.mem_of_getElem? (getD_some r s [] hs)
theorem others_false {rs : Rows} {p q : Nat} {t : List Nat} (h : others rs p t = false) (hq : q < rs.length) (hn : q ≠ p) : t ∉ rs.getD q [] := by
  intro hm
  unfold others at h
  rw [List.any_eq_false] at h
  have := h (rs.getD q [], q) (List.mem_zipIdx_iff_getElem?.mpr (getD_some rs q [] hq))
  simp only [Bool.and_eq_true, decide_eq_true_eq, not_and] at this
  exact this hn hm
theorem cnt_mono (rs : Rows) (t : List Nat) {p q : Nat} (h : p ≤ q) : cnt rs t p ≤ cnt rs t q := by
  induction q with
  | zero => have : p = 0 := by omega
            subst this; exact Nat.le_refl _
  | succ q ih =>
    by_cases e : p = q + 1
    · subst e; exact Nat.le_refl _
    · have := ih (by omega)
      show _ ≤ cnt rs t q + _
      omega
theorem split94 {a b c d : List Nat} (ha : 94 ∉ a) (hc : 94 ∉ c) (h : a ++ 94 :: b = c ++ 94 :: d) : a = c ∧ b = d := by
  induction a generalizing c with
  | nil =>
    cases c with
    | nil => simp at h; exact ⟨rfl, h⟩
    | cons x c => simp at h; exact (hc (by rw [← h.1]; simp)).elim
  | cons y a ih =>
    cases c with
    | nil => simp at h; exact (ha (by rw [h.1]; simp)).elim
    | cons x c =>
      simp at h
      obtain ⟨h1, h2⟩ := h
      obtain ⟨e1, e2⟩ := ih (fun hh => ha (List.mem_cons_of_mem _ hh)) (fun hh => hc (List.mem_cons_of_mem _ hh)) h2
      exact ⟨by rw [h1, e1], e2⟩
theorem no_two {rs : Rows} {steps p q : Nat} (O : Ok rs steps) (hp : p < rs.length) (hqp : q < p) : ptT rs q ≠ ptT rs p := by
  have hq : q < rs.length := by omega
  intro e
  rcases pt_cases O hp with ⟨a1, s, a2, a3, a4, a5, a6⟩ | ⟨a1, a2, a3⟩
  · rcases pt_cases O hq with ⟨b1, u, b2, b3, b4, b5, b6⟩ | ⟨b1, b2, b3⟩
    · exact others_false a5 hq (by omega) (by rw [← e]; exact b4)
    · have := (row_of O hp).2.2 _ a4
      exact this.2 (by rw [← e, b2]; simp)
  · rcases pt_cases O hq with ⟨b1, u, b2, b3, b4, b5, b6⟩ | ⟨b1, b2, b3⟩
    · have := (row_of O hq).2.2 _ b4
      exact this.2 (by rw [e, a2]; simp)
    · rw [a2, b2] at e
      obtain ⟨e1, e2⟩ := split94 ((row_of O hq).2.2 _ (last_mem O hq)).2 ((row_of O hp).2.2 _ (last_mem O hp)).2 e
      have e3 := letL_inj e2
      rw [e1] at e3
      have h1 : cnt rs (lastT (rs.getD p [])) (q + 1) = cnt rs (lastT (rs.getD p [])) q + 1 := by
        show _ + (if _ then 1 else 0) = _
        rw [if_pos ⟨b1, e1⟩]
      have h2 := cnt_mono rs (lastT (rs.getD p [])) (show q + 1 ≤ p by omega)
      omega
theorem not_ahead {rs : Rows} {steps p : Nat} (O : Ok rs steps) (hp : p < rs.length) : ptT rs p ∉ (told rs).take p := by
  intro h
  obtain ⟨q, hq1, hq2⟩ := List.mem_iff_getElem?.mp h |>.imp fun q hq => by
    have hl : q < p := by
      have := (List.getElem?_eq_some_iff.mp hq).1
      simp at this; omega
    exact (⟨hl, by rw [List.getElem?_take_of_lt hl] at hq; exact hq⟩ : q < p ∧ (told rs)[q]? = some (ptT rs p))
  rw [told_at rs (by omega)] at hq2
  exact no_two O hp hq1 (by simpa using hq2)
def markB (last l : List Nat) : Bool := decide (94 ∈ l) && (l.takeWhile (fun c => c != 94) == last)
theorem take_till {a b : List Nat} (h : 94 ∉ a) : (a ++ 94 :: b).takeWhile (fun c => c != 94) = a := by
  induction a with
  | nil => simp
  | cons x a ih =>
    have hx : x ≠ 94 := fun e => h (by simp [e])
    have := ih fun hh => h (List.mem_cons_of_mem _ hh)
    simp [hx]
    simpa using this
theorem mark_pt {rs : Rows} {steps q : Nat} (O : Ok rs steps) (hq : q < rs.length) (last : List Nat) : markB last (ptT rs q) = true ↔ stuckB rs q = true ∧ lastT (rs.getD q []) = last := by
  unfold markB
  rcases pt_cases O hq with ⟨b1, u, b2, b3, b4, b5, b6⟩ | ⟨b1, b2, b3⟩
  · have := ((row_of O hq).2.2 _ b4).2
    simp [this, b1]
  · rw [b2, take_till ((row_of O hq).2.2 _ (last_mem O hq)).2]
    simp [b1]
theorem ahead_len {rs : Rows} {steps : Nat} (O : Ok rs steps) (last : List Nat) : ∀ p, p ≤ rs.length → (((told rs).take p).filter (markB last)).length = cnt rs last p
  | 0, _ => by simp [cnt]
  | p + 1, h => by
    have ih := ahead_len O last p (by omega)
    have e : (told rs).take (p + 1) = (told rs).take p ++ [ptT rs p] := by
      rw [List.take_add_one, told_at rs (by omega)]; rfl
    rw [e, List.filter_append, List.length_append, ih]
    show _ = cnt rs last p + (if _ then 1 else 0)
    have hm := mark_pt O (show p < rs.length by omega) last
    by_cases hb : markB last (ptT rs p) = true
    · rw [if_pos (hm.mp hb)]; simp [hb]
    · rw [if_neg (fun hh => hb (hm.mpr hh))]; simp [hb]
theorem lower_ok {rs : Rows} {steps : Nat} (O : Ok rs steps) (p : Nat) (B C3 C4 C5 C6 C7 C8 : Slot) (ls : List (List Nat)) (h : ∀ t ∈ ls, others rs p t = true) :
    ∃ s, forRun [9] (bName 9) l__law_right_1 (ls.map T) [.sh (rowsD rs), B, .sh (.int (p : Nat)), C3, C4, C5, C6, C7, C8, .no] = .nx [.sh (rowsD rs), B, .sh (.int (p : Nat)), C3, C4, C5, C6, C7, C8, s] := by
  obtain ⟨δ', q, pp⟩ := forRun_inv (kills := [9]) (bnd := bName 9) (B := l__law_right_1) (fun xs δ => (∃ s, δ = [.sh (rowsD rs), B, .sh (.int (p : Nat)), C3, C4, C5, C6, C7, C8, s]) ∧ ∀ x ∈ xs, ∃ t, x = T t ∧ others rs p t = true) (fun x xs δ h => by
    obtain ⟨⟨s, rfl⟩, h2⟩ := h
    obtain ⟨t, rfl, ht⟩ := h2 x List.mem_cons_self
    have e := others_ok rs p t (by have := O.len; omega)
    rw [ht] at e
    refine ⟨_, _, rfl, .inl ?_, ⟨.sh (T t), rfl⟩, fun x hx => h2 x (List.mem_cons_of_mem _ hx)⟩
    simp [l__law_right_1, e]) (ls.map T) [.sh (rowsD rs), B, .sh (.int (p : Nat)), C3, C4, C5, C6, C7, C8, .no] ⟨⟨_, rfl⟩, fun x hx => by
      obtain ⟨t, ht, rfl⟩ := List.mem_map.mp hx
      exact ⟨t, rfl, h t ht⟩⟩
  obtain ⟨⟨s, rfl⟩, _⟩ := pp
  exact ⟨.no, by rw [q]; rfl⟩
theorem nin_row (t : List Nat) (r : List (List Nat)) : inD true (T t) (rowD r) = .ok (.bl (!decide (t ∈ r))) := by
  show optB (inB (T t) (rowD r)) _ = _
  rw [inB_row]; rfl
theorem ptT_len {rs : Rows} {steps p : Nat} (O : Ok rs steps) (h : p < rs.length) : (ptT rs p).length ≤ 200 := by
  rcases pt_cases O h with ⟨b1, u, b2, b3, b4, b5, b6⟩ | ⟨b1, b2, b3⟩
  · have := ((row_of O h).2.2 _ b4).1; omega
  · rw [b2]
    have h1 := ((row_of O h).2.2 _ (last_mem O h)).1
    have h2 := letL_len 3 (cnt rs (lastT (rs.getD p [])) p) (by
      have := cnt_le rs (lastT (rs.getD p [])) p
      have := O.len
      have : (100 : Nat) < 26 ^ 3 := by decide
      omega)
    rw [List.length_append, List.length_cons]; omega
theorem slice2 (a b c : D) : sliceT (.tup [a, b, c]) none (some 2) = .ok (.tup [a, b]) := rfl
theorem eqC_pair (a b c d : List Nat) : eqC (.tup [T a, T b]) (.tup [T c, T d]) = .ok (.bl (a == c && b == d)) := by
  show optB (((eqD 39 (T a) (T c)).bind fun x => ((eqD 39 (T b) (T d)).bind fun y => (some true).bind fun z => some (y && z)).bind fun y => some (x && y)).map fun k => k && true) id = _
  rw [eqD_flat rfl rfl, eqD_flat rfl rfl]
  show Res.ok (D.bl _) = _
  simp [flatEq]
def codesOf : D → List Nat
  | .str x => cs x
  | _ => []
theorem right_ok {rs : Rows} {steps p : Nat} (O : Ok rs steps) (hp : p < rs.length) : f__law_right [rowsD rs, rowD (told rs), .int (p : Nat)] = .ok (.bl true) := by
  obtain ⟨r1, r2, r3⟩ := row_of O hp
  have e1 := row_at r1
  have e2 := text_at (told_at rs hp)
  have hpl := ptT_len O hp
  have htl : (told rs).length ≤ 100 := by unfold told; simp; exact O.len
  rcases pt_cases O hp with ⟨b1, u, b2, b3, b4, b5, b6⟩ | ⟨b1, b2, b3⟩
  · have hcl := r3 _ b4
    generalize hR : rs.getD p [] = r at *
    have e3 := part_none (ptT rs p) 94 hcl.2 (by omega)
    have e4 := others_ok rs p (ptT rs p) (by have := O.len; omega)
    rw [b5] at e4
    have e5 := lindex_row (ptT rs p) r b4
    have e6 := nin_row (ptT rs p) r
    rw [decide_eq_true b4] at e6
    have e7 : isTD "list" (rowD r) = true := rfl
    have e8 : sliceL (rowD r) none (some ((r.idxOf (ptT rs p) : Nat) : Int)) = .ok (rowD (r.take (r.idxOf (ptT rs p)))) := by
      show Res.ok (D.lst (cutL (r.map T) none (some ((r.idxOf (ptT rs p) : Nat) : Int)))) = _
      rw [cut_take, ← List.map_take]; rfl
    have hidx : r.idxOf (ptT rs p) ≤ u := by
      by_cases hh : r.idxOf (ptT rs p) ≤ u
      · exact hh
      · exfalso
        have hu : u < r.length := by omega
        have := List.not_of_lt_findIdx (p := (· == ptT rs p)) (xs := r) (i := u) (by
          show u < r.idxOf (ptT rs p)
          omega)
        have e : r.getD u [] = r[u] := by simp [List.getD, hu]
        rw [e] at b3
        rw [beq_eq_false_iff_ne] at this
        exact this b3.symm
    obtain ⟨s, q⟩ := lower_ok O p (.sh (rowD (told rs))) (.sh (rowD r)) (.sh (T (ptT rs p))) (.sh (T [])) (.sh (T [])) (.sh (rowD (r.take (r.idxOf (ptT rs p))))) .no (r.take (r.idxOf (ptT rs p))) (fun t ht => by
      obtain ⟨k, hk⟩ := List.mem_iff_getElem?.mp ht
      have hkl : k < r.idxOf (ptT rs p) := by
        have := (List.getElem?_eq_some_iff.mp hk).1
        simp at this; omega
      rw [List.getElem?_take_of_lt hkl] at hk
      have := b6 k (by omega)
      have e : r.getD k [] = t := by simp [List.getD, hk]
      rw [e] at this
      exact this)
    generalize ptT rs p = t at *
    generalize r.take (r.idxOf t) = low at *
    unfold f__law_right runB b__law_right
    simp [env0, e1, e2, e3, e6, e4, e7, e5, e8]
    rw [q]
    simp
  · have hlm := last_mem O hp
    have hcl := r3 _ hlm
    have hne : rs.getD p [] ≠ [] := fun e => by rw [e] at r2; have := O.s1; simp at r2; omega
    have hlast := last_ix (rs.getD p []) hne
    have hal := ahead_len O (lastT (rs.getD p [])) p (by omega)
    have hcl3 := cnt_le rs (lastT (rs.getD p [])) p
    have hlet := letter_ok (cnt rs (lastT (rs.getD p [])) p) (by
      have := O.len
      have : (26 : Nat) ^ 3 ≤ 26 ^ 299 := Nat.pow_le_pow_right (by decide) (by decide)
      have : (100 : Nat) < 26 ^ 3 := by decide
      omega)
    have hmark : ∀ q, q < p → ∃ y : List D, partD (T (ptT rs q)) (T [94]) = .ok (.tup y) ∧ ∃ a b c, y = [T a, T b, T c] ∧ (a == lastT (rs.getD p []) && b == [94]) = markB (lastT (rs.getD p [])) (ptT rs q) := fun q hq => by
      have hq' : q < rs.length := by omega
      have hl := ptT_len O hq'
      rcases pt_cases O hq' with ⟨c1, u, c2, c3, c4, c5, c6⟩ | ⟨c1, c2, c3⟩
      · have h94 := ((row_of O hq').2.2 _ c4).2
        refine ⟨_, part_none _ 94 h94 (by omega), _, _, _, rfl, ?_⟩
        unfold markB
        simp [h94]
      · have h94 := ((row_of O hq').2.2 _ (last_mem O hq')).2
        rw [c2]
        rw [c2] at hl
        refine ⟨_, part_some _ _ 94 h94 (by omega), _, _, _, rfl, ?_⟩
        unfold markB
        rw [take_till h94]
        simp
    have htake : ((told rs).take p) = (List.range p).map (ptT rs) := by
      unfold told
      rw [← List.map_take, List.take_range, Nat.min_eq_left (by omega)]
    generalize hL : lastT (rs.getD p []) = last at *
    generalize hR : rs.getD p [] = r at *
    generalize cnt rs last p = c at *
    have hcomp : compRun [9] (bName 9) (dTst (dEq (dSlice sliceT (dPart (dVar 9) (dC (.str (tx [94])))) dNoP (dP (dC (.int 2)))) (dTup (dCons (dIx (dVar 3) (dNeg (dC (.int 1)))) (dCons (dC (.str (tx [94]))) dNil))))) (dSh 9) (((told rs).take p).map T) [.sh (rowsD rs), .sh (rowD (told rs)), .sh (.int (p : Nat)), .sh (rowD r), .sh (T last), .sh (T [94]), .sh (T (letL c)), .no, .no, .no] = .ok ((((told rs).take p).map T).filter (fun d => markB last (codesOf d)) |>.map id) := by
      refine compRun_filter (fun d => markB last (codesOf d)) id _ fun x hx => ?_
      rw [htake] at hx
      obtain ⟨t, ht, rfl⟩ := List.mem_map.mp hx
      obtain ⟨q, hq, rfl⟩ := List.mem_map.mp ht
      obtain ⟨y, hy, a, b, cc, rfl, hm⟩ := hmark q (List.mem_range.mp hq)
      refine ⟨_, rfl, ?_, fun _ => by simp⟩
      have hm' : markB last (cs (tx (ptT rs q))) = markB last (ptT rs q) := by rw [cs_tx]
      show _ = Res.ok (markB last (cs (tx (ptT rs q))))
      rw [hm', ← hm]
      have h1 := slice2 (T a) (T b) (T cc)
      have h2 := eqC_pair a b last [94]
      simp [hy, h1, hlast, h2]
    have hflen : ((((told rs).take p).map T).filter (fun d => markB last (codesOf d)) |>.map id).length = c := by
      rw [List.length_map, List.filter_map, List.length_map, ← hal]
      have hf : (fun d => markB last (codesOf d)) ∘ T = markB last := by
        funext x
        show markB last (cs (tx x)) = markB last x
        rw [cs_tx]
      rw [hf]
    generalize ((((told rs).take p).map T).filter (fun d => markB last (codesOf d)) |>.map id) = ah at *
    obtain ⟨s, q⟩ := lower_ok O p (.sh (rowD (told rs))) (.sh (rowD r)) (.sh (T last)) (.sh (T [94])) (.sh (T (letL c))) (.sh (rowD r)) (.sh (.lst ah)) r (fun t ht => by
      obtain ⟨k, hk⟩ := List.mem_iff_getElem?.mp ht
      have hkl := (List.getElem?_eq_some_iff.mp hk).1
      have := b3 k (by omega)
      have e : r.getD k [] = t := by simp [List.getD, hk]
      rw [e] at this
      exact this)
    rw [b2] at e2 hpl
    have e3 := part_some last (letL c) 94 hcl.2 (by omega)
    have e8 : sliceL (rowD (told rs)) none (some (p : Int)) = .ok (.lst (((told rs).take p).map T)) := by
      show Res.ok (D.lst (cutL ((told rs).map T) none (some (p : Int)))) = _
      rw [cut_take, List.map_take]
    have hpn : (((told rs).take p).map T).length < 1000000 := by simp; omega
    generalize (((told rs).take p).map T) = tk at *
    unfold f__law_right runB b__law_right
    simp [env0, e1, e2, e3, c__law_right_0, e8, hpn, noRo]
    try simp at hcomp
    rw [hcomp]
    simp [hlast, hflen, hlet]
    rw [q]
    simp
theorem eqD_row (n : Nat) (r : List (List Nat)) : eqD (n + 1) (rowD r) (rowD r) = some true := by
  show eqD (n + 1) (.lst (r.map T)) (.lst (r.map T)) = _
  unfold eqD
  rw [if_pos rfl]
  refine eqAll_refl fun x hx => ?_
  obtain ⟨t, _, rfl⟩ := List.mem_map.mp hx
  rw [eqD_flat rfl rfl]
  simp [flatEq]
theorem eqC_row (r : List (List Nat)) : eqC (rowD r) (rowD r) = .ok (.bl true) := by
  show optB (eqD 40 (rowD r) (rowD r)) id = _
  rw [eqD_row 39 r]; rfl
theorem eqN_row (n : Nat) (r : List (List Nat)) : eqN (n + 1) (rowD r) (rowD r) = some true := by
  show eqN (n + 1) (.lst (r.map T)) (.lst (r.map T)) = _
  unfold eqN
  rw [if_pos rfl]
  refine eqAll_refl fun x hx => ?_
  obtain ⟨t, _, rfl⟩ := List.mem_map.mp hx
  rw [eqN_flat rfl rfl]
  simp [flatEq]
theorem neC_rows (rs : Rows) : neC (rowsD rs) (rowsD rs) = .ok (.bl false) := by
  show optB (eqN 40 (.lst (rs.map rowD)) (.lst (rs.map rowD))) not = _
  have : eqN 40 (.lst (rs.map rowD)) (.lst (rs.map rowD)) = some true := by
    unfold eqN
    rw [if_pos rfl]
    refine eqAll_refl fun x hx => ?_
    obtain ⟨r, _, rfl⟩ := List.mem_map.mp hx
    exact eqN_row 38 r
  rw [this]; rfl
theorem law_true : ∀ ns : List Int, ns.length ≤ 63 → f_law (lawArg ns) = .ok (.bl true) := by
  intro ns hns
  have c0 : f__law_cell_at [.lst (ns.map D.int), .int 0] = .ok (.int (ns.getD 0 0)) := cell_at_ok ns 0
  have c1 : f__law_cell_at [.lst (ns.map D.int), .int 1] = .ok (.int (ns.getD 1 0)) := cell_at_ok ns 1
  obtain ⟨st, hst, hs1, hst2⟩ : ∃ st : Nat, 1 + ns.getD 1 0 % 6 = (st : Int) ∧ 1 ≤ st ∧ st ≤ 6 := ⟨(1 + ns.getD 1 0 % 6).toNat, by omega, by omega, by omega⟩
  have hcut : cutL (ns.map D.int) (some 2) (some 42) = ((ns.map D.int).take 42).drop 2 := cut_mid (ns.map D.int) 2 42
  obtain ⟨rs, hrs, hrl, hrr⟩ := rows_ok (ns.getD 0 0) st hs1 hst2 ((ns.take 42).drop 2) (by simp; omega)
  rw [List.map_drop, List.map_take] at hrs
  have hrl2 : rs.length ≤ 63 := by rw [hrl]; simp; omega
  have O : Ok rs st := ⟨by omega, hrr, hs1, hst2⟩
  have hcopy : compRun [7] (bName 7) tYesT (dOp1 listD (dSh 7)) (rs.map rowD) [.sh (.lst (ns.map D.int)), .sh (.int st), .sh (rowsD rs), .no, .no, .no, .no, .no] = .ok ((rs.map rowD).map id) := compRun_map id _ fun x hx => by
    obtain ⟨r, _, rfl⟩ := List.mem_map.mp hx
    exact ⟨_, rfl, by simp; rfl⟩
  rw [List.map_id] at hcopy
  have hpt : f_pointings [rowsD rs] = .ok (rowD (told rs)) := pointings_ok rs (by omega) (fun r hr => by
    have := (hrr r hr).1
    exact ⟨fun e => by rw [e] at this; simp at this; omega, by omega⟩) (fun r hr t ht => by have := ((hrr r hr).2 t ht).1; omega)
  have htl : (told rs).length = rs.length := by unfold told; simp
  have hne := neC_rows rs
  have heq := eqC_row (told rs)
  have k1 : isiD "list" (rowD (told rs)) = true := rfl
  have k2 : okKind (rowD (told rs)) = true := rfl
  have k3 : ∀ t : List Nat, isiD "str" (T t) = true := fun t => rfl
  have k4 : ∀ t : List Nat, okKind (T t) = true := fun t => rfl
  obtain ⟨δ1, q1, p1⟩ := forRun_inv (kills := [5]) (bnd := bName 5) (B := l_law_1) (fun xs δ => (∃ a, δ = [.sh (.lst (ns.map D.int)), .sh (.int st), .sh (rowsD rs), .sh (rowsD rs), .ro (rowD (told rs)), a, .no, .no]) ∧ ∀ x ∈ xs, ∃ u : Nat, x = .int u ∧ u < rs.length) (fun x xs δ h => by
    obtain ⟨⟨a, rfl⟩, h3⟩ := h
    obtain ⟨u, rfl, hu⟩ := h3 x List.mem_cons_self
    have e1 := text_at (told_at rs hu)
    have e2 := inD_row (ptT rs u) ((told rs).take u)
    rw [decide_eq_false (not_ahead O hu)] at e2
    have e3 : sliceL (rowD (told rs)) none (some (u : Int)) = .ok (rowD ((told rs).take u)) := by
      show Res.ok (D.lst (cutL ((told rs).map T) none (some (u : Int)))) = _
      rw [cut_take, ← List.map_take]; rfl
    refine ⟨_, _, rfl, .inl ?_, ⟨.sh (.int u), rfl⟩, fun x hx => h3 x (List.mem_cons_of_mem _ hx)⟩
    generalize (told rs).take u = tk at *
    simp [l_law_1, e1, e3, e2, k3, k4]) (rngL 0 rs.length) [.sh (.lst (ns.map D.int)), .sh (.int st), .sh (rowsD rs), .sh (rowsD rs), .ro (rowD (told rs)), .no, .no, .no] ⟨⟨_, rfl⟩, fun x hx => by
      obtain ⟨u, hu, rfl⟩ := List.mem_map.mp hx
      exact ⟨u, by simp, List.mem_range.mp hu⟩⟩
  obtain ⟨⟨a1, rfl⟩, _⟩ := p1
  obtain ⟨δ2, q2, p2⟩ := forRun_inv (kills := [5]) (bnd := bName 5) (B := l_law_2) (fun xs δ => (∃ a, δ = [.sh (.lst (ns.map D.int)), .sh (.int st), .sh (rowsD rs), .sh (rowsD rs), .ro (rowD (told rs)), a, .no, .no]) ∧ ∀ x ∈ xs, ∃ u : Nat, x = .int u ∧ u < rs.length) (fun x xs δ h => by
    obtain ⟨⟨a, rfl⟩, h3⟩ := h
    obtain ⟨u, rfl, hu⟩ := h3 x List.mem_cons_self
    have e1 := right_ok O hu
    refine ⟨_, _, rfl, .inl ?_, ⟨.sh (.int u), rfl⟩, fun x hx => h3 x (List.mem_cons_of_mem _ hx)⟩
    simp [l_law_2, e1]) (rngL 0 rs.length) [.sh (.lst (ns.map D.int)), .sh (.int st), .sh (rowsD rs), .sh (rowsD rs), .ro (rowD (told rs)), .no, .no, .no] ⟨⟨_, rfl⟩, fun x hx => by
      obtain ⟨u, hu, rfl⟩ := List.mem_map.mp hx
      exact ⟨u, by simp, List.mem_range.mp hu⟩⟩
  obtain ⟨⟨a2, rfl⟩, _⟩ := p2
  have htl2 : (told rs).length < 1000000 := by omega
  generalize hTo : told rs = to at *
  have hro : rowD to = .lst (to.map T) := rfl
  generalize ns.getD 0 0 = n0 at *
  generalize ns.getD 1 0 = n1 at *
  unfold f_law runB b_law lawArg
  simp [env0, c0, c1, hst, hcut]
  rw [hrs]
  simp [c_law_0]
  rw [if_pos ⟨by first | omega | (simp; omega), by simp [noRo]⟩, hcopy]
  try simp only [Res.bind_ok, sBind_ok]
  rw [show D.lst (rs.map rowD) = rowsD rs from rfl]
  simp [hpt, k1, k2, htl, hne]
  try simp at q1 q2
  rw [rngOk_ok _ (by omega) (by omega), if_pos rfl, sBind_ok, q1]
  simp
  rw [rngOk_ok _ (by omega) (by omega), if_pos rfl, sBind_ok, q2]
  simp [hro, htl2, hpt]
  rw [hro] at heq
  rw [heq]
  try simp

end Tx
open PySem PySem.W PyProof.Rows
set_option maxRecDepth 100000 in
set_option maxHeartbeats 0 in
theorem PySem.Challenge.cw_citeward_k23_whole_each_pointing_tells_o_holds : PySem.Challenge.rw_citeward_k23_whole_each_pointing_tells_o.Holds := by
  w_on; o_law; k_head; (case hw => w_witness2)
  k_fill
  refine Dx.walk_law (l := PySem.Challenge.rw_citeward_k23_whole_each_pointing_tells_o) (k := 4) (x := "_law_script") (g := Tx.f_law) rfl rfl ⟨rfl, by decide, by decide⟩ (fun w h Y => PySem.W.kIn_of Y) (fun w => ?nl) Tx.law_true ?F
  case nl => rfl
  case F =>
    intro w mg h KX G
    refine' Tx.all_mk KX G ?a0 ?l0 ?c0 ?k0 ?a1 ?l1 ?c1 ?k1 ?a2 ?l2 ?c2 ?k2 ?a3 ?l3 ?c3 ?k3 ?a4 ?l4 ?c4 ?k4 ?a5 ?l5 ?c5 ?k5 ?a6 ?l6 ?c6 ?k6 ?a7 ?l7 ?c7 ?k7 ?a8 ?l8 ?c8 ?k8 ?a9 ?l9 ?c9 ?k9 ?z_enumerate ?z_isinstance ?z_len ?z_list ?z_range ?z_str ?g_SMALL
    (case a0 => k_is); (case l0 => k_is); (case c0 => k_is); (case k0 => k_is); (case a1 => k_is); (case l1 => k_is); (case c1 => k_is); (case k1 => k_is); (case a2 => k_is); (case l2 => k_is); (case c2 => k_is); (case k2 => k_is); (case a3 => k_is); (case l3 => k_is); (case c3 => k_is); (case k3 => k_is); (case a4 => k_is); (case l4 => k_is); (case c4 => k_is); (case k4 => k_is); (case a5 => k_is); (case l5 => k_is); (case c5 => k_is); (case k5 => k_is); (case a6 => k_is); (case l6 => k_is); (case c6 => k_is); (case k6 => k_is); (case a7 => k_is); (case l7 => k_is); (case c7 => k_is); (case k7 => k_is); (case a8 => k_is); (case l8 => k_is); (case c8 => k_is); (case k8 => k_is); (case a9 => k_is); (case l9 => k_is); (case c9 => k_is); (case k9 => k_is); (case z_enumerate => k_is); (case z_isinstance => k_is); (case z_len => k_is); (case z_list => k_is); (case z_range => k_is); (case z_str => k_is); (case g_SMALL => k_is)
