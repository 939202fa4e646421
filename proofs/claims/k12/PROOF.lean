import PyProof.Rows.All
import HandS.CallSlots
import HandS.Comp
import HandS.Conv
import HandS.Deep
import HandS.Dict
import HandS.Ends
import HandS.ExcOwn
import HandS.Flow
import HandS.ForMost
import HandS.IsInst
import HandS.Iter
import HandS.More
import HandS.NamedTupSort
import HandS.Rev
import HandS.SortInts
import HandS.SortRule
import HandS.TupAny
import HandS.TupLe
import HandS.Wide
import HandS.WordsDict
import HandS.WordsExc
import HandS.Zip
import KE.DataMinMax
import KE.GoesMore
import PySem.Challenge.RW_veiledcircles_k12_links_judged
set_option Elab.async false
set_option linter.all false
set_option maxRecDepth 100000
set_option autoImplicit false
namespace EV
open PySem PySem.Spec PyProof.Rows L2

/-! ### plain values and a plain heap -/
inductive Val where
  | non | bl (b : Bool) | int (i : Int) | str (x : Str) | tup (xs : List Val) | wt (xs : List Val) | ref (n : Nat) | ty (n : String) | wl (xs : List Val)
  deriving Inhabited
inductive Ob where
  | lst (xs : List Val) | dk (kvs : List (Key × Val)) | dt (kvs : List (List Key × Val)) | dz (kvs : List (Key × Val)) (g : L2.HO)
  deriving Inhabited
abbrev AH := List Ob
abbrev Lv := List (Option Val)
structure Exc where
  cls : Str
  fs : List (Str × Val)
abbrev VQ := Val → AH → Prop
abbrev XQ := Exc → AH → Prop
abbrev Den := Lv → AH → VQ → XQ → Prop

/-- a tuple of the written part -/
def SqW (K : PySem.W.Frag) (a : Addr) (xs : List V) : Prop := ∀ H : Hp, SqT K H a xs
def SqWL (K : PySem.W.Frag) (a : Addr) (xs : List V) : Prop := ∀ H : Hp, SqL K H a xs
mutual
def Rep (K : PySem.W.Frag) (r : List Addr) (H : Hp) : Val → V → Prop
  | .non, x => x = .non
  | .bl b, x => x = .bl b
  | .int i, x => x = .int i
  | .str s, x => x = .str s
  | .tup vs, x => ∃ a xs, x = .ref a ∧ H a = some (.tup xs) ∧ Reps K r H vs xs
  | .wt vs, x => ∃ a xs, x = .ref a ∧ SqW K a xs ∧ Reps K r H vs xs
  | .ref n, x => ∃ a, r[n]? = some a ∧ x = .ref a
  | .ty n, x => x = .ty n
  | .wl vs, x => ∃ a xs, x = .ref a ∧ ((∃ o, H a = some (.frz o (.lst xs))) ∨ SqWL K a xs) ∧ Reps K r H vs xs
def Reps (K : PySem.W.Frag) (r : List Addr) (H : Hp) : List Val → List V → Prop
  | [], xs => xs = []
  | v :: vs, xs => ∃ y ys, xs = y :: ys ∧ Rep K r H v y ∧ Reps K r H vs ys
end

def RKV (κ : Type) (K : PySem.W.Frag) (r : List Addr) (H : Hp) (kvs : List (κ × Val)) (xs : List (κ × V)) : Prop :=
  kvs.map (·.1) = xs.map (·.1) ∧ Reps K r H (kvs.map (·.2)) (xs.map (·.2))

def OR (K : PySem.W.Frag) (r : List Addr) (H : Hp) (a : Addr) : Ob → Prop
  | .lst vs => ∃ xs, H a = some (.lst xs) ∧ Reps K r H vs xs
  | .dk kvs => ∃ xs, H a = some (.dK xs) ∧ RKV Key K r H kvs xs
  | .dt kvs => ∃ xs, H a = some (.dT xs) ∧ RKV (List Key) K r H kvs xs
  | .dz kvs g => H a = some g ∧ ∃ o xs, g = .frz o (.dK xs) ∧ RKV Key K r H kvs xs

structure HRel (K : PySem.W.Frag) (r : List Addr) (A : AH) (H : Hp) : Prop where
  len : A.length = r.length
  nd : r.Nodup
  ob : ∀ (n : Nat) (a : Addr) (o : Ob), r[n]? = some a → A[n]? = some o → OR K r H a o

structure Ext (r r' : List Addr) (H H' : Hp) : Prop where
  pre : ∃ l, r' = r ++ l
  keep : ∀ b o, H b = some o → b ∉ r → H' b = some o
  new : ∀ b, b ∈ r' → b ∉ r → H b = none

theorem Ext.refl (r : List Addr) (H : Hp) : Ext r r H H := ⟨⟨[], by simp⟩, fun _ _ h _ => h, fun _ h n => absurd h n⟩
theorem Ext.trans {r r1 r2 : List Addr} {H H1 H2 : Hp} (a : Ext r r1 H H1) (b : Ext r1 r2 H1 H2) : Ext r r2 H H2 := by
  obtain ⟨l1, e1⟩ := a.pre
  obtain ⟨l2, e2⟩ := b.pre
  refine ⟨⟨l1 ++ l2, by rw [e2, e1, List.append_assoc]⟩, fun c o h n => ?_, fun c h n => ?_⟩
  · refine b.keep c o (a.keep c o h n) fun hc => ?_
    have := a.new c hc n
    rw [this] at h; cases h
  · by_cases hc : c ∈ r1
    · exact a.new c hc n
    · have z := b.new c h hc
      cases e : H c with
      | none => rfl
      | some o => rw [a.keep c o e n] at z; cases z

theorem Ext.at {r r' : List Addr} {H H' : Hp} (e : Ext r r' H H') {n : Nat} {a : Addr} (h : r[n]? = some a) : r'[n]? = some a := by
  obtain ⟨l, rfl⟩ := e.pre
  have hl : n < r.length := by
    rcases Nat.lt_or_ge n r.length with q | q
    · exact q
    · rw [List.getElem?_eq_none q] at h; cases h
  rw [List.getElem?_append_left hl]; exact h

section
variable {K : PySem.W.Frag} {r r' : List Addr} {A A' : AH} {H H' : Hp} {a b : Addr}
theorem HRel.has (R : HRel K r A H) (h : a ∈ r) : ∃ (n : Nat) (o : Ob), r[n]? = some a ∧ A[n]? = some o ∧ OR K r H a o := by
  obtain ⟨n, hn, e⟩ := List.mem_iff_getElem.mp h
  have e1 : r[n]? = some a := by rw [List.getElem?_eq_getElem hn, e]
  have hn' : n < A.length := by rw [R.len]; exact hn
  have e2 : A[n]? = some A[n] := List.getElem?_eq_getElem hn'
  exact ⟨n, _, e1, e2, R.ob n a _ e1 e2⟩
theorem OR.notNone {o : Ob} (h : OR K r H a o) : H a ≠ none := by
  cases o with
  | lst vs => obtain ⟨xs, e, _⟩ := h; rw [e]; exact fun z => nomatch z
  | dk vs => obtain ⟨xs, e, _⟩ := h; rw [e]; exact fun z => nomatch z
  | dt vs => obtain ⟨xs, e, _⟩ := h; rw [e]; exact fun z => nomatch z
  | dz vs g => obtain ⟨e, _⟩ := h; rw [e]; exact fun z => nomatch z
theorem OR.notTup {o : Ob} {xs : List V} (h : OR K r H a o) : ¬ Rd H a (.tup xs) := by
  rintro (q | ⟨_, q⟩)
  all_goals
    cases o with
    | lst vs => obtain ⟨xs, e, _⟩ := h; rw [e] at q; cases q
    | dk vs => obtain ⟨xs, e, _⟩ := h; rw [e] at q; cases q
    | dt vs => obtain ⟨xs, e, _⟩ := h; rw [e] at q; cases q
    | dz vs g => obtain ⟨e, o', xs', eg, _⟩ := h; rw [eg] at e; rw [e] at q; cases q
theorem HRel.notFrz (R : HRel K r A H) {o : Obj} {u : List V} (h : H a = some (.frz o (.lst u))) : a ∉ r := fun hm => by
  obtain ⟨_, ob, _, _, q⟩ := R.has hm
  cases ob with
  | lst vs => obtain ⟨xs, e, _⟩ := q; rw [e] at h; cases h
  | dk vs => obtain ⟨xs, e, _⟩ := q; rw [e] at h; cases h
  | dt vs => obtain ⟨xs, e, _⟩ := q; rw [e] at h; cases h
  | dz vs g => obtain ⟨e, o', xs', eg, _⟩ := q; rw [eg] at e; rw [e] at h; cases h
theorem HRel.notTup (R : HRel K r A H) {xs : List V} (h : Rd H a (.tup xs)) : a ∉ r := fun hm => by
  obtain ⟨_, o, _, _, q⟩ := R.has hm
  exact q.notTup h
theorem HRel.fresh (R : HRel K r A H) (h : H a = none) : a ∉ r := fun hm => by
  obtain ⟨_, o, _, _, q⟩ := R.has hm
  exact q.notNone h
theorem HRel.sqT (R : HRel K r A H) (E : Ext r r' H H') {xs : List V} (h : SqT K H a xs) : SqT K H' a xs := by
  rcases h with h | h
  · have n := R.notTup h
    rcases h with h | ⟨o, h⟩
    · exact .inl (.inl (E.keep a _ h n))
    · exact .inl (.inr ⟨o, E.keep a _ h n⟩)
  · exact .inr h
mutual
theorem Rep.ext (R : HRel K r A H) (E : Ext r r' H H') : ∀ (v : Val) (x : V), Rep K r H v x → Rep K r' H' v x
  | .non, _, h => by simpa only [Rep] using h
  | .bl _, _, h => by simpa only [Rep] using h
  | .int _, _, h => by simpa only [Rep] using h
  | .str _, _, h => by simpa only [Rep] using h
  | .tup vs, _, h => by
    simp only [Rep] at h ⊢
    obtain ⟨a, xs, e, s, q⟩ := h
    exact ⟨a, xs, e, E.keep a _ s (R.notTup (.inl s)), Reps.ext R E vs xs q⟩
  | .wt vs, _, h => by
    simp only [Rep] at h ⊢
    obtain ⟨a, xs, e, s, q⟩ := h
    exact ⟨a, xs, e, s, Reps.ext R E vs xs q⟩
  | .ref n, _, h => by
    simp only [Rep] at h ⊢
    obtain ⟨a, e, q⟩ := h
    exact ⟨a, E.at e, q⟩
  | .ty _, _, h => by simpa only [Rep] using h
  | .wl vs, _, h => by
    simp only [Rep] at h ⊢
    obtain ⟨a, xs, e, s, q⟩ := h
    refine ⟨a, xs, e, ?_, Reps.ext R E vs xs q⟩
    rcases s with ⟨o, s⟩ | s
    · exact .inl ⟨o, E.keep a _ s (R.notFrz s)⟩
    · exact .inr s
theorem Reps.ext (R : HRel K r A H) (E : Ext r r' H H') : ∀ (vs : List Val) (xs : List V), Reps K r H vs xs → Reps K r' H' vs xs
  | [], _, h => by simpa only [Reps] using h
  | v :: vs, _, h => by
    simp only [Reps] at h ⊢
    obtain ⟨y, ys, e, q1, q2⟩ := h
    exact ⟨y, ys, e, Rep.ext R E v y q1, Reps.ext R E vs ys q2⟩
end
theorem Reps.nil_iff {xs : List V} : Reps K r H [] xs ↔ xs = [] := by simp only [Reps]
theorem Reps.cons_iff {v : Val} {vs : List Val} {xs : List V} : Reps K r H (v :: vs) xs ↔ ∃ y ys, xs = y :: ys ∧ Rep K r H v y ∧ Reps K r H vs ys := by simp only [Reps]
theorem Reps.length : ∀ {vs : List Val} {xs : List V}, Reps K r H vs xs → vs.length = xs.length
  | [], _, h => by rw [Reps.nil_iff] at h; subst h; rfl
  | v :: vs, _, h => by
    obtain ⟨y, ys, rfl, _, q⟩ := Reps.cons_iff.mp h
    simp [Reps.length q]
theorem Reps.get : ∀ {vs : List Val} {xs : List V} {i : Nat} {v : Val}, Reps K r H vs xs → vs[i]? = some v → ∃ x, xs[i]? = some x ∧ Rep K r H v x
  | [], _, _, _, _, e => by simp at e
  | v :: vs, _, 0, _, h, e => by
    obtain ⟨y, ys, rfl, q1, q⟩ := Reps.cons_iff.mp h
    simp at e; subst e
    exact ⟨y, by simp, q1⟩
  | v :: vs, _, i + 1, w, h, e => by
    obtain ⟨y, ys, rfl, _, q⟩ := Reps.cons_iff.mp h
    simp at e
    obtain ⟨x, e', h'⟩ := Reps.get q e
    exact ⟨x, by simpa using e', h'⟩
theorem Reps.get' : ∀ {vs : List Val} {xs : List V} {i : Nat} {x : V}, Reps K r H vs xs → xs[i]? = some x → ∃ v, vs[i]? = some v ∧ Rep K r H v x := fun {vs xs i x} h e => by
  have hl := h.length
  have hi : i < xs.length := by
    rcases Nat.lt_or_ge i xs.length with q | q
    · exact q
    · rw [List.getElem?_eq_none q] at e; cases e
  have hi' : i < vs.length := by omega
  obtain ⟨y, e1, h1⟩ := h.get (List.getElem?_eq_getElem hi')
  rw [e] at e1; cases e1
  exact ⟨_, List.getElem?_eq_getElem hi', h1⟩
theorem Reps.set : ∀ {vs : List Val} {xs : List V} (i : Nat) {v : Val} {x : V}, Reps K r H vs xs → Rep K r H v x → Reps K r H (vs.set i v) (xs.set i x)
  | [], _, _, _, _, h, _ => by rw [Reps.nil_iff] at h; subst h; simp [Reps]
  | w :: vs, _, 0, _, _, h, q => by
    obtain ⟨y, ys, rfl, q1, q2⟩ := Reps.cons_iff.mp h
    exact Reps.cons_iff.mpr ⟨_, _, rfl, q, q2⟩
  | w :: vs, _, i + 1, _, _, h, q => by
    obtain ⟨y, ys, rfl, q1, q2⟩ := Reps.cons_iff.mp h
    exact Reps.cons_iff.mpr ⟨_, _, rfl, q1, Reps.set i q2 q⟩
theorem Reps.append : ∀ {vs ws : List Val} {xs ys : List V}, Reps K r H vs xs → Reps K r H ws ys → Reps K r H (vs ++ ws) (xs ++ ys)
  | [], _, _, _, h, q => by rw [Reps.nil_iff] at h; subst h; exact q
  | w :: vs, _, _, _, h, q => by
    obtain ⟨y, ys, rfl, q1, q2⟩ := Reps.cons_iff.mp h
    exact Reps.cons_iff.mpr ⟨_, _, rfl, q1, Reps.append q2 q⟩
theorem Reps.take : ∀ {vs : List Val} {xs : List V} (n : Nat), Reps K r H vs xs → Reps K r H (vs.take n) (xs.take n)
  | _, _, 0, _ => by simp [Reps]
  | [], _, n + 1, h => by rw [Reps.nil_iff] at h; subst h; simp [Reps]
  | w :: vs, _, n + 1, h => by
    obtain ⟨y, ys, rfl, q1, q2⟩ := Reps.cons_iff.mp h
    exact Reps.cons_iff.mpr ⟨_, _, rfl, q1, Reps.take n q2⟩
theorem Reps.drop : ∀ {vs : List Val} {xs : List V} (n : Nat), Reps K r H vs xs → Reps K r H (vs.drop n) (xs.drop n)
  | _, _, 0, h => h
  | [], _, n + 1, h => by rw [Reps.nil_iff] at h; subst h; simp [Reps]
  | w :: vs, _, n + 1, h => by
    obtain ⟨y, ys, rfl, q1, q2⟩ := Reps.cons_iff.mp h
    exact Reps.drop n q2
theorem Reps.reverse : ∀ {vs : List Val} {xs : List V}, Reps K r H vs xs → Reps K r H vs.reverse xs.reverse
  | [], _, h => by rw [Reps.nil_iff] at h; subst h; simp [Reps]
  | w :: vs, _, h => by
    obtain ⟨y, ys, rfl, q1, q2⟩ := Reps.cons_iff.mp h
    rw [List.reverse_cons, List.reverse_cons]
    exact Reps.append (Reps.reverse q2) (Reps.cons_iff.mpr ⟨_, _, rfl, q1, Reps.nil_iff.mpr rfl⟩)
theorem RKV.ext {κ : Type} (R : HRel K r A H) (E : Ext r r' H H') {kvs : List (κ × Val)} {xs : List (κ × V)} (h : RKV κ K r H kvs xs) : RKV κ K r' H' kvs xs := ⟨h.1, Reps.ext R E _ _ h.2⟩
/-- an object that stays where it is -/
theorem OR.ext (R : HRel K r A H) (E : Ext r r' H H') {o : Ob} (h : OR K r H a o) (k : H' a = H a) : OR K r' H' a o := by
  cases o with
  | lst vs => obtain ⟨xs, e, q⟩ := h; exact ⟨xs, k.trans e, Reps.ext R E _ _ q⟩
  | dk vs => obtain ⟨xs, e, q⟩ := h; exact ⟨xs, k.trans e, q.ext R E⟩
  | dt vs => obtain ⟨xs, e, q⟩ := h; exact ⟨xs, k.trans e, q.ext R E⟩
  | dz vs g => obtain ⟨e, o', xs, eg, q⟩ := h; exact ⟨k.trans e, o', xs, eg, q.ext R E⟩

/-- a new untracked thing (a tuple) -/
theorem ext_new {ho : HO} (h : H a = none) : Ext r r H (upd H a ho) :=
  ⟨⟨[], by simp⟩, fun b o e _ => by rw [upd_ne (ne_of_none e h)]; exact e, fun _ h n => absurd h n⟩
theorem HRel.newT {ho : HO} (R : HRel K r A H) (h : H a = none) : HRel K r A (upd H a ho) :=
  ⟨R.len, R.nd, fun n b o e1 e2 => by
    have q := R.ob n b o e1 e2
    refine q.ext R (ext_new h) ?_
    exact upd_ne fun e => q.notNone (by rw [e]; exact h)⟩
/-- a new object -/
theorem ext_alloc {ho : HO} (h : H a = none) (hr : a ∉ r) : Ext r (r ++ [a]) H (upd H a ho) :=
  ⟨⟨[a], rfl⟩, fun b o e _ => by rw [upd_ne (ne_of_none e h)]; exact e, fun b hb n => by
    rcases List.mem_append.mp hb with q | q
    · exact absurd q n
    · rw [List.mem_singleton] at q; rw [q]; exact h⟩
theorem HRel.alloc {ho : HO} {o : Ob} (R : HRel K r A H) (h : H a = none) (q : OR K (r ++ [a]) (upd H a ho) a o) : HRel K (r ++ [a]) (A ++ [o]) (upd H a ho) := by
  have hr := R.fresh h
  refine ⟨by simp [R.len], ?_, fun n b u e1 e2 => ?_⟩
  · rw [List.nodup_append]
    exact ⟨R.nd, by simp, fun x hx y hy e => by rw [List.mem_singleton] at hy; subst hy; subst e; exact hr hx⟩
  · by_cases hn : n < r.length
    · rw [List.getElem?_append_left hn] at e1
      rw [List.getElem?_append_left (by rw [R.len]; exact hn)] at e2
      have q' := R.ob n b u e1 e2
      refine q'.ext R (ext_alloc h hr) ?_
      exact upd_ne fun e => q'.notNone (by rw [e]; exact h)
    · have hn' : n = r.length := by
        rcases Nat.lt_or_ge r.length n with z | z
        · rw [List.getElem?_eq_none (by simp; omega)] at e1; cases e1
        · omega
      subst hn'
      rw [List.getElem?_append_right (Nat.le_refl _)] at e1
      rw [List.getElem?_append_right (by rw [R.len]; exact Nat.le_refl _)] at e2
      simp at e1
      simp [R.len] at e2
      subst e1; subst e2; exact q
/-- an object written -/
theorem ext_write {ho : HO} (hm : a ∈ r) : Ext r r H (upd H a ho) :=
  ⟨⟨[], by simp⟩, fun b o e n => by rw [upd_ne (show b ≠ a from fun z => n (by rw [z]; exact hm))]; exact e, fun _ h n => absurd h n⟩
theorem HRel.write {ho : HO} {o : Ob} {n : Nat} (R : HRel K r A H) (h : r[n]? = some a) (q : OR K r (upd H a ho) a o) : HRel K r (A.set n o) (upd H a ho) := by
  have hm : a ∈ r := List.mem_of_getElem? h
  refine ⟨by simp [R.len], R.nd, fun m b u e1 e2 => ?_⟩
  by_cases hmn : m = n
  · subst hmn
    rw [h] at e1; cases e1
    have hl : m < A.length := by
      rw [R.len]
      rcases Nat.lt_or_ge m r.length with q | q
      · exact q
      · rw [List.getElem?_eq_none q] at h; cases h
    rw [List.getElem?_set_self hl] at e2
    cases e2; exact q
  · rw [List.getElem?_set_ne (fun z => hmn z.symm)] at e2
    have q' := R.ob m b u e1 e2
    refine q'.ext R (ext_write hm) ?_
    refine upd_ne fun e => hmn ?_
    subst e
    have h1 : m < r.length := by
      rcases Nat.lt_or_ge m r.length with q | q
      · exact q
      · rw [List.getElem?_eq_none q] at e1; cases e1
    exact (List.getElem?_inj h1 R.nd).mp (by rw [e1, h])
end
theorem Rep.tupS {K : PySem.W.Frag} {r : List Addr} {H : Hp} {v : Val} {vs : List Val} {x : V} (h : Rep K r H v x) (e : v = .tup vs ∨ v = .wt vs) : ∃ a xs, x = .ref a ∧ SqT K H a xs ∧ Reps K r H vs xs := by
  rcases e with rfl | rfl
  · simp only [Rep] at h
    obtain ⟨a, xs, e, s, q⟩ := h
    exact ⟨a, xs, e, SqT.of s, q⟩
  · simp only [Rep] at h
    obtain ⟨a, xs, e, s, q⟩ := h
    exact ⟨a, xs, e, s H, q⟩
/-- the frame's slots -/
structure SRel (K : PySem.W.Frag) (r : List Addr) (H : Hp) (t : Lv) (s : L2.St) : Prop where
  len : t.length = s.length
  at' : ∀ (i : Nat) (v : Val), t[i]? = some (some v) → ∃ x, s[i]? = some (some x) ∧ Rep K r H v x
theorem SRel.ext {K : PySem.W.Frag} {r r' : List Addr} {A : AH} {H H' : Hp} {t : Lv} {s : L2.St} (R : HRel K r A H) (E : Ext r r' H H') (h : SRel K r H t s) : SRel K r' H' t s :=
  ⟨h.len, fun i v e => let ⟨x, e', q⟩ := h.at' i v e; ⟨x, e', Rep.ext R E v x q⟩⟩
theorem SRel.set {K : PySem.W.Frag} {r : List Addr} {H : Hp} {t : Lv} {s : L2.St} (h : SRel K r H t s) (i : Nat) {v : Val} {x : V} (q : Rep K r H v x) : SRel K r H (t.set i (some v)) (s.set i (some x)) := by
  refine ⟨by simp [h.len], fun j w e => ?_⟩
  by_cases hj : i = j
  · subst hj
    have hi : i < t.length := by
      rcases Nat.lt_or_ge i t.length with z | z
      · exact z
      · rw [List.getElem?_eq_none (by simp; exact z)] at e; cases e
    rw [List.getElem?_set_self hi] at e
    rw [List.getElem?_set_self (by rw [← h.len]; exact hi)]
    cases e
    exact ⟨x, rfl, q⟩
  · rw [List.getElem?_set_ne hj] at e
    rw [List.getElem?_set_ne hj]
    exact h.at' j w e
end EV

namespace EV
open PySem PySem.Spec PyProof.Rows L2

structure Gc where
  K : PySem.W.Frag
  cn : Str → Value → Prop
def ExR (G : Gc) (r : List Addr) (H : Hp) (e : Exc) (c : Value) (d : Option Addr) : Prop :=
  G.cn e.cls c ∧ (e.fs = [] ∨ ∃ dx xs, d = some dx ∧ H dx = some (.xd xs) ∧ RKV Str G.K r H e.fs xs)

abbrev DenT := Lv → AH → (Bool → AH → Prop) → XQ → Prop
abbrev DenA := Lv → AH → (List Val → AH → Prop) → XQ → Prop
structure EndsA where
  nx : Lv → AH → Prop
  rt : VQ
  bk : Lv → AH → Prop
  ct : Lv → AH → Prop
  ex : Exc → Lv → AH → Prop
abbrev DenS := Lv → AH → EndsA → Prop
abbrev FDen := List Val → AH → VQ → XQ → Prop

def Mono (d : Den) : Prop := ∀ t A Q Q' E E', (∀ v A', Q v A' → Q' v A') → (∀ e A', E e A' → E' e A') → d t A Q E → d t A Q' E'
def MonoT (d : DenT) : Prop := ∀ t A Q Q' E E', (∀ v A', Q v A' → Q' v A') → (∀ e A', E e A' → E' e A') → d t A Q E → d t A Q' E'
def MonoA (d : DenA) : Prop := ∀ t A Q Q' E E', (∀ v A', Q v A' → Q' v A') → (∀ e A', E e A' → E' e A') → d t A Q E → d t A Q' E'
def MonoF (f : FDen) : Prop := ∀ a A Q Q' E E', (∀ v A', Q v A' → Q' v A') → (∀ e A', E e A' → E' e A') → f a A Q E → f a A Q' E'
structure EndsA.Le (D D' : EndsA) : Prop where
  nx : ∀ t A, D.nx t A → D'.nx t A
  rt : ∀ v A, D.rt v A → D'.rt v A
  bk : ∀ t A, D.bk t A → D'.bk t A
  ct : ∀ t A, D.ct t A → D'.ct t A
  ex : ∀ e t A, D.ex e t A → D'.ex e t A
def MonoS (d : DenS) : Prop := ∀ t A D D', EndsA.Le D D' → d t A D → d t A D'
theorem EndsA.Le.refl (D : EndsA) : EndsA.Le D D := ⟨fun _ _ h => h, fun _ _ h => h, fun _ _ h => h, fun _ _ h => h, fun _ _ _ h => h⟩

section
variable (G : Gc) (r : List Addr) (H : Hp)
def kv (Q : VK) : VQ := fun v A' => ∀ r' H' x, Ext r r' H H' → HRel G.K r' A' H' → Rep G.K r' H' v x → Q x H'
def kb (Q : Bool → Hp → Prop) : Bool → AH → Prop := fun b A' => ∀ r' H', Ext r r' H H' → HRel G.K r' A' H' → Q b H'
def kl (Q : List V → Hp → Prop) : List Val → AH → Prop := fun vs A' => ∀ r' H' xs, Ext r r' H H' → HRel G.K r' A' H' → Reps G.K r' H' vs xs → Q xs H'
def kx (s : L2.St) (W : WX) : XQ := fun e A' => ∀ r' H' c d, Ext r r' H H' → HRel G.K r' A' H' → ExR G r' H' e c d → W c d s H'
def kn (Q : L2.St → Hp → Prop) : Lv → AH → Prop := fun t A' => ∀ r' H' s', Ext r r' H H' → HRel G.K r' A' H' → SRel G.K r' H' t s' → Q s' H'
def kxs (W : WX) : Exc → Lv → AH → Prop := fun e t A' => ∀ r' H' s' c d, Ext r r' H H' → HRel G.K r' A' H' → SRel G.K r' H' t s' → ExR G r' H' e c d → W c d s' H'
def kf (E : XK) : XQ := fun e A' => ∀ r' H' c d, Ext r r' H H' → HRel G.K r' A' H' → ExR G r' H' e c d → E c d H'
end
section
variable {G : Gc} {r r1 : List Addr} {H H1 : Hp} {A' : AH}
theorem kv_up {Q : VK} {v : Val} (E : Ext r r1 H H1) (h : kv G r H Q v A') : kv G r1 H1 Q v A' := fun r' H' x E' => h r' H' x (E.trans E')
theorem kb_up {Q : Bool → Hp → Prop} {v : Bool} (E : Ext r r1 H H1) (h : kb G r H Q v A') : kb G r1 H1 Q v A' := fun r' H' E' => h r' H' (E.trans E')
theorem kl_up {Q : List V → Hp → Prop} {v : List Val} (E : Ext r r1 H H1) (h : kl G r H Q v A') : kl G r1 H1 Q v A' := fun r' H' x E' => h r' H' x (E.trans E')
theorem kx_up {s : L2.St} {W : WX} {e : Exc} (E : Ext r r1 H H1) (h : kx G r H s W e A') : kx G r1 H1 s W e A' := fun r' H' c d E' => h r' H' c d (E.trans E')
theorem kn_up {Q : L2.St → Hp → Prop} {t : Lv} (E : Ext r r1 H H1) (h : kn G r H Q t A') : kn G r1 H1 Q t A' := fun r' H' s' E' => h r' H' s' (E.trans E')
theorem kxs_up {W : WX} {e : Exc} {t : Lv} (E : Ext r r1 H H1) (h : kxs G r H W e t A') : kxs G r1 H1 W e t A' := fun r' H' s' c d E' => h r' H' s' c d (E.trans E')
end

/-! ### the judgements -/
section
variable (G : Gc) (W : WX)
def TEW (d : Den) : TE := fun s H Q => ∃ r A t, HRel G.K r A H ∧ SRel G.K r H t s ∧ d t A (kv G r H Q) (kx G r H s W)
def TTW (d : DenT) : TT := fun s H Q => ∃ r A t, HRel G.K r A H ∧ SRel G.K r H t s ∧ d t A (kb G r H Q) (kx G r H s W)
def TAW (d : DenA) : TA := fun s H Q => ∃ r A t, HRel G.K r A H ∧ SRel G.K r H t s ∧ d t A (kl G r H Q) (kx G r H s W)
def ends (r : List Addr) (H : Hp) (D : Ends) : EndsA := ⟨kn G r H D.nx, kv G r H D.rt, kn G r H D.bk, kn G r H D.ct, kxs G r H W⟩
def TSW (d : DenS) : TS := fun D s H => ∃ r A t, HRel G.K r A H ∧ SRel G.K r H t s ∧ d t A (ends G W r H D)
end
section
variable (G : Gc) (X : Cx)
def SE (e : Expr) (d : Den) : Prop := ∀ W, Takes X W → PE X e (TEW G W d)
def ST (e : Expr) (d : DenT) : Prop := ∀ W, Takes X W → PT X e (TTW G W d)
def SA (es : List Expr) (d : DenA) : Prop := ∀ W, Takes X W → PA X es (TAW G W d)
def SS (st : Stmt) (d : DenS) : Prop := ∀ W, Takes X W → PS X st (TSW G W d)
def SSs (st : List Stmt) (d : DenS) : Prop := ∀ W, Takes X W → PSs X st (TSW G W d)
end
theorem _root_.L2.PE.wk {X : Cx} {e : Expr} {t t' : TE} (h : PE X e t) (w : ∀ s H Q, t' s H Q → t s H Q) : PE X e t' := ⟨fun pins s σ H Q I q => h.run pins s σ H Q I (w _ _ _ q)⟩
theorem _root_.L2.PT.wk {X : Cx} {e : Expr} {t t' : TT} (h : PT X e t) (w : ∀ s H Q, t' s H Q → t s H Q) : PT X e t' := ⟨fun pins s σ H Q I q => h.run pins s σ H Q I (w _ _ _ q)⟩
theorem _root_.L2.PA.wk {X : Cx} {e : List Expr} {t t' : TA} (h : PA X e t) (w : ∀ s H Q, t' s H Q → t s H Q) : PA X e t' := ⟨fun pos pins s σ H Q I q => h.run pos pins s σ H Q I (w _ _ _ q)⟩
theorem _root_.L2.PS.wk {X : Cx} {e : Stmt} {t t' : TS} (h : PS X e t) (w : ∀ D s H, t' D s H → t D s H) : PS X e t' := ⟨fun pins s σ H D I q => h.run pins s σ H D I (w _ _ _ q)⟩
theorem _root_.L2.PSs.wk {X : Cx} {e : List Stmt} {t t' : TS} (h : PSs X e t) (w : ∀ D s H, t' D s H → t D s H) : PSs X e t' := ⟨fun pins s σ H D I q => h.run pins s σ H D I (w _ _ _ q)⟩

/-! ### expressions -/
def dVar (i : Nat) : Den := fun t A Q _ => ∃ v, t[i]? = some (some v) ∧ Q v A
def dLit (v : Val) : Den := fun _ A Q _ => Q v A
abbrev Op2 := Val → Val → AH → VQ → Prop
abbrev Op1 := Val → AH → VQ → Prop
abbrev OpN := List Val → AH → VQ → Prop
def dOp (o : Op2) (da db : Den) : Den := fun t A Q E => da t A (fun x A1 => db t A1 (fun y A2 => o x y A2 Q) E) E
def dUn (o : Op1) (da : Den) : Den := fun t A Q E => da t A (fun x A1 => o x A1 Q) E
def aNil : DenA := fun _ A Q _ => Q [] A
def aCons (d : Den) (r : DenA) : DenA := fun t A Q E => d t A (fun x A1 => r t A1 (fun xs A2 => Q (x :: xs) A2) E) E
def dTup (d : DenA) : Den := fun t A Q E => d t A (fun xs A1 => Q (.tup xs) A1) E
def dLst (d : DenA) : Den := fun t A Q E => d t A (fun xs A1 => Q (.ref A1.length) (A1 ++ [.lst xs])) E
def dCB (o : OpN) (d : DenA) : Den := fun t A Q E => d t A (fun xs A1 => o xs A1 Q) E
def dMe (o : Val → OpN) (ty : Val → AH → Prop) (d : Den) (a : DenA) : Den := fun t A Q E => d t A (fun x A1 => ty x A1 ∧ a t A1 (fun xs A2 => o x xs A2 Q) E) E
def dCall (f : FDen) (d : DenA) : Den := fun t A Q E => d t A (fun xs A1 => f xs A1 Q E) E
def dIf (c : DenT) (a b : Den) : Den := fun t A Q E => c t A (fun k A1 => if k = true then a t A1 Q E else b t A1 Q E) E
/-- tests -/
def tVal (d : Den) : DenT := fun t A Q E => d t A (fun v A1 => ∃ k, v = .bl k ∧ Q k A1) E
def tNot (d : DenT) : DenT := fun t A Q E => d t A (fun k A1 => Q (!k) A1) E
def tAnd (a b : DenT) : DenT := fun t A Q E => a t A (fun k A1 => if k = true then b t A1 Q E else Q false A1) E
def tOr (a b : DenT) : DenT := fun t A Q E => a t A (fun k A1 => if k = true then Q true A1 else b t A1 Q E) E
def truB (A : AH) : Val → Option Bool
  | .non => some false
  | .bl b => some b
  | .int i => some (i != 0)
  | .str y => if y.length ≤ sizeLine then some ((y.length : Int) != 0) else none
  | .tup xs => some (!xs.isEmpty)
  | .wt xs => some (!xs.isEmpty)
  | .ref n => match A[n]? with
    | some (.lst xs) => some (!xs.isEmpty)
    | some (.dk kvs) => some (!kvs.isEmpty)
    | _ => none
  | .ty _ => none
  | .wl _ => none
def tru (v : Val) (A : AH) (Q : Bool → AH → Prop) : Prop := ∃ k, truB A v = some k ∧ Q k A
def tTru (d : Den) : DenT := fun t A Q E => d t A (fun v A1 => tru v A1 Q) E

def OMono (o : Op2) : Prop := ∀ x y A Q Q', (∀ v A', Q v A' → Q' v A') → o x y A Q → o x y A Q'
def UMono (o : Op1) : Prop := ∀ x A Q Q', (∀ v A', Q v A' → Q' v A') → o x A Q → o x A Q'
def NMono (o : OpN) : Prop := ∀ x A Q Q', (∀ v A', Q v A' → Q' v A') → o x A Q → o x A Q'
structure OpS (G : Gc) (o : Op2) (rr : R2) : Prop where
  mono : OMono o
  sim : ∀ r A H v w x y Q, HRel G.K r A H → Rep G.K r H v x → Rep G.K r H w y → o v w A (kv G r H Q) → rr x y H Q
structure UnS (G : Gc) (o : Op1) (rr : V → Hp → VK → Prop) : Prop where
  mono : UMono o
  sim : ∀ r A H v x Q, HRel G.K r A H → Rep G.K r H v x → o v A (kv G r H Q) → rr x H Q
structure CbS (G : Gc) (o : OpN) (rr : List V → Hp → VK → Prop) : Prop where
  mono : NMono o
  sim : ∀ r A H vs xs Q, HRel G.K r A H → Reps G.K r H vs xs → o vs A (kv G r H Q) → rr xs H Q
structure MeS (G : Gc) (o : Val → OpN) (rr : V → List V → Hp → VK → Prop) : Prop where
  mono : ∀ v, NMono (o v)
  sim : ∀ r A H v x vs xs Q, HRel G.K r A H → Rep G.K r H v x → Reps G.K r H vs xs → o v vs A (kv G r H Q) → rr x xs H Q

section
variable {da db dc : Den} {ta tb : DenT} {aa : DenA}
theorem mono_var (i : Nat) : Mono (dVar i) := fun t A Q Q' E E' h _ ⟨v, e, q⟩ => ⟨v, e, h _ _ q⟩
theorem mono_lit (v : Val) : Mono (dLit v) := fun t A Q Q' E E' h _ q => h _ _ q
theorem mono_op {o : Op2} (mo : OMono o) (ma : Mono da) (mb : Mono db) : Mono (dOp o da db) := fun t A Q Q' E E' h k q =>
  ma _ _ _ _ _ _ (fun x A1 q1 => mb _ _ _ _ _ _ (fun y A2 q2 => mo _ _ _ _ _ h q2) k q1) k q
theorem mono_un {o : Op1} (mo : UMono o) (ma : Mono da) : Mono (dUn o da) := fun t A Q Q' E E' h k q =>
  ma _ _ _ _ _ _ (fun x A1 q1 => mo _ _ _ _ h q1) k q
theorem mono_nil : MonoA aNil := fun t A Q Q' E E' h _ q => h _ _ q
theorem mono_cons (ma : Mono da) (mr : MonoA aa) : MonoA (aCons da aa) := fun t A Q Q' E E' h k q =>
  ma _ _ _ _ _ _ (fun x A1 q1 => mr _ _ _ _ _ _ (fun y A2 q2 => h _ _ q2) k q1) k q
theorem mono_tup (ma : MonoA aa) : Mono (dTup aa) := fun t A Q Q' E E' h k q => ma _ _ _ _ _ _ (fun x A1 q1 => h _ _ q1) k q
theorem mono_lst (ma : MonoA aa) : Mono (dLst aa) := fun t A Q Q' E E' h k q => ma _ _ _ _ _ _ (fun x A1 q1 => h _ _ q1) k q
theorem mono_cb {o : OpN} (mo : NMono o) (ma : MonoA aa) : Mono (dCB o aa) := fun t A Q Q' E E' h k q => ma _ _ _ _ _ _ (fun x A1 q1 => mo _ _ _ _ h q1) k q
theorem mono_me {o : Val → OpN} {ty : Val → AH → Prop} (mo : ∀ v, NMono (o v)) (ma : Mono da) (mr : MonoA aa) : Mono (dMe o ty da aa) := fun t A Q Q' E E' h k q =>
  ma _ _ _ _ _ _ (fun x A1 q1 => ⟨q1.1, mr _ _ _ _ _ _ (fun xs A2 q2 => mo _ _ _ _ _ h q2) k q1.2⟩) k q
theorem mono_call {f : FDen} (mf : MonoF f) (ma : MonoA aa) : Mono (dCall f aa) := fun t A Q Q' E E' h k q => ma _ _ _ _ _ _ (fun x A1 q1 => mf _ _ _ _ _ _ h k q1) k q
theorem mono_if (mt : MonoT ta) (ma : Mono da) (mb : Mono db) : Mono (dIf ta da db) := fun t A Q Q' E E' h k q => mt _ _ _ _ _ _ (fun b A1 q1 => by
  cases b with
  | true => rw [if_pos rfl] at q1 ⊢; exact ma _ _ _ _ _ _ h k q1
  | false => rw [if_neg Bool.false_ne_true] at q1 ⊢; exact mb _ _ _ _ _ _ h k q1) k q
theorem mono_tval (ma : Mono da) : MonoT (tVal da) := fun t A Q Q' E E' h k q => ma _ _ _ _ _ _ (fun x A1 ⟨b, e, q1⟩ => ⟨b, e, h _ _ q1⟩) k q
theorem mono_tnot (ma : MonoT ta) : MonoT (EV.tNot ta) := fun t A Q Q' E E' h k q => ma _ _ _ _ _ _ (fun x A1 q1 => h _ _ q1) k q
theorem mono_tand (ma : MonoT ta) (mb : MonoT tb) : MonoT (EV.tAnd ta tb) := fun t A Q Q' E E' h k q => ma _ _ _ _ _ _ (fun b A1 q1 => by
  cases b with
  | true => rw [if_pos rfl] at q1 ⊢; exact mb _ _ _ _ _ _ h k q1
  | false => rw [if_neg Bool.false_ne_true] at q1 ⊢; exact h _ _ q1) k q
theorem mono_tor (ma : MonoT ta) (mb : MonoT tb) : MonoT (EV.tOr ta tb) := fun t A Q Q' E E' h k q => ma _ _ _ _ _ _ (fun b A1 q1 => by
  cases b with
  | true => rw [if_pos rfl] at q1 ⊢; exact h _ _ q1
  | false => rw [if_neg Bool.false_ne_true] at q1 ⊢; exact mb _ _ _ _ _ _ h k q1) k q
theorem mono_tru {v : Val} {A : AH} {Q Q' : Bool → AH → Prop} (h : ∀ b A', Q b A' → Q' b A') (q : tru v A Q) : tru v A Q' := let ⟨k, e, z⟩ := q; ⟨k, e, h _ _ z⟩
theorem mono_ttru (ma : Mono da) : MonoT (tTru da) := fun t A Q Q' E E' h k q => ma _ _ _ _ _ _ (fun x A1 q1 => mono_tru h q1) k q
end

section
variable {G : Gc} {X : Cx} {W : WX} {a b c : Expr} {es : List Expr} {da db dc : Den} {ta tb : DenT} {aa : DenA} {pos : Pos}
theorem se_var {i : Nat} {x : Str} (hN : X.N[i]? = some x) (hv : Vis X.env.scope x) (hd : (x == ("__debug__" : Str)) = false) (hcd : (x == ("__classdict__" : Str)) = false) : SE G X (.Name x pos) (dVar i) := fun W tk =>
  (pe_var hN hv hd hcd).wk fun s H Q ⟨r, A, t, R, S, v, e, q⟩ => by
    obtain ⟨x, ex, p⟩ := S.at' i v e
    exact ⟨x, ex, q r H x (Ext.refl r H) R p⟩
theorem se_lit {v : Val} {x : V} (h : PE X a (tC x)) (p : ∀ r H, Rep G.K r H v x) : SE G X a (dLit v) := fun W tk =>
  h.wk fun s H Q ⟨r, A, t, R, S, q⟩ => q r H x (Ext.refl r H) R (p r H)
theorem op_red {o : Op2} {rr : R2} (hs : OpS G o rr) (ma : Mono da) (mb : Mono db) {s : L2.St} {H : Hp} {Q : VK} (h : TEW G W (dOp o da db) s H Q) : tOp rr (TEW G W da) (TEW G W db) s H Q := by
  obtain ⟨r, A, t, R, S, h⟩ := h
  refine ⟨r, A, t, R, S, ma _ _ _ _ _ _ (fun x A1 h1 r1 H1 xv E1 R1 p1 => ?_) (fun _ _ h => h) h⟩
  refine ⟨r1, A1, t, R1, S.ext R E1, mb _ _ _ _ _ _ (fun y A2 h2 r2 H2 yv E2 R2 p2 => ?_) (fun e A' h => kx_up E1 h) h1⟩
  exact hs.sim r2 A2 H2 x y xv yv Q R2 (Rep.ext R1 E2 x xv p1) p2 (hs.mono _ _ _ _ _ (fun v A' h => kv_up (E1.trans E2) h) h2)
theorem se_op {op : Operator} {o : Op2} {rr : R2} (ho : OpR X (binaryOp op) rr) (hs : OpS G o rr) (ma : Mono da) (mb : Mono db) (ha : SE G X a da) (hb : SE G X b db) : SE G X (.BinOp a op b pos) (dOp o da db) := fun W tk =>
  (pe_op ho (ha W tk) (hb W tk)).wk fun s H Q h => op_red hs ma mb h
theorem se_cmp {op : CmpOp} {o : Op2} {rr : R2} (ho : OpR X (compareOp op) rr) (hs : OpS G o rr) (ma : Mono da) (mb : Mono db) (ha : SE G X a da) (hb : SE G X b db) (hm : behindInMarks op b = false) : SE G X (.Compare a [op] [b] pos) (dOp o da db) := fun W tk =>
  (pe_cmpR ho (ha W tk) (hb W tk) hm).wk fun s H Q h => op_red hs ma mb h
theorem st_cmp {op : CmpOp} {o : Op2} {rr : R2} (ho : OpR X (compareOp op) rr) (hs : OpS G o rr) (ma : Mono da) (mb : Mono db) (ha : SE G X a da) (hb : SE G X b db) (hm : behindInMarks op b = false) : ST G X (.Compare a [op] [b] pos) (tVal (dOp o da db)) := fun W tk =>
  (pt_cmpR ho (ha W tk) (hb W tk) hm).wk fun s H Q h => by
    refine op_red (Q := fun x H' => ∃ k, x = .bl k ∧ Q k H') hs ma mb ?_
    obtain ⟨r, A, t, R, S, h⟩ := h
    refine ⟨r, A, t, R, S, mono_op hs.mono ma mb _ _ _ _ _ _ (fun v A' ⟨k, e, q⟩ r' H' x E' R' p => ?_) (fun _ _ h => h) h⟩
    subst e
    simp only [Rep] at p
    exact ⟨k, p, q r' H' E' R'⟩
theorem se_ix {o : Op2} {rr : R2} (ho : IxR X rr) (hs : OpS G o rr) (ma : Mono da) (mb : Mono db) (ha : SE G X a da) (hb : SE G X b db) (hp : PlainIx b) : SE G X (.Subscript a b pos) (dOp o da db) := fun W tk =>
  (pe_ix ho (ha W tk) (hb W tk) hp).wk fun s H Q h => op_red hs ma mb h
theorem un_red {o : Op1} {rr : V → Hp → VK → Prop} (hs : UnS G o rr) (ma : Mono da) {s : L2.St} {H : Hp} {Q : VK} (h : TEW G W (dUn o da) s H Q) : tUn rr (TEW G W da) s H Q := by
  obtain ⟨r, A, t, R, S, h⟩ := h
  refine ⟨r, A, t, R, S, ma _ _ _ _ _ _ (fun x A1 h1 r1 H1 xv E1 R1 p1 => ?_) (fun _ _ h => h) h⟩
  exact hs.sim r1 A1 H1 x xv Q R1 p1 (hs.mono _ _ _ _ (fun v A' h => kv_up E1 h) h1)
theorem se_un {op : UnaryOp} {o : Op1} {rr : V → Hp → VK → Prop} (ho : UnR X (unaryOp op) rr) (hs : UnS G o rr) (ma : Mono da) (ha : SE G X a da) : SE G X (.UnaryOp op a pos) (dUn o da) := fun W tk =>
  (pe_un ho (ha W tk)).wk fun s H Q h => un_red hs ma h
theorem sa_nil : SA G X [] aNil := fun W tk => pa_nil.wk fun s H Q ⟨r, A, t, R, S, q⟩ => q r H [] (Ext.refl r H) R (by simp only [Reps])
theorem cons_red (ma : Mono da) (mr : MonoA aa) {s : L2.St} {H : Hp} {Q : List V → Hp → Prop} (h : TAW G W (aCons da aa) s H Q) : tCons (TEW G W da) (TAW G W aa) s H Q := by
  obtain ⟨r, A, t, R, S, h⟩ := h
  refine ⟨r, A, t, R, S, ma _ _ _ _ _ _ (fun x A1 h1 r1 H1 xv E1 R1 p1 => ?_) (fun _ _ h => h) h⟩
  refine ⟨r1, A1, t, R1, S.ext R E1, mr _ _ _ _ _ _ (fun ys A2 h2 r2 H2 yv E2 R2 p2 => ?_) (fun e A' h => kx_up E1 h) h1⟩
  exact h2 r2 H2 _ (E1.trans E2) R2 (Reps.cons_iff.mpr ⟨_, _, rfl, Rep.ext R1 E2 x xv p1, p2⟩)
theorem sa_cons (ma : Mono da) (mr : MonoA aa) (ha : SE G X a da) (hr : SA G X es aa) (hs : starEach (a :: es) X.env = (false, eval a X.env) :: starEach es X.env) : SA G X (a :: es) (aCons da aa) := fun W tk =>
  (pa_cons (ha W tk) (hr W tk) hs).wk fun s H Q h => cons_red ma mr h
/-- how many -/
def LenA (d : DenA) (n : Nat) : Prop := ∀ t A Q E, d t A Q E → d t A (fun xs A' => xs.length = n ∧ Q xs A') E
theorem len_nil : LenA aNil 0 := fun t A Q E h => ⟨rfl, h⟩
theorem len_cons (ma : Mono da) (mr : MonoA aa) {n : Nat} (h : LenA aa n) : LenA (aCons da aa) (n + 1) := fun t A Q E q =>
  ma _ _ _ _ _ _ (fun x A1 q1 => mr _ _ _ _ _ _ (fun xs A2 ⟨e, q2⟩ => ⟨by simp [e], q2⟩) (fun _ _ h => h) (h _ _ _ _ q1)) (fun _ _ h => h) q
theorem se_tup {n k : Nat} (ma : MonoA aa) (hl : LenA aa n) (hn : n ≤ 1000) (ha : SA G X es aa) : SE G X (.Tuple es k pos) (dTup aa) := fun W tk =>
  (pe_tup (ha W tk)).wk fun s H Q ⟨r, A, t, R, S, h⟩ => by
    refine ⟨r, A, t, R, S, ma _ _ _ _ _ _ (fun vs A1 h1 r1 H1 xs E1 R1 p1 => ?_) (fun _ _ h => h) (hl _ _ _ _ h)⟩
    refine ⟨?_, fun p np => ?_⟩
    · rw [← p1.length, h1.1]
      exact Nat.le_of_lt (small1000 hn)
    · have E2 := ext_new (r := r1) (ho := .tup xs) np
      refine h1.2 r1 _ _ (E1.trans E2) (R1.newT np) ?_
      simp only [Rep]
      exact ⟨p, xs, rfl, upd_same, Reps.ext R1 E2 _ _ p1⟩
theorem se_lst {n : Nat} (ma : MonoA aa) (hl : LenA aa n) (hn : n ≤ 1000) (ha : SA G X es aa) : SE G X (.List es pos) (dLst aa) := fun W tk =>
  (pe_lst (ha W tk)).wk fun s H Q ⟨r, A, t, R, S, h⟩ => by
    refine ⟨r, A, t, R, S, ma _ _ _ _ _ _ (fun vs A1 h1 r1 H1 xs E1 R1 p1 => ?_) (fun _ _ h => h) (hl _ _ _ _ h)⟩
    refine ⟨?_, fun p np => ?_⟩
    · rw [← p1.length, h1.1]
      exact Nat.le_of_lt (small1000 hn)
    · have E2 := ext_alloc (ho := .lst xs) np (R1.fresh np)
      refine h1.2 (r1 ++ [p]) _ _ (E1.trans E2) (R1.alloc np ⟨xs, upd_same, Reps.ext R1 E2 _ _ p1⟩) ?_
      simp only [Rep]
      exact ⟨p, by rw [R1.len, List.getElem?_append_right (Nat.le_refl _)]; simp, rfl⟩
theorem cb_red {o : OpN} {rr : List V → Hp → VK → Prop} (hs : CbS G o rr) (ma : MonoA aa) {s : L2.St} {H : Hp} {Q : VK} (h : TEW G W (dCB o aa) s H Q) : tCB rr (TAW G W aa) s H Q := by
  obtain ⟨r, A, t, R, S, h⟩ := h
  refine ⟨r, A, t, R, S, ma _ _ _ _ _ _ (fun x A1 h1 r1 H1 xv E1 R1 p1 => ?_) (fun _ _ h => h) h⟩
  exact hs.sim r1 A1 H1 x xv Q R1 p1 (hs.mono _ _ _ _ (fun v A' h => kv_up E1 h) h1)
theorem me_red {T : String} {o : Val → OpN} {ty : Val → AH → Prop} {rr : V → List V → Hp → VK → Prop} (hs : MeS G o rr) (ht : ∀ r A H v x, HRel G.K r A H → Rep G.K r H v x → ty v A → tyV G.K T x H) (ma : Mono da) (mr : MonoA aa)
    {s : L2.St} {H : Hp} {Q : VK} (h : TEW G W (dMe o ty da aa) s H Q) : tBM G.K T rr (TEW G W da) (TAW G W aa) s H Q := by
  obtain ⟨r, A, t, R, S, h⟩ := h
  refine ⟨r, A, t, R, S, ma _ _ _ _ _ _ (fun x A1 h1 r1 H1 xv E1 R1 p1 => ?_) (fun _ _ h => h) h⟩
  refine ⟨ht r1 A1 H1 x xv R1 p1 h1.1, r1, A1, t, R1, S.ext R E1, mr _ _ _ _ _ _ (fun ys A2 h2 r2 H2 yv E2 R2 p2 => ?_) (fun e A' h => kx_up E1 h) h1.2⟩
  exact hs.sim r2 A2 H2 x xv ys yv Q R2 (Rep.ext R1 E2 x xv p1) p2 (hs.mono _ _ _ _ _ (fun v A' h => kv_up (E1.trans E2) h) h2)
/-- what a def of the text promises -/
def SpF (G : Gc) (f : FDen) : Sp := fun vs H Q E => ∃ r A ws, HRel G.K r A H ∧ Reps G.K r H ws vs ∧ f ws A (kv G r H Q) (kf G r H E)
theorem se_call {x : Str} {k : Nat} {f : Addr} {fd : FuncData} {ps : List Str} {p : Pos} {fn : FDen} (F : FnOk X.prog X.w X.K X.mg X.base (L2.CX X.prog X.w) k f fd ps (SpF G fn)) (hr : Room k X.A) (hg : Gl X x) (hm : X.mg x = some (.ref f)) (hk : PySem.W.keepIn X.K (.ref f) = true)
    (hb : Binds X.K fd ps []) (mf : MonoF fn) (ma : MonoA aa) (ha : SA G X (a :: es) aa) (hdb : (x == ("__debug__" : Str)) = false) (he : starEach (a :: es) X.env = (false, eval a X.env) :: starEach es X.env) (hpl : (backTo pos (starEach es X.env)).any (·.1) = false) :
    SE G X (.Call (.Name x p) (a :: es) [] pos) (dCall fn aa) := fun W tk =>
  (pe_callS F hr hg hm hk hb (fun σ => passAt tk σ) (ha W tk) hdb he hpl).wk fun s H Q ⟨r, A, t, R, S, h⟩ => by
    refine ⟨r, A, t, R, S, ma _ _ _ _ _ _ (fun ws A1 h1 r1 H1 xs E1 R1 p1 => ?_) (fun _ _ h => h) h⟩
    exact ⟨r1, A1, ws, R1, p1, mf _ _ _ _ _ _ (fun v A' h => kv_up E1 h) (fun e A' h => kx_up E1 h) h1⟩
theorem se_if (mt : MonoT ta) (ht : ST G X c ta) (ha : SE G X a da) (hb : SE G X b db) (ma : Mono da) (mb : Mono db) : SE G X (.IfExp c a b pos) (dIf ta da db) := fun W tk =>
  (pe_ifExp (ht W tk) (ha W tk) (hb W tk)).wk fun s H Q ⟨r, A, t, R, S, h⟩ => by
    refine ⟨r, A, t, R, S, mt _ _ _ _ _ _ (fun k A1 h1 r1 H1 E1 R1 => ?_) (fun _ _ h => h) h⟩
    cases k with
    | true =>
      rw [if_pos rfl] at h1 ⊢
      exact ⟨r1, A1, t, R1, S.ext R E1, ma _ _ _ _ _ _ (fun v A' h => kv_up E1 h) (fun e A' h => kx_up E1 h) h1⟩
    | false =>
      rw [if_neg Bool.false_ne_true] at h1 ⊢
      exact ⟨r1, A1, t, R1, S.ext R E1, mb _ _ _ _ _ _ (fun v A' h => kv_up E1 h) (fun e A' h => kx_up E1 h) h1⟩
theorem truB_ok {r : List Addr} {A : AH} {H : Hp} {v : Val} {x : V} {k : Bool} (R : HRel G.K r A H) (p : Rep G.K r H v x) (h : truB A v = some k) : TruV G.K x H k := by
  cases v with
  | non => simp only [Rep] at p; subst p; simp only [truB, Option.some.injEq] at h; exact h.symm
  | bl b => simp only [Rep] at p; subst p; simp only [truB, Option.some.injEq] at h; exact h.symm
  | int i => simp only [Rep] at p; subst p; simp only [truB, Option.some.injEq] at h; exact h.symm
  | str y =>
    simp only [Rep] at p; subst p
    simp only [truB] at h
    split at h
    · rename_i hl
      simp only [Option.some.injEq] at h
      exact ⟨hl, h.symm⟩
    · cases h
  | tup xs =>
    obtain ⟨a, ys, rfl, s, q⟩ := p.tupS (.inl rfl)
    simp only [truB, Option.some.injEq] at h
    refine .inr (.inl ⟨ys, s, ?_⟩)
    rw [← h]
    have := q.length
    cases xs <;> cases ys <;> first | rfl | simp at this
  | wt xs =>
    obtain ⟨a, ys, rfl, s, q⟩ := p.tupS (.inr rfl)
    simp only [truB, Option.some.injEq] at h
    refine .inr (.inl ⟨ys, s, ?_⟩)
    rw [← h]
    have := q.length
    cases xs <;> cases ys <;> first | rfl | simp at this
  | ref n =>
    simp only [Rep] at p
    obtain ⟨a, e, rfl⟩ := p
    simp only [truB] at h
    have iE : ∀ {vs : List Val} {xs : List V}, Reps G.K r H vs xs → (!vs.isEmpty) = !xs.isEmpty := fun {vs xs} q => by
      have := q.length
      cases vs <;> cases xs <;> first | rfl | simp at this
    split at h
    · rename_i xs e2
      obtain ⟨ys, ey, q⟩ := R.ob n a _ e e2
      simp only [Option.some.injEq] at h
      exact .inl ⟨ys, SqL.of ey, by rw [← h]; exact iE q⟩
    · rename_i xs e2
      obtain ⟨ys, ey, q⟩ := R.ob n a _ e e2
      simp only [Option.some.injEq] at h
      refine .inr (.inr ⟨ys, ey, ?_⟩)
      rw [← h]
      have h1 := congrArg List.length q.1
      simp only [List.length_map] at h1
      cases xs <;> cases ys <;> first | rfl | simp at h1
    · cases h
  | ty n => simp only [truB] at h; cases h
  | wl n => simp only [truB] at h; cases h
theorem ttru_red (ma : Mono da) {s : L2.St} {H : Hp} {Q : Bool → Hp → Prop} (h : TTW G W (tTru da) s H Q) : TEW G W da s H fun x H' => ∃ k, TruV G.K x H' k ∧ Q k H' := by
  obtain ⟨r, A, t, R, S, h⟩ := h
  refine ⟨r, A, t, R, S, ma _ _ _ _ _ _ (fun v A1 ⟨k, e, q⟩ r1 H1 x E1 R1 p1 => ?_) (fun _ _ h => h) h⟩
  exact ⟨k, truB_ok R1 p1 e, q r1 H1 E1 R1⟩
theorem st_tru (hK : X.K = G.K) (ma : Mono da) (ha : SE G X a da) (he : ∀ whole, isTrue a X.env whole = (do let v ← whole; standAt a.pos; holding [v] (truthy v))) : ST G X a (tTru da) := fun W tk =>
  (pt_truth (ha W tk) he).wk fun s H Q h => by
    rw [hK]
    exact ttru_red ma h
theorem st_not (mt : MonoT ta) (ha : ST G X a ta) : ST G X (.UnaryOp .Not a pos) (EV.tNot ta) := fun W tk =>
  (pt_not (ha W tk)).wk fun s H Q ⟨r, A, t, R, S, h⟩ => ⟨r, A, t, R, S, mt _ _ _ _ _ _ (fun k A1 h1 r1 H1 E1 R1 => h1 r1 H1 E1 R1) (fun _ _ h => h) h⟩
def SW (G : Gc) (X : Cx) (e : Expr) (d : DenT) : Prop := ∀ W, Takes X W → PW X e (TTW G W d)
theorem _root_.L2.PW.wk {X : Cx} {e : Expr} {t t' : TT} (h : PW X e t) (w : ∀ s H Q, t' s H Q → t s H Q) : PW X e t' := ⟨fun wh pins s σ H Q I q => h.run wh pins s σ H Q I (w _ _ _ q)⟩
theorem sw_one_and (ha : ST G X a ta) : SW G X (.BoolOp .And [a] pos) ta := fun W tk => pw_and1 (ha W tk)
theorem sw_one_or (ha : ST G X a ta) : SW G X (.BoolOp .Or [a] pos) ta := fun W tk => pw_or1 (ha W tk)
theorem sw_and (mt : MonoT ta) (mu : MonoT tb) (ha : ST G X a ta) (hb : SW G X (.BoolOp .And (b :: es) pos) tb) : SW G X (.BoolOp .And (a :: b :: es) pos) (EV.tAnd ta tb) := fun W tk =>
  (pw_and (ha W tk) (hb W tk)).wk fun s H Q ⟨r, A, t, R, S, h⟩ => by
    refine ⟨r, A, t, R, S, mt _ _ _ _ _ _ (fun k A1 h1 r1 H1 E1 R1 => ?_) (fun _ _ h => h) h⟩
    cases k with
    | true =>
      rw [if_pos rfl] at h1 ⊢
      exact ⟨r1, A1, t, R1, S.ext R E1, mu _ _ _ _ _ _ (fun v A' h => kb_up E1 h) (fun e A' h => kx_up E1 h) h1⟩
    | false =>
      rw [if_neg Bool.false_ne_true] at h1 ⊢
      exact h1 r1 H1 E1 R1
theorem sw_or (mt : MonoT ta) (mu : MonoT tb) (ha : ST G X a ta) (hb : SW G X (.BoolOp .Or (b :: es) pos) tb) : SW G X (.BoolOp .Or (a :: b :: es) pos) (EV.tOr ta tb) := fun W tk =>
  (pw_or (ha W tk) (hb W tk)).wk fun s H Q ⟨r, A, t, R, S, h⟩ => by
    refine ⟨r, A, t, R, S, mt _ _ _ _ _ _ (fun k A1 h1 r1 H1 E1 R1 => ?_) (fun _ _ h => h) h⟩
    cases k with
    | true =>
      rw [if_pos rfl] at h1 ⊢
      exact h1 r1 H1 E1 R1
    | false =>
      rw [if_neg Bool.false_ne_true] at h1 ⊢
      exact ⟨r1, A1, t, R1, S.ext R E1, mu _ _ _ _ _ _ (fun v A' h => kb_up E1 h) (fun e A' h => kx_up E1 h) h1⟩
theorem st_bool (h : SW G X a ta) : ST G X a ta := fun W tk => (h W tk).pt
/-- and, or, not as values -/
def dAndV (a b : Den) : Den := fun t A Q E => a t A (fun x A1 => ∃ k, truB A1 x = some k ∧ if k = true then b t A1 Q E else Q x A1) E
def dOrV (a b : Den) : Den := fun t A Q E => a t A (fun x A1 => ∃ k, truB A1 x = some k ∧ if k = true then Q x A1 else b t A1 Q E) E
def dNotV (a : Den) : Den := fun t A Q E => a t A (fun x A1 => ∃ k, truB A1 x = some k ∧ Q (.bl (!k)) A1) E
theorem mono_andv (ma : Mono da) (mb : Mono db) : Mono (dAndV da db) := fun t A Q Q' E E' h k q => ma _ _ _ _ _ _ (fun b A1 ⟨c, e, q1⟩ => ⟨c, e, by
  cases c with
  | true => rw [if_pos rfl] at q1 ⊢; exact mb _ _ _ _ _ _ h k q1
  | false => rw [if_neg Bool.false_ne_true] at q1 ⊢; exact h _ _ q1⟩) k q
theorem mono_orv (ma : Mono da) (mb : Mono db) : Mono (dOrV da db) := fun t A Q Q' E E' h k q => ma _ _ _ _ _ _ (fun b A1 ⟨c, e, q1⟩ => ⟨c, e, by
  cases c with
  | true => rw [if_pos rfl] at q1 ⊢; exact h _ _ q1
  | false => rw [if_neg Bool.false_ne_true] at q1 ⊢; exact mb _ _ _ _ _ _ h k q1⟩) k q
theorem mono_notv (ma : Mono da) : Mono (dNotV da) := fun t A Q Q' E E' h k q => ma _ _ _ _ _ _ (fun b A1 ⟨c, e, q1⟩ => ⟨c, e, h _ _ q1⟩) k q
theorem se_one {op : BoolOp} (ha : SE G X a da) : SE G X (.BoolOp op [a] pos) da := fun W tk => pe_one (ha W tk)
theorem se_and (hK : X.K = G.K) (ma : Mono da) (mb : Mono db) (ha : SE G X a da) (hb : SE G X (.BoolOp .And (b :: es) pos) db) : SE G X (.BoolOp .And (a :: b :: es) pos) (dAndV da db) := fun W tk =>
  (pe_andT (ha W tk) (hb W tk)).wk fun s H Q ⟨r, A, t, R, S, h⟩ => by
    rw [hK]
    refine ⟨r, A, t, R, S, ma _ _ _ _ _ _ (fun v A1 ⟨k, e, h1⟩ r1 H1 x E1 R1 p1 => ⟨k, truB_ok R1 p1 e, ?_⟩) (fun _ _ h => h) h⟩
    cases k with
    | true =>
      rw [if_pos rfl] at h1 ⊢
      exact ⟨r1, A1, t, R1, S.ext R E1, mb _ _ _ _ _ _ (fun v A' h => kv_up E1 h) (fun e A' h => kx_up E1 h) h1⟩
    | false =>
      rw [if_neg Bool.false_ne_true] at h1 ⊢
      exact h1 r1 H1 x E1 R1 p1
theorem se_or (hK : X.K = G.K) (ma : Mono da) (mb : Mono db) (ha : SE G X a da) (hb : SE G X (.BoolOp .Or (b :: es) pos) db) : SE G X (.BoolOp .Or (a :: b :: es) pos) (dOrV da db) := fun W tk =>
  (pe_orT (ha W tk) (hb W tk)).wk fun s H Q ⟨r, A, t, R, S, h⟩ => by
    rw [hK]
    refine ⟨r, A, t, R, S, ma _ _ _ _ _ _ (fun v A1 ⟨k, e, h1⟩ r1 H1 x E1 R1 p1 => ⟨k, truB_ok R1 p1 e, ?_⟩) (fun _ _ h => h) h⟩
    cases k with
    | true =>
      rw [if_pos rfl] at h1 ⊢
      exact h1 r1 H1 x E1 R1 p1
    | false =>
      rw [if_neg Bool.false_ne_true] at h1 ⊢
      exact ⟨r1, A1, t, R1, S.ext R E1, mb _ _ _ _ _ _ (fun v A' h => kv_up E1 h) (fun e A' h => kx_up E1 h) h1⟩
theorem se_not (hK : X.K = G.K) (ma : Mono da) (ha : SE G X a da) : SE G X (.UnaryOp .Not a pos) (dNotV da) := fun W tk =>
  (pe_notT (ha W tk)).wk fun s H Q ⟨r, A, t, R, S, h⟩ => by
    rw [hK]
    refine ⟨r, A, t, R, S, ma _ _ _ _ _ _ (fun v A1 ⟨k, e, h1⟩ r1 H1 x E1 R1 p1 => ⟨k, truB_ok R1 p1 e, ?_⟩) (fun _ _ h => h) h⟩
    exact h1 r1 H1 _ E1 R1 (by simp only [Rep])
end
end EV

namespace EV
open PySem PySem.Spec PyProof.Rows L2

/-! ### statements -/
def sSkip : DenS := fun t A D => D.nx t A
def sSeq (a b : DenS) : DenS := fun t A D => a t A ⟨fun t A => b t A D, D.rt, D.bk, D.ct, D.ex⟩
def sExpr (d : Den) : DenS := fun t A D => d t A (fun _ A1 => D.nx t A1) (fun e A1 => D.ex e t A1)
def sRet (d : Den) : DenS := fun t A D => d t A D.rt (fun e A1 => D.ex e t A1)
def sRetN : DenS := fun _ A D => D.rt .non A
def sIf (c : DenT) (a b : DenS) : DenS := fun t A D => c t A (fun k A1 => if k = true then a t A1 D else b t A1 D) (fun e A1 => D.ex e t A1)
def sBreak : DenS := fun t A D => D.bk t A
def sCont : DenS := fun t A D => D.ct t A
abbrev DenG := Val → Lv → AH → (Lv → AH → Prop) → Prop
abbrev nox : XQ := fun _ _ => False
abbrev DenGs := List Val → Lv → AH → (Lv → AH → Prop) → Prop
def gName (i : Nat) : DenG := fun v t A Q => Q (t.set i (some v)) A
def gsNil : DenGs := fun vs t A Q => vs = [] ∧ Q t A
def gsCons (g : DenG) (gs : DenGs) : DenGs := fun vs t A Q => ∃ v r, vs = v :: r ∧ g v t A (fun t1 A1 => gs r t1 A1 Q)
def gTup (n : Nat) (gs : DenGs) : DenG := fun v t A Q => ∃ xs, (v = .tup xs ∨ v = .wt xs) ∧ xs.length = n ∧ gs xs t A Q
abbrev OpSet := Val → Val → Val → AH → (AH → Prop) → Prop
def gSub (o i : Den) (st : OpSet) : DenG := fun v t A Q => o t A (fun x A1 => i t A1 (fun y A2 => st x y v A2 (fun A3 => Q t A3)) nox) nox
def sAsg (d : Den) (g : DenG) : DenS := fun t A D => d t A (fun v A1 => g v t A1 D.nx) (fun e A1 => D.ex e t A1)
def sPar (i j : Nat) (d : DenA) : DenS := fun t A D => d t A (fun vs A1 => ∃ v w, vs = [v, w] ∧ D.nx ((t.set i (some v)).set j (some w)) A1) (fun e A1 => D.ex e t A1)
def sAug (i : Nat) (o : Op2) (d : Den) : DenS := fun t A D => ∃ x, t[i]? = some (some x) ∧ d t A (fun y A1 => o x y A1 (fun z A2 => D.nx (t.set i (some z)) A2)) (fun e A1 => D.ex e t A1)
def sWhile (c : DenT) (b : DenS) : DenS := fun t A D => ∃ Wi : Nat → Lv → AH → Prop, (∃ m, Wi m t A) ∧ ∀ m t A, Wi m t A →
  c t A (fun k A1 => if k = true then ∃ N : Lv → AH → Prop, (∀ t' A', N t' A' → ∃ m', m' < m ∧ Wi m' t' A') ∧ b t A1 ⟨N, D.rt, D.nx, N, D.ex⟩ else D.nx t A1) (fun e A1 => D.ex e t A1)
/-- what is walked: the item at a turn, or the end -/
abbrev Wk := Nat → AH → Option (Option Val)
abbrev DenI := Lv → AH → (Wk → AH → Prop) → XQ → Prop
def sFor (it : DenI) (g : DenG) (b : DenS) : DenS := fun t A D => it t A (fun J A1 => ∃ Wi : Nat → Nat → Lv → AH → Prop, (∃ m, Wi 0 m t A1) ∧ ∀ i m t A, Wi i m t A →
  (J i A = some none ∧ D.nx t A) ∨ (∃ v, J i A = some (some v) ∧ ∃ N : Lv → AH → Prop, (∀ t' A', N t' A' → ∃ m', m' < m ∧ Wi (i + 1) m' t' A') ∧
    g v t A (fun t2 A2 => b t2 A2 ⟨N, D.rt, D.nx, N, D.ex⟩))) (fun e A1 => D.ex e t A1)
def MonoG (g : DenG) : Prop := ∀ v t A Q Q', (∀ t' A', Q t' A' → Q' t' A') → g v t A Q → g v t A Q'
def MonoGs (g : DenGs) : Prop := ∀ v t A Q Q', (∀ t' A', Q t' A' → Q' t' A') → g v t A Q → g v t A Q'
def MonoI (d : DenI) : Prop := ∀ t A Q Q' E E', (∀ v A', Q v A' → Q' v A') → (∀ e A', E e A' → E' e A') → d t A Q E → d t A Q' E'
def SMono (o : OpSet) : Prop := ∀ x y z A Q Q', (∀ A', Q A' → Q' A') → o x y z A Q → o x y z A Q'

section
variable {d : Den} {c : DenT} {a b : DenS} {aa : DenA} {g : DenG} {gs : DenGs} {it : DenI}
theorem mono_skip : MonoS sSkip := fun t A D D' L h => L.nx _ _ h
theorem mono_seq (ma : MonoS a) (mb : MonoS b) : MonoS (sSeq a b) := fun t A D D' L h => ma t A ⟨fun t A => b t A D, D.rt, D.bk, D.ct, D.ex⟩ _ ⟨fun t A q => mb _ _ _ _ L q, L.rt, L.bk, L.ct, L.ex⟩ h
theorem mono_expr (md : Mono d) : MonoS (sExpr d) := fun t A D D' L h => md _ _ _ _ _ _ (fun v A q => L.nx _ _ q) (fun e A q => L.ex _ _ _ q) h
theorem mono_ret (md : Mono d) : MonoS (sRet d) := fun t A D D' L h => md _ _ _ _ _ _ (fun v A q => L.rt _ _ q) (fun e A q => L.ex _ _ _ q) h
theorem mono_retN : MonoS sRetN := fun t A D D' L h => L.rt _ _ h
theorem mono_sif (mc : MonoT c) (ma : MonoS a) (mb : MonoS b) : MonoS (sIf c a b) := fun t A D D' L h => mc _ _ _ _ _ _ (fun k A1 q => by
  cases k with
  | true => rw [if_pos rfl] at q ⊢; exact ma _ _ _ _ L q
  | false => rw [if_neg Bool.false_ne_true] at q ⊢; exact mb _ _ _ _ L q) (fun e A q => L.ex _ _ _ q) h
theorem mono_break : MonoS sBreak := fun t A D D' L h => L.bk _ _ h
theorem mono_cont : MonoS sCont := fun t A D D' L h => L.ct _ _ h
theorem mono_gname (i : Nat) : MonoG (gName i) := fun v t A Q Q' h q => h _ _ q
theorem mono_gsnil : MonoGs gsNil := fun v t A Q Q' h q => ⟨q.1, h _ _ q.2⟩
theorem mono_gscons (mg : MonoG g) (ms : MonoGs gs) : MonoGs (gsCons g gs) := fun v t A Q Q' h ⟨v, r, e, q⟩ => ⟨v, r, e, mg _ _ _ _ _ (fun t A q => ms _ _ _ _ _ h q) q⟩
theorem mono_gtup (n : Nat) (ms : MonoGs gs) : MonoG (gTup n gs) := fun v t A Q Q' h ⟨xs, e, e2, q⟩ => ⟨xs, e, e2, ms _ _ _ _ _ h q⟩
theorem mono_gsub {o i : Den} {st : OpSet} (mo : Mono o) (mi : Mono i) (ms : SMono st) : MonoG (gSub o i st) := fun v t A Q Q' h q =>
  mo _ _ _ _ _ _ (fun x A1 q => mi _ _ _ _ _ _ (fun y A2 q => ms _ _ _ _ _ _ (fun A3 q => h _ _ q) q) (fun _ _ z => z) q) (fun _ _ z => z) q
theorem mono_asg (md : Mono d) (mg : MonoG g) : MonoS (sAsg d g) := fun t A D D' L h => md _ _ _ _ _ _ (fun v A q => mg _ _ _ _ _ L.nx q) (fun e A q => L.ex _ _ _ q) h
theorem mono_par {i j : Nat} (ma : MonoA aa) : MonoS (sPar i j aa) := fun t A D D' L h => ma _ _ _ _ _ _ (fun v A ⟨x, y, e, q⟩ => ⟨x, y, e, L.nx _ _ q⟩) (fun e A q => L.ex _ _ _ q) h
theorem mono_aug {i : Nat} {o : Op2} (mo : OMono o) (md : Mono d) : MonoS (sAug i o d) := fun t A D D' L ⟨x, e, h⟩ => ⟨x, e, md _ _ _ _ _ _ (fun v A q => mo _ _ _ _ _ (fun z A q => L.nx _ _ q) q) (fun e A q => L.ex _ _ _ q) h⟩
theorem mono_while (mc : MonoT c) (mb : MonoS b) : MonoS (sWhile c b) := fun t A D D' L ⟨Wi, h0, h⟩ => ⟨Wi, h0, fun m t A w => mc _ _ _ _ _ _ (fun k A1 q => by
  cases k with
  | true =>
    rw [if_pos rfl] at q ⊢
    obtain ⟨N, hN, q⟩ := q
    exact ⟨N, hN, mb t A1 ⟨N, D.rt, D.nx, N, D.ex⟩ _ ⟨fun _ _ h => h, L.rt, L.nx, fun _ _ h => h, L.ex⟩ q⟩
  | false => rw [if_neg Bool.false_ne_true] at q ⊢; exact L.nx _ _ q) (fun e A q => L.ex _ _ _ q) (h m t A w)⟩
theorem mono_for (mi : MonoI it) (mg : MonoG g) (mb : MonoS b) : MonoS (sFor it g b) := fun t A D D' L h => mi _ _ _ _ _ _ (fun J A1 ⟨Wi, h0, h⟩ => ⟨Wi, h0, fun i m t A w => by
  rcases h i m t A w with ⟨e, q⟩ | ⟨v, e, N, hN, q⟩
  · exact .inl ⟨e, L.nx _ _ q⟩
  · exact .inr ⟨v, e, N, hN, mg _ _ _ _ _ (fun t2 A2 q => mb t2 A2 ⟨N, D.rt, D.nx, N, D.ex⟩ _ ⟨fun _ _ h => h, L.rt, L.nx, fun _ _ h => h, L.ex⟩ q) q⟩⟩) (fun e A q => L.ex _ _ _ q) h
end

section
variable {G : Gc} {r r1 : List Addr} {H H1 : Hp} {A A' : AH} {W : WX} {D : Ends}
theorem ends_up (E : Ext r r1 H H1) : EndsA.Le (ends G W r H D) (ends G W r1 H1 D) :=
  ⟨fun t A h => kn_up E h, fun v A h => kv_up E h, fun t A h => kn_up E h, fun t A h => kn_up E h, fun e t A h => kxs_up E h⟩
theorem ex_of {t : Lv} {s : L2.St} {e : Exc} (R : HRel G.K r A H) (S : SRel G.K r H t s) (h : (ends G W r H D).ex e t A') : kx G r H s W e A' :=
  fun r' H' c d E' R' x => h r' H' s c d E' R' (S.ext R E') x
end

/-! ### the judgements of targets and walks -/
section
variable (G : Gc)
def TGW (g : DenG) : TG := fun x s H Q => ∃ r A t v, HRel G.K r A H ∧ SRel G.K r H t s ∧ Rep G.K r H v x ∧ g v t A (kn G r H Q)
def TGsW (g : DenGs) : TGs := fun x s H Q => ∃ r A t v, HRel G.K r A H ∧ SRel G.K r H t s ∧ Reps G.K r H v x ∧ g v t A (kn G r H Q)
/-- J is walked as Wk tells, from here on -/
def ItR (r0 : List Addr) (H0 : Hp) (J : It) (k : Wk) : Prop := ∀ r A H, Ext r0 r H0 H → HRel G.K r A H → ∀ i,
  (∀ v, k i A = some (some v) → J.go i H ∧ ∀ x H', J.yld i H x H' → Ext r r H H' ∧ HRel G.K r A H' ∧ Rep G.K r H' v x) ∧ (k i A = some none → J.stop i H)
def TIW (W : WX) (d : DenI) : TI := fun s H R => ∃ r A t, HRel G.K r A H ∧ SRel G.K r H t s ∧ d t A (fun k A' => ∀ r' H' J, Ext r r' H H' → HRel G.K r' A' H' → ItR G r' H' J k → R J H') (kx G r H s W)
end
section
variable (G : Gc) (X : Cx)
/-- exceptions of a target lie at the slots as they stood -/
def SG (e : Expr) (g : DenG) : Prop := PG X e (TGW G g)
def SGs (e : List Expr) (g : DenGs) : Prop := PGs X e (TGsW G g)
def SI (tg e : Expr) (d : DenI) : Prop := ∀ W, Takes X W → PI X tg e (TIW G W d)
end
theorem _root_.L2.PG.wk {X : Cx} {e : Expr} {t t' : TG} (h : PG X e t) (w : ∀ v s H Q, t' v s H Q → t v s H Q) : PG X e t' := ⟨fun pins s σ H v u Q I r q => h.run pins s σ H v u Q I r (w _ _ _ _ q)⟩
theorem _root_.L2.PGs.wk {X : Cx} {e : List Expr} {t t' : TGs} (h : PGs X e t) (w : ∀ v s H Q, t' v s H Q → t v s H Q) : PGs X e t' := ⟨fun pins s σ H v u Q I r q => h.run pins s σ H v u Q I r (w _ _ _ _ q)⟩
theorem _root_.L2.PI.wk {X : Cx} {tg e : Expr} {t t' : TI} (h : PI X tg e t) (w : ∀ s H R, t' s H R → t s H R) : PI X tg e t' := ⟨fun pins s σ H R I q => h.run pins s σ H R I (w _ _ _ q)⟩

section
variable {G : Gc} {X : Cx} {W : WX} {e c o i : Expr} {es : List Expr} {st : Stmt} {rest sa sb : List Stmt} {d di : Den} {tc : DenT} {a b : DenS} {aa : DenA} {g : DenG} {gs : DenGs} {it : DenI} {pos : Pos}
theorem ss_nil : SSs G X [] sSkip := fun W tk => pss_nil.wk fun D s H ⟨r, A, t, R, S, h⟩ => h r H s (Ext.refl r H) R S
theorem ss_cons (ma : MonoS a) (mb : MonoS b) (ha : SS G X st a) (hb : SSs G X rest b) : SSs G X (st :: rest) (sSeq a b) := fun W tk =>
  (pss_cons (ha W tk) (hb W tk)).wk fun D s H ⟨r, A, t, R, S, h⟩ => by
    refine ⟨r, A, t, R, S, ma t A ⟨fun t A => b t A (ends G W r H D), (ends G W r H D).rt, (ends G W r H D).bk, (ends G W r H D).ct, (ends G W r H D).ex⟩ _ ⟨fun t1 A1 q r1 H1 s1 E1 R1 S1 => ?_, fun _ _ h => h, fun _ _ h => h, fun _ _ h => h, fun _ _ _ h => h⟩ h⟩
    exact ⟨r1, A1, t1, R1, S1, mb _ _ _ _ (ends_up E1) q⟩
theorem ss_pass : SS G X (.Pass pos) sSkip := fun W tk => ps_pass.wk fun D s H ⟨r, A, t, R, S, h⟩ => h r H s (Ext.refl r H) R S
theorem ss_break : SS G X (.Break pos) sBreak := fun W tk => ps_break.wk fun D s H ⟨r, A, t, R, S, h⟩ => h r H s (Ext.refl r H) R S
theorem ss_cont : SS G X (.Continue pos) sCont := fun W tk => ps_continue.wk fun D s H ⟨r, A, t, R, S, h⟩ => h r H s (Ext.refl r H) R S
theorem ss_expr (md : Mono d) (hd : SE G X e d) (hs : swapsWith e none pos.line X.env = pure false) : SS G X (.Expr e pos) (sExpr d) := fun W tk =>
  (ps_expr (hd W tk) hs).wk fun D s H ⟨r, A, t, R, S, h⟩ => ⟨r, A, t, R, S, md _ _ _ _ _ _ (fun v A1 q r1 H1 x E1 R1 _ => q r1 H1 s E1 R1 (S.ext R E1)) (fun e A1 q => ex_of R S q) h⟩
theorem ss_ret (md : Mono d) (hd : SE G X e d) : SS G X (.Return (some e) pos) (sRet d) := fun W tk =>
  (ps_ret (hd W tk)).wk fun D s H ⟨r, A, t, R, S, h⟩ => ⟨r, A, t, R, S, md _ _ _ _ _ _ (fun v A1 q => q) (fun e A1 q => ex_of R S q) h⟩
theorem ss_retN : SS G X (.Return none pos) sRetN := fun W tk => ps_retN.wk fun D s H ⟨r, A, t, R, S, h⟩ => h r H .non (Ext.refl r H) R (by simp only [Rep])
theorem ss_if (mt : MonoT tc) (ma : MonoS a) (mb : MonoS b) (ht : ST G X c tc) (ha : SSs G X sa a) (hb : SSs G X sb b) : SS G X (.If c sa sb pos) (sIf tc a b) := fun W tk =>
  (ps_if (ht W tk) (ha W tk) (hb W tk)).wk fun D s H ⟨r, A, t, R, S, h⟩ => by
    refine ⟨r, A, t, R, S, mt _ _ _ _ _ _ (fun k A1 h1 r1 H1 E1 R1 => ?_) (fun e A1 q => ex_of R S q) h⟩
    cases k with
    | true =>
      rw [if_pos rfl] at h1 ⊢
      exact ⟨r1, A1, t, R1, S.ext R E1, ma _ _ _ _ (ends_up E1) h1⟩
    | false =>
      rw [if_neg Bool.false_ne_true] at h1 ⊢
      exact ⟨r1, A1, t, R1, S.ext R E1, mb _ _ _ _ (ends_up E1) h1⟩
theorem sg_name {k : Nat} {x : Str} (hN : X.N.Nodup) (hi : X.N[k]? = some x) (hx : Loc X.env.scope x) (hf : X.fn x = true ∨ X.env.scope.names.lookup x = some .local) : SG G X (.Name x pos) (gName k) :=
  (pg_name hN hi hx hf).wk fun x s H Q ⟨r, A, t, v, R, S, p, h⟩ => h r H _ (Ext.refl r H) R (S.set k p)
theorem sgs_nil : SGs G X [] gsNil := pgs_nil.wk fun x s H Q ⟨r, A, t, v, R, S, p, e, h⟩ => by
  subst e
  exact ⟨Reps.nil_iff.mp p, h r H s (Ext.refl r H) R S⟩
theorem sgs_cons (mg : MonoG g) (ms : MonoGs gs) (h1 : SG G X e g) (h2 : SGs G X es gs) (hs : (assignEach (e :: es) X.env).map (·.2) = assign e X.env :: (assignEach es X.env).map (·.2)) : SGs G X (e :: es) (gsCons g gs) :=
  (pgs_cons h1 h2 hs).wk fun x s H Q ⟨r, A, t, v, R, S, p, v1, vr, ev, h⟩ => by
    subst ev
    obtain ⟨y, ys, rfl, p1, p2⟩ := Reps.cons_iff.mp p
    refine ⟨y, ys, rfl, r, A, t, v1, R, S, p1, mg _ _ _ _ _ (fun t1 A1 q r1 H1 s1 E1 R1 S1 => ?_) h⟩
    exact ⟨r1, A1, t1, vr, R1, S1, Reps.ext R E1 _ _ p2, ms _ _ _ _ _ (fun t2 A2 q => kn_up E1 q) q⟩
theorem sg_tup {n k : Nat} (hK : X.K = G.K) (hc : X.calm = true) (ms : MonoGs gs) (h : SGs G X es gs) (hn : (assignEach es X.env).length = n) (hst : (assignEach es X.env).findIdx? (·.1) = none) : SG G X (.Tuple es k pos) (gTup n gs) :=
  (pg_tup hc h hn hst).wk fun x s H Q ⟨r, A, t, v, R, S, p, xs, ev, el, q⟩ => by
    obtain ⟨a, ys, rfl, sq, p⟩ := p.tupS ev
    rw [hK]
    exact ⟨a, ys, rfl, sq, by rw [← p.length, el], r, A, t, xs, R, S, p, q⟩
structure SetS (G : Gc) (o : OpSet) (rr : TSet) : Prop where
  mono : SMono o
  sim : ∀ r A H u v w x y z Q, HRel G.K r A H → Rep G.K r H u x → Rep G.K r H v y → Rep G.K r H w z → o u v w A (fun A' => ∀ r' H', Ext r r' H H' → HRel G.K r' A' H' → Q H') → rr x y z H Q
theorem sg_sub {op : OpSet} {rr : TSet} {dq : Den} (ho : PSet X rr) (hs : SetS G op rr) (mo : Mono d) (mi : Mono di) (h1 : SE G X o d) (h2 : SE G X i di) (hx : ∀ v, assign (.Subscript o i pos) X.env v = (do
      let ov ← holding [v] (eval o X.env)
      let iv ← holding [v, ov] (eval i X.env)
      standAt pos
      holding [v, ov, iv] (setItem ov iv v)
      release [v, ov, iv] [])) : SG G X (.Subscript o i pos) (gSub d di op) := by
  have tk : Takes X (fun _ _ _ _ => False) := takes0
  refine (pg_sub (h1 _ tk) (h2 _ tk) ho hx).wk fun x s H Q ⟨r, A, t, v, R, S, p, h⟩ => ?_
  refine ⟨r, A, t, R, S, mo _ _ _ _ _ _ (fun u A1 h1 r1 H1 xu E1 R1 p1 => ?_) (fun e A1 z => z.elim) h⟩
  refine ⟨r1, A1, t, R1, S.ext R E1, mi _ _ _ _ _ _ (fun w A2 h2 r2 H2 xw E2 R2 p2 => ?_) (fun e A1 z => z.elim) h1⟩
  refine hs.sim r2 A2 H2 u w v xu xw x _ R2 (Rep.ext R1 E2 _ _ p1) p2 (Rep.ext R (E1.trans E2) _ _ p) (hs.mono _ _ _ _ _ _ (fun A3 q r3 H3 E3 R3 => ?_) h2)
  exact q r3 H3 s ((E1.trans E2).trans E3) R3 (S.ext R ((E1.trans E2).trans E3))
theorem ss_asg (md : Mono d) (mg : MonoG g) (hd : SE G X e d) (hg : SG G X c g) (hs : swapsWithSole [c] e pos.line X.env = pure false) (hw : swappedStores [c] e X.env = pure none) (h1 : (assignEach [c] X.env).map (·.2) = [assign c X.env]) :
    SS G X (.Assign [c] e pos) (sAsg d g) := fun W tk =>
  (ps_asg (hd W tk) hg hs hw h1).wk fun D s H ⟨r, A, t, R, S, h⟩ => by
    refine ⟨r, A, t, R, S, md _ _ _ _ _ _ (fun v A1 q r1 H1 x E1 R1 p1 => ?_) (fun e A1 q => ex_of R S q) h⟩
    exact ⟨r1, A1, t, v, R1, S.ext R E1, p1, mg _ _ _ _ _ (fun t2 A2 q => kn_up E1 q) q⟩
theorem ss_par {i j : Nat} {x y : Str} {ea eb : Expr} {px py pt : Pos} {kt k2 : Nat} {pt2 : Pos} (hc : X.calm = true) (hN : X.N.Nodup) (hi : X.N[i]? = some x) (hj : X.N[j]? = some y) (hij : i ≠ j)
    (hx : X.env.scope.names.lookup x = some .local) (hy : X.env.scope.names.lookup y = some .local) (ma : MonoA aa) (ha : SA G X [ea, eb] aa)
    (hw : swappedStores [.Tuple [.Name x px, .Name y py] kt pt] (.Tuple [ea, eb] k2 pt2) X.env = pure (some [x, y]))
    (hs : swapsWithSole [.Tuple [.Name x px, .Name y py] kt pt] (.Tuple [ea, eb] k2 pt2) pos.line X.env = pure false) :
    SS G X (.Assign [.Tuple [.Name x px, .Name y py] kt pt] (.Tuple [ea, eb] k2 pt2) pos) (sPar i j aa) := fun W tk =>
  (ps_par hc hN hi hj hij hx hy (ha W tk) hw hs).wk fun D s H ⟨r, A, t, R, S, h⟩ => by
    refine ⟨r, A, t, R, S, ma _ _ _ _ _ _ (fun vs A1 ⟨v, w, e, q⟩ r1 H1 xs E1 R1 p1 => ?_) (fun e A1 q => ex_of R S q) h⟩
    subst e
    obtain ⟨x1, xr, rfl, q1, p2⟩ := Reps.cons_iff.mp p1
    obtain ⟨x2, xr2, rfl, q2, p3⟩ := Reps.cons_iff.mp p2
    rw [Reps.nil_iff] at p3; subst p3
    exact ⟨x1, x2, rfl, q r1 H1 _ E1 R1 (((S.ext R E1).set i q1).set j q2)⟩
theorem ss_aug {k : Nat} {x : Str} {op : Operator} {o2 : Op2} {rr : R2} {pos' : Pos} (hN : X.N.Nodup) (hi : X.N[k]? = some x) (hx : Loc X.env.scope x) (hf : X.fn x = true ∨ X.env.scope.names.lookup x = some .local) (md : Mono d) (hd : SE G X e d) (ho : PIp X op rr) (hs : OpS G o2 rr) :
    SS G X (.AugAssign (.Name x pos') op e pos) (sAug k o2 d) := fun W tk =>
  (ps_aug hN hi hx (hd W tk) ho hf).wk fun D s H ⟨r, A, t, R, S, v, ev, h⟩ => by
    obtain ⟨xv, ex, pv⟩ := S.at' k v ev
    refine ⟨xv, ex, r, A, t, R, S, md _ _ _ _ _ _ (fun w A1 q r1 H1 y E1 R1 p1 => ?_) (fun e A1 q => ex_of R S q) h⟩
    refine hs.sim r1 A1 H1 v w xv y _ R1 (Rep.ext R E1 _ _ pv) p1 (hs.mono _ _ _ _ _ (fun z A2 q r2 H2 zx E2 R2 p2 => ?_) q)
    exact q r2 H2 _ (E1.trans E2) R2 ((S.ext R (E1.trans E2)).set k p2)
theorem ss_while (hp : PassesOwn (model X.prog X.w) X.A X.env X.xe) (mt : MonoT tc) (mb : MonoS b) (ht : ST G X c tc) (hb : SSs G X sb b) : SS G X (.While c sb [] pos) (sWhile tc b) := fun W tk =>
  (ps_while hp (ht W tk) (hb W tk)).wk fun D s H ⟨r, A, t, R, S, Wi, ⟨m0, w0⟩, h⟩ => by
    refine ⟨fun m s' H' => ∃ r' A' t', Ext r r' H H' ∧ HRel G.K r' A' H' ∧ SRel G.K r' H' t' s' ∧ Wi m t' A', ⟨m0, r, A, t, Ext.refl r H, R, S, w0⟩, fun m s1 H1 ⟨r1, A1, t1, E1, R1, S1, w1⟩ => ?_⟩
    refine ⟨r1, A1, t1, R1, S1, mt _ _ _ _ _ _ (fun k A2 q r2 H2 E2 R2 => ?_) (fun e A2 q => kx_up (Ext.refl _ _) (ex_of (W := W) (D := D) R1 S1 (kxs_up E1 q))) (h m t1 A1 w1)⟩
    cases k with
    | true =>
      rw [if_pos rfl] at q ⊢
      obtain ⟨N, hN, q⟩ := q
      refine ⟨fun s' H' => ∃ r' A' t', Ext r r' H H' ∧ HRel G.K r' A' H' ∧ SRel G.K r' H' t' s' ∧ N t' A', fun s' H' ⟨r', A', t', E', R', S', n'⟩ => ?_, ?_⟩
      · obtain ⟨m', hm, w'⟩ := hN t' A' n'
        exact ⟨m', hm, r', A', t', E', R', S', w'⟩
      · have E12 := E1.trans E2
        refine ⟨r2, A2, t1, R2, S1.ext R1 E2, mb t1 A2 ⟨N, (ends G W r H D).rt, (ends G W r H D).nx, N, (ends G W r H D).ex⟩ _ ⟨fun t3 A3 n3 r3 H3 s3 E3 R3 S3 => ?_, fun v A3 q => kv_up E12 q, fun t3 A3 q => kn_up E12 q, fun t3 A3 n3 r3 H3 s3 E3 R3 S3 => ?_, fun e t3 A3 q => kxs_up E12 q⟩ q⟩
        · exact ⟨r3, A3, t3, E12.trans E3, R3, S3, n3⟩
        · exact ⟨r3, A3, t3, E12.trans E3, R3, S3, n3⟩
    | false =>
      rw [if_neg Bool.false_ne_true] at q ⊢
      exact q r2 H2 s1 (E1.trans E2) R2 (S1.ext R1 E2)
theorem ss_for (hp : PassesOwn (model X.prog X.w) X.A X.env X.xe) (hc : X.calm = true) (mi : MonoI it) (mg : MonoG g) (mb : MonoS b) (hi : SI G X c e it) (hg : SG G X c g) (hb : SSs G X sb b) (hs : ∀ x, foldedSetIterable e X.env x = pure x) :
    SS G X (.For c e sb [] pos) (sFor it g b) := fun W tk =>
  (ps_for hp hc (hi W tk) hg (hb W tk) hs).wk fun D s H ⟨r, A, t, R, S, h⟩ => by
    refine ⟨r, A, t, R, S, mi _ _ _ _ _ _ (fun k A1 ⟨Wi, ⟨m0, w0⟩, q⟩ r1 H1 J E1 R1 IJ => ?_) (fun e A1 q => ex_of R S q) h⟩
    refine ⟨fun i m s' H' => ∃ r' A' t', Ext r1 r' H1 H' ∧ HRel G.K r' A' H' ∧ SRel G.K r' H' t' s' ∧ Wi i m t' A', ⟨m0, r1, A1, t, Ext.refl r1 H1, R1, S.ext R E1, w0⟩, fun i m s2 H2 ⟨r2, A2, t2, E2, R2, S2, w2⟩ => ?_⟩
    obtain ⟨j1, j2⟩ := IJ r2 A2 H2 E2 R2 i
    have E12 := E1.trans E2
    rcases q i m t2 A2 w2 with ⟨e, q⟩ | ⟨v, e, N, hN, q⟩
    · exact .inl ⟨j2 e, q r2 H2 s2 E12 R2 S2⟩
    · obtain ⟨go, yl⟩ := j1 v e
      refine .inr ⟨go, fun s' H' => ∃ r' A' t', Ext r1 r' H1 H' ∧ HRel G.K r' A' H' ∧ SRel G.K r' H' t' s' ∧ N t' A', fun s' H' ⟨r', A', t', E', R', S', n'⟩ => ?_, fun x H3 y => ?_⟩
      · obtain ⟨m', hm, w'⟩ := hN t' A' n'
        exact ⟨m', hm, r', A', t', E', R', S', w'⟩
      · obtain ⟨E3, R3, p3⟩ := yl x H3 y
        refine ⟨r2, A2, t2, v, R3, S2.ext R2 E3, p3, mg _ _ _ _ _ (fun t4 A4 q r4 H4 s4 E4 R4 S4 => ?_) q⟩
        have E14 := E12.trans (E3.trans E4)
        have E24 := E2.trans (E3.trans E4)
        refine ⟨r4, A4, t4, R4, S4, mb t4 A4 ⟨N, (ends G W r H D).rt, (ends G W r H D).nx, N, (ends G W r H D).ex⟩ _ ⟨fun t5 A5 n5 r5 H5 s5 E5 R5 S5 => ?_, fun v A5 q => kv_up E14 q, fun t5 A5 q => kn_up E14 q, fun t5 A5 n5 r5 H5 s5 E5 R5 S5 => ?_, fun e t5 A5 q => kxs_up E14 q⟩ q⟩
        · exact ⟨r5, A5, t5, E24.trans E5, R5, S5, n5⟩
        · exact ⟨r5, A5, t5, E24.trans E5, R5, S5, n5⟩
end
end EV

namespace EV
open PySem PySem.Spec PyProof.Rows L2 RZ RT

/-! ### enumerate and zip, over lists and tuples alike -/
set_option maxHeartbeats 1000000 in
theorem meets_enumerate_new1B {v : Value} {o : Obj} {H : Heap → Prop} (B : Begins v o H) :
    Meets (Builtin.«enumerate.__new__» ⟨[.type "enumerate", v], []⟩) (fun _ R s => H s.heap ∧
      R (.ok (.ret (.ref (s.heap.push o).objs.size))) { s with heap := (s.heap.push o).push { cls := .type "enumerate", data := .fields #[.none, .bool false, .ref s.heap.objs.size, rawInt 0, .none, .none] } }) :=
  .of_wp fun prog w A R s h => by
    obtain ⟨hp, g, d, tk, os⟩ := s; obtain ⟨h1, h⟩ := h
    have hsub := sub_enumerate
    have q1 : ∀ {A' : Around} {E : Value → Shared → Prop} {Q : Value → Shared → Prop}, Q (.ref hp.objs.size) ⟨hp.push o, g, d, tk, os⟩ → wpAny (model prog w) A' (pyIter v) Q E ⟨hp, g, d, tk, os⟩ :=
      fun q => B.iter prog w _ _ ⟨hp, g, d, tk, os⟩ _ h1 q
    wp_walk using q1
    refine wpAny_stack_any fun st => wpAny_pure ?_
    split
    · rename_i c _ _ _ _ _
      cases (c == Value.type "enumerate")
      · wp_walk using q1
        exact ⟨_, rfl, h⟩
      · wp_walk using q1
        exact ⟨_, rfl, h⟩
    · wp_walk using q1
      exact ⟨_, rfl, h⟩
section
variable {prog : Program} {w : World} {A : Around} {E : Value → Shared → Prop} {s : Shared}
theorem enum_begins1 {v : Value} {o : Obj} {H : Heap → Prop} {Q : Value → Shared → Prop} (B : Begins v o H) (h1 : H s.heap)
    (h : ∀ h', IsEnum h' (s.heap.objs.size + 1) s.heap.objs.size 0 .none → h'.get? s.heap.objs.size = some o → h'.objs.size = s.heap.objs.size + 2 →
      (∀ b o, s.heap.get? b = some o → h'.get? b = some o) → Q (.ref (s.heap.objs.size + 1)) { s with heap := h' }) :
    wpAny (model prog w) A (call (.type "enumerate") [v]) Q E s := by
  refine callType_new F.called_enumerate (by decide) (F.typeCall_enumerate_1 _) (F.newCall_enumerate_1 _) (fun obj => F.args_object_init_2 obj _) F.entry_enumerate_new
    (meets_enumerate_new1B B) ⟨h1, ?_⟩
  have hz : (s.heap.push o).objs.size = s.heap.objs.size + 1 := Heap.size_push ..
  show _ ∧ _
  rw [hz]
  have he : IsEnum ((s.heap.push o).push { cls := .type "enumerate", data := .fields #[.none, .bool false, .ref s.heap.objs.size, rawInt 0, .none, .none] }) (s.heap.objs.size + 1) s.heap.objs.size 0 .none := by
    have := Heap.get?_push_size (s.heap.push o) (o := { cls := .type "enumerate", data := .fields #[.none, .bool false, .ref s.heap.objs.size, rawInt 0, .none, .none] }) rfl
    rw [hz] at this; exact this
  exact ⟨⟨_, he, rfl⟩, h _ he (Heap.get?_push_of_some _ (Heap.get?_push_size _ B.free)) (by rw [Heap.size_push, hz]) fun b o x => Heap.get?_push_of_some _ (Heap.get?_push_of_some _ x)⟩
end
section
variable {prog : Program} {w : World} {A : Around} {E : Value → Shared → Prop} {s : Shared}
theorem pyNext_enumT_end {e it a : Addr} {items : Array Value} {i : Nat} {k : Int} {old : Value} {Q : Option Value → Shared → Prop} (hh : A.handled = none)
    (he : IsEnum s.heap e it k old) (hit : s.heap.IsTupleIter it a i) (ht : s.heap.IsTuple a items) (hx : items[i]? = none)
    (hQ : ∀ h', Heap.ExtBut it s.heap h' → Q none { s with heap := h' }) : wpAny (model prog w) A (pyNext (.ref e)) Q E s := by
  have hT : s.TypeIs (.ref e) "enumerate" := ⟨_, he, rfl⟩
  unfold pyNext
  refine wpAny_bind (wpAny_attempt (wpAny_callSpecial?_slot (name := Str.ofString "__next__") hT F.slot_enumerate_next
    (wpAny_call_entry F.slot_enumerate_next hT F.entry_enumerate_next ?_ (F.args_enumerate_next_1 _))))
  show wpAny _ _ (field (.ref e) 2 >>= _) _ _ _
  refine wpAny_bind (wpAny_field he rfl (x := .ref it) rfl ?_)
  refine wpAny_bind (nextOf_tuple_end hh hit ht hx fun h' x he' hx' => ?_)
  obtain ⟨o, ho, hc⟩ := hx'
  refine wpAny_bind (wpAny_isInstance (T := "StopIteration") (b := true) ⟨o, ho, hc⟩ isSubtype_stop ?_)
  exact wpAny_pure (hQ _ he')
end
/-- a list (false) or a tuple (true) of the hand heap -/
def SqB (K : PySem.W.Frag) (tp : Bool) (H : Hp) (a : Addr) (xs : List V) : Prop := if tp = true then SqT K H a xs else SqL K H a xs
def SeB (tp : Bool) (h : Heap) (a : Addr) (its : Array Value) : Prop := if tp = true then h.IsTuple a its else h.IsList a its
def ItB (tp : Bool) (h : Heap) (it a : Addr) (i : Nat) : Prop := if tp = true then h.IsTupleIter it a i else h.IsListIter it a i
def obB (tp : Bool) (a : Addr) : Obj := if tp = true then { cls := .type "tuple_iterator", data := .fields #[.ref a, .int 0 0] } else { cls := .type "list_iterator", data := .fields #[.ref a, .int 0 0] }
theorem begins_B (tp : Bool) (a : Addr) (its : Array Value) : Begins (.ref a) (obB tp a) fun h => SeB tp h a its := by
  cases tp
  · exact begins_list a its
  · exact begins_tuple a its
theorem draws_B {prog : Program} {w : World} {A : Around} (hh : A.handled = none) (tp : Bool) (it a : Addr) (hne : a ≠ it) (its : Array Value) :
    Draws prog w A it [it, a] its.size (fun i v => its[i]? = some v) (fun i h => ItB tp h it a i ∧ SeB tp h a its) := by
  cases tp
  · exact Draws.list hh it a hne its
  · exact Draws.tuple hh it a hne its
theorem draws_end {prog : Program} {w : World} {A : Around} (hh : A.handled = none) (tp : Bool) (it a : Addr) (hne : a ≠ it) (its : Array Value) (n : Nat) (hn : its[n]? = none) :
    Draws prog w A it [it, a] n (fun _ _ => True) (fun i h => i = n ∧ ItB tp h it a n ∧ SeB tp h a its) where
  live := fun i h st => by
    cases tp
    · obtain ⟨_, ⟨o, ho, _⟩, _⟩ := st; exact ⟨o, ho⟩
    · obtain ⟨_, ⟨o, ho, _⟩, _⟩ := st; exact ⟨o, ho⟩
  frame := fun i h h' st k => by
    refine ⟨st.1, ?_⟩
    cases tp
    · exact ⟨Heap.IsListIter.at st.2.1 fun o e => k it (by simp) o e, Heap.IsList.at st.2.2 fun o e => k a (by simp) o e⟩
    · exact ⟨Heap.IsTupleIter.at st.2.1 fun o e => k it (by simp) o e, Heap.IsTuple.at st.2.2 fun o e => k a (by simp) o e⟩
  item := fun i s Q E hi st hQ => by have := st.1; omega
  done := fun s Q E st hE => by
    cases tp
    · exact wpAny_nextOf_list_end hh st.2.1 st.2.2 hn hE
    · exact nextOf_tuple_end hh st.2.1 st.2.2 hn hE
theorem itB_at {tp : Bool} {h h' : Heap} {it a : Addr} {i : Nat} (x : ItB tp h it a i) (k : ∀ o, h.get? it = some o → h'.get? it = some o) : ItB tp h' it a i := by
  cases tp
  · exact Heap.IsListIter.at x k
  · exact Heap.IsTupleIter.at x k
theorem itB_ob {tp : Bool} {h : Heap} {it a : Addr} {i : Nat} (x : ItB tp h it a i) : ∃ o vs, h.get? it = some o ∧ o.data = .fields vs := by
  cases tp
  · obtain ⟨o, ho, hc, hd⟩ := x; exact ⟨o, _, ho, hd⟩
  · obtain ⟨o, ho, hc, hd⟩ := x; exact ⟨o, _, ho, hd⟩
theorem itB_new {tp : Bool} {h : Heap} {it a : Addr} (e : h.get? it = some (obB tp a)) : ItB tp h it a 0 := by
  cases tp
  · exact ⟨_, e, rfl, rfl⟩
  · exact ⟨_, e, rfl, rfl⟩
section
variable {X : Cx} {pins : List (Addr × Obj)} {σ : L2.St} {H : Hp} {s : Shared}
theorem inv_B (I : Inv X pins σ H s) {tp : Bool} {a : Addr} {xs : List V} (q : SqB X.K tp H a xs) : ∃ its, Vals xs its ∧ SeB tp s.heap a its.toArray ∧ a < s.heap.objs.size := by
  cases tp
  · obtain ⟨its, rv, p, _⟩ := I.list q
    exact ⟨its, rv, p.isList, p.lt⟩
  · obtain ⟨its, rv, p, _⟩ := I.tuple q
    have p' : s.heap.IsTuple a its.toArray := p
    obtain ⟨o1, ho1, _⟩ := id p'
    exact ⟨its, rv, p', Heap.lt_size ho1⟩
theorem inj_B (I : Inv X pins σ H s) {tp : Bool} {a : Addr} {xs ys : List V} (q : SqB X.K tp H a xs) (q2 : SqB X.K tp H a ys) : xs = ys := by
  cases tp
  · exact I.list_inj q q2
  · exact I.tuple_inj q q2
end
def IteB (K : PySem.W.Frag) (tp : Bool) (a : Addr) : It :=
  ⟨fun i H => ∃ (xs : List V) (x : V), SqB K tp H a xs ∧ xs[i]? = some x, fun i H v H' => ∃ T x, v = .ref T ∧ H T = none ∧ H' = upd H T (.tup [.int (i : Nat), x]) ∧ ∀ xs, SqB K tp H a xs → xs[i]? = some x, fun i H => ∃ xs : List V, SqB K tp H a xs ∧ xs.length ≤ i⟩
theorem turn_enumB {P : Program} {w : World} {K : PySem.W.Frag} {elts : List Expr} {kk : Nat} {tpos : Pos} (tp : Bool) (a e it : Addr) (hne : e ≠ it) (hea : e ≠ a) (hia : a ≠ it) :
    Turn P w K (.Tuple elts kk tpos) (IteB K tp a) [e, it] e (fun i h => (∃ old, IsEnum h e it ((i : Nat) : Int) old) ∧ ItB tp h it a i) where
  mem := by simp
  obj := fun i h st b hb => by
    obtain ⟨⟨old, he⟩, hit⟩ := st
    have e' : b = e ∨ b = it := by simpa using hb
    rcases e' with z | z
    · rw [z]; exact ⟨_, he, fun v q => nomatch q⟩
    · obtain ⟨o, vs, ho, hd⟩ := itB_ob hit
      rw [z]; exact ⟨o, ho, fun v q => by rw [hd] at q; cases q⟩
  keep := fun i h h' st k => let ⟨⟨old, he⟩, hi⟩ := st; ⟨⟨old, k e (by simp) _ he⟩, itB_at hi fun o q => k it (by simp) o q⟩
  item := by
    intro X hP hw hK hc i pins s σ H E I hf st hg
    subst hP hw hK
    obtain ⟨⟨old, he⟩, hit⟩ := st
    obtain ⟨xs, x, hq, hx⟩ := hg
    obtain ⟨its, rv, p, _⟩ := inv_B I hq
    obtain ⟨u, hu, ru⟩ := rv.get hx
    have hel : e < s.heap.objs.size := Heap.lt_size he
    have hil : it < s.heap.objs.size := by obtain ⟨o, vs, q, _⟩ := itB_ob hit; exact Heap.lt_size q
    have hlt : i < its.toArray.size := by
      rw [List.size_toArray]
      exact (List.getElem?_eq_some_iff.mp hu).1
    refine wpAny_pyNext_enum_itemD (draws_B (prog := X.prog) (w := X.w) (A := X.A.in1) (I.ok.hd hc) tp it a hia its.toArray) he ⟨hit, p⟩ hlt hne (by simp [hne, hea]) fun u' h' tk hu' ho hit' hT hsz hk => ?_
    have hux : u' = u := by
      have : its.toArray[i]? = some u := by simpa using hu
      rw [this] at hu'; cases hu'; rfl
    subst hux
    refine ⟨_, rfl, wpAny_letOwnedTupleGo_enum (s := { s with heap := h', toks := tk + 1 }) ho fun h'' he' sb => ?_⟩
    have hT2 : h''.get? s.heap.objs.size = some { cls := .type "tuple", data := .seq #[.int i tk, u'] } := (sb.2 _ (Nat.ne_of_gt hel)).trans hT
    have new : ObjOk X.prog X.w (upd H s.heap.objs.size (.tup [.int (i : Nat), x])) h'' s.heap.objs.size (.tup [.int (i : Nat), x]) :=
      ⟨by show 2 ≤ sizeLine; decide, [.int i tk, u'], .cons ⟨_, rfl⟩ (.cons ru .nil), ⟨_, hT2, rfl, _, rfl⟩⟩
    have I1 : Inv X pins σ (upd H s.heap.objs.size (.tup [.int (i : Nat), x])) { s with heap := h'', toks := tk + 1 } :=
      I.turnedNew (ch := [e, it]) (fun b ob hb q => (sb.2 b (fun z => hb (by simp [z]))).trans (hk b ob (fun z => hb (by simp [z])) (fun z => hb (by simp [z])) q)) hf (Nat.le_refl _) new
    refine ⟨.ref s.heap.objs.size, _, I1, rfl, ⟨_, x, rfl, I.hok.fresh (Nat.le_refl _), rfl, fun ys hy => by rw [inj_B I hy hq]; exact hx⟩, ⟨⟨u', ?_⟩, itB_at hit'.1 fun o q => (sb.2 it (Ne.symm hne)).trans q⟩, fun b hb => ?_⟩
    · have e1 : ((i + 1 : Nat) : Int) = (i : Int) + 1 := by omega
      rw [e1]; exact he'
    · have hb' : b < s.heap.objs.size := by
        have e' : b = e ∨ b = it := by simpa using hb
        rcases e' with z | z
        · rw [z]; exact hel
        · rw [z]; exact hil
      rw [upd_ne (Nat.ne_of_lt hb')]
      exact (hf b hb).1
  done := by
    intro X hP hw hK hc i pins s σ H E I hf st hg
    subst hP hw hK
    obtain ⟨⟨old, he⟩, hit⟩ := st
    obtain ⟨xs, hq, hx⟩ := hg
    obtain ⟨its, rv, p, _⟩ := inv_B I hq
    obtain ⟨f0, f1, f2, f3, f4, f5⟩ := hf it (by simp)
    have hl := rv.length
    cases tp
    · exact wpAny_pyNext_enum_end (I.ok.hd hc) he hit p (by simp; omega) fun h' eb => ⟨rfl, I.turned (t' := s.toks) (fun b o hb q => eb b o hb q) f0 f1 f3 f4 f5⟩
    · exact pyNext_enumT_end (I.ok.hd hc) he hit p (by simp; omega) fun h' eb => ⟨rfl, I.turned (t' := s.toks) (fun b o hb q => eb b o hb q) f0 f1 f3 f4 f5⟩
  self := fun A i s Q E st h => let ⟨⟨_, he⟩, _⟩ := st; wpAny_pyIter_enum he h
def iEnumB (K : PySem.W.Frag) (ta : TA) : TI := fun σ H R => ta σ H fun vs H1 => ∃ tp a xs, vs = [.ref a] ∧ SqB K tp H1 a xs ∧ R (IteB K tp a) H1
theorem pi_enumB {X : Cx} {e : Expr} {ta : TA} {p pos tpos : Pos} {elts : List Expr} {kk : Nat} (hg : Gl X "enumerate") (hm : X.mg "enumerate" = none) (ha : PA X [e] ta) (hs : starEach [e] X.env = [(false, eval e X.env)] := by rfl) :
    PI X (.Tuple elts kk tpos) (.Call (.Name "enumerate" p) [e] [] pos) (iEnumB X.K ta) := by
  refine ⟨fun pins s σ H R I h => ?_⟩
  refine Call_ (ld_blt I hg hm boot_enumerate (PyProof.Rows.callWith_type1 (thn (ha.run pos pins s σ H _ I h) fun us s1 ⟨vs, H1, I1, r1, q1⟩ => ?_) hs rfl))
  obtain ⟨tp, a, xs, ex, hq, q⟩ := q1
  subst ex
  cases r1 with
  | cons r rr =>
    cases rr
    cases r
    obtain ⟨its, rv, p', hal⟩ := inv_B I1 hq
    refine enum_begins1 (begins_B tp a its.toArray) p' fun h' he hit hsz hk => wpAny_pyIter_enum he ?_
    have I2 : Inv X pins σ H1 { s1 with heap := h' } := I1.kept (t' := s1.toks) hk
    refine ⟨s1.heap.objs.size + 1, [s1.heap.objs.size + 1, s1.heap.objs.size], _, _, H1, rfl, I2, turn_enumB tp a (s1.heap.objs.size + 1) s1.heap.objs.size (Nat.succ_ne_self _) (Nat.ne_of_gt (Nat.lt_succ_of_lt hal)) (Nat.ne_of_lt hal), ⟨⟨.none, he⟩, itB_new hit⟩, fun b hb => ?_, q⟩
    have e' : b = s1.heap.objs.size + 1 ∨ b = s1.heap.objs.size := by simpa using hb
    have hle : s1.heap.objs.size ≤ b := by
      rcases e' with z | z
      · rw [z]; exact Nat.le_add_right _ _
      · rw [z]; exact Nat.le_refl _
    exact I1.fpOk hle (I1.hok.fresh hle)
/-! zip -/
def ItzB (K : PySem.W.Frag) (t1 t2 : Bool) (a b : Addr) : It :=
  ⟨fun i H => ∃ (xs ys : List V) (x y : V), SqB K t1 H a xs ∧ SqB K t2 H b ys ∧ xs[i]? = some x ∧ ys[i]? = some y,
    fun i H v H' => ∃ T x y, v = .ref T ∧ H T = none ∧ H' = upd H T (.tup [x, y]) ∧ (∀ xs, SqB K t1 H a xs → xs[i]? = some x) ∧ ∀ ys, SqB K t2 H b ys → ys[i]? = some y,
    fun i H => ∃ xs ys : List V, SqB K t1 H a xs ∧ SqB K t2 H b ys ∧ (xs.length ≤ i ∨ ys.length ≤ i)⟩
theorem turn_zipB {P : Program} {w : World} {K : PySem.W.Frag} {elts : List Expr} {kk : Nat} {tpos : Pos} (t1 t2 : Bool) {a b z TI TO i1 i2 : Addr} (D : ZipSep2 z TI TO i1 i2 [i1, a] [i2, b]) (Tz : TI ≠ TO) (Ti1 : TI ≠ i1) (Ti2 : TI ≠ i2) (h1a : a ≠ i1) (h2b : b ≠ i2) :
    Turn P w K (.Tuple elts kk tpos) (ItzB K t1 t2 a b) [z, TI, TO, i1, i2] z (fun i h => IsZip h z TI TO .none ∧ IsTupOf2 h TI (.ref i1) (.ref i2) ∧ (∃ x y, IsTupOf2 h TO x y) ∧ ItB t1 h i1 a i ∧ ItB t2 h i2 b i) where
  mem := by simp
  obj := fun i h st c hc => by
    obtain ⟨hz, hTI, ⟨x, y, hTO⟩, q1, q2⟩ := st
    have e' : c = z ∨ c = TI ∨ c = TO ∨ c = i1 ∨ c = i2 := by simpa using hc
    rcases e' with q | q | q | q | q
    · rw [q]; exact ⟨_, hz, fun v q => nomatch q⟩
    · rw [q]; exact ⟨_, hTI, fun v q => nomatch q⟩
    · rw [q]; exact ⟨_, hTO, fun v q => nomatch q⟩
    · obtain ⟨o, vs, ho, hd⟩ := itB_ob q1
      rw [q]; exact ⟨o, ho, fun v q => by rw [hd] at q; cases q⟩
    · obtain ⟨o, vs, ho, hd⟩ := itB_ob q2
      rw [q]; exact ⟨o, ho, fun v q => by rw [hd] at q; cases q⟩
  keep := fun i h h' st k => by
    obtain ⟨hz, hTI, ⟨x, y, hTO⟩, h1, h2⟩ := st
    exact ⟨k z (by simp) _ hz, k TI (by simp) _ hTI, ⟨x, y, k TO (by simp) _ hTO⟩, itB_at h1 fun o q => k i1 (by simp) o q, itB_at h2 fun o q => k i2 (by simp) o q⟩
  item := by
    intro X hP hw hK hc i pins s σ H E I hf st hg
    subst hP hw hK
    obtain ⟨hz, hTI, ⟨x0, y0, hTO⟩, h1, h2⟩ := st
    obtain ⟨xs, ys, x, y, hqx, hqy, hx, hy⟩ := hg
    obtain ⟨its, rv, p, _⟩ := inv_B I hqx
    obtain ⟨its2, rv2, p2, _⟩ := inv_B I hqy
    obtain ⟨u, hu, ru⟩ := rv.get hx
    obtain ⟨u2, hu2, ru2⟩ := rv2.get hy
    have hzl : z < s.heap.objs.size := Heap.lt_size hz
    have l1 : i < its.toArray.size := by rw [List.size_toArray]; exact (List.getElem?_eq_some_iff.mp hu).1
    have l2 : i < its2.toArray.size := by rw [List.size_toArray]; exact (List.getElem?_eq_some_iff.mp hu2).1
    refine wpAny_pyNext_zipD2_item D (draws_B (prog := X.prog) (w := X.w) (A := X.A.in1) (I.ok.hd hc) t1 i1 a h1a its.toArray) (draws_B (prog := X.prog) (w := X.w) (A := X.A.in1) (I.ok.hd hc) t2 i2 b h2b its2.toArray) hz hTI hTO ⟨h1, p⟩ ⟨h2, p2⟩ l1 l2 fun u' u2' h' tk hu' hu2' z' TO' h1' h2' hT hsz hk => ?_
    have hux : u' = u := by
      have : its.toArray[i]? = some u := by simpa using hu
      rw [this] at hu'; cases hu'; rfl
    have hux2 : u2' = u2 := by
      have : its2.toArray[i]? = some u2 := by simpa using hu2
      rw [this] at hu2'; cases hu2'; rfl
    subst hux hux2
    refine ⟨_, rfl, wpAny_letOwnedTupleGo_zip (s := { s with heap := h', toks := tk }) z' fun h'' z'' sb => ?_⟩
    have hT2 : h''.get? s.heap.objs.size = some { cls := .type "tuple", data := .seq #[u', u2'] } := (sb.2 _ (Nat.ne_of_gt hzl)).trans hT
    have new : ObjOk X.prog X.w (upd H s.heap.objs.size (.tup [x, y])) h'' s.heap.objs.size (.tup [x, y]) :=
      ⟨by show 2 ≤ sizeLine; decide, [u', u2'], .cons ru (.cons ru2 .nil), ⟨_, hT2, rfl, _, rfl⟩⟩
    have I1 : Inv X pins σ (upd H s.heap.objs.size (.tup [x, y])) { s with heap := h'', toks := tk } :=
      I.turnedNew (ch := [z, TI, TO, i1, i2]) (fun c o hb q => (sb.2 c (fun q' => hb (by simp [q']))).trans (hk c o (fun q' => hb (by simp [q'])) (fun q' => hb (by simp [q'])) (fun q' => hb (by simp [q'])) (fun q' => hb (by simp [q'])) q)) hf (Nat.le_refl _) new
    refine ⟨.ref s.heap.objs.size, _, I1, rfl, ⟨_, x, y, rfl, I.hok.fresh (Nat.le_refl _), rfl, fun l hl => by rw [inj_B I hl hqx]; exact hx, fun l hl => by rw [inj_B I hl hqy]; exact hy⟩, ⟨z'', ?_, ⟨u', u2', ?_⟩, ?_, ?_⟩, fun c hcm => ?_⟩
    · exact (sb.2 _ D.TIz).trans (hk _ _ D.TIz Tz Ti1 Ti2 hTI)
    · exact (sb.2 _ D.TOz).trans TO'
    · exact itB_at h1'.1 fun o q => (sb.2 _ D.zi1.symm).trans q
    · exact itB_at h2'.1 fun o q => (sb.2 _ D.zi2.symm).trans q
    · have hlt : c < s.heap.objs.size := by
        have e' : c = z ∨ c = TI ∨ c = TO ∨ c = i1 ∨ c = i2 := by simpa using hcm
        rcases e' with q | q | q | q | q
        · rw [q]; exact hzl
        · rw [q]; exact Heap.lt_size hTI
        · rw [q]; exact Heap.lt_size hTO
        · rw [q]; obtain ⟨_, _, e1, _⟩ := itB_ob h1; exact Heap.lt_size e1
        · rw [q]; obtain ⟨_, _, e2, _⟩ := itB_ob h2; exact Heap.lt_size e2
      rw [upd_ne (Nat.ne_of_lt hlt)]
      exact (hf c hcm).1
  done := by
    intro X hP hw hK hc i pins s σ H E I hf st hg
    subst hP hw hK
    obtain ⟨hz, hTI, ⟨x0, y0, hTO⟩, h1, h2⟩ := st
    obtain ⟨xs, ys, hqx, hqy, hend⟩ := hg
    obtain ⟨its, rv, p, _⟩ := inv_B I hqx
    obtain ⟨its2, rv2, p2, _⟩ := inv_B I hqy
    have l1 := rv.length
    have l2 := rv2.length
    have fin : ∀ (h' : Heap) (tk : Nat), (∀ c o, c ≠ z → c ≠ TO → c ≠ i1 → c ≠ i2 → s.heap.get? c = some o → h'.get? c = some o) → (none : Option Value) = none ∧ Inv X pins σ H { s with heap := h', toks := tk } := fun h' tk hk => And.intro rfl (I.turnedL (t' := tk) (h' := h') (ch := [z, TI, TO, i1, i2]) (fun c o hb q =>
      hk c o (fun q' => hb (by simp [q'])) (fun q' => hb (by simp [q'])) (fun q' => hb (by simp [q'])) (fun q' => hb (by simp [q'])) q) hf)
    have r1 := draws_B (prog := X.prog) (w := X.w) (A := X.A.in1) (I.ok.hd hc) t1 i1 a h1a its.toArray
    have r2 := draws_B (prog := X.prog) (w := X.w) (A := X.A.in1) (I.ok.hd hc) t2 i2 b h2b its2.toArray
    have e1 := fun h => draws_end (prog := X.prog) (w := X.w) (A := X.A.in1) (I.ok.hd hc) t1 i1 a h1a its.toArray i h
    have e2 := fun h => draws_end (prog := X.prog) (w := X.w) (A := X.A.in1) (I.ok.hd hc) t2 i2 b h2b its2.toArray i h
    by_cases g1 : its.toArray.size ≤ i
    · by_cases g2 : its2.toArray.size ≤ i
      · exact wpAny_pyNext_zipD2_end D (e1 (Array.getElem?_eq_none g1)) (e2 (Array.getElem?_eq_none g2)) hz hTI hTO ⟨rfl, h1, p⟩ ⟨rfl, h2, p2⟩ (Nat.le_refl _) (Nat.le_refl _) (.inl rfl) fin
      · exact wpAny_pyNext_zipD2_end D (e1 (Array.getElem?_eq_none g1)) r2 hz hTI hTO ⟨rfl, h1, p⟩ ⟨h2, p2⟩ (Nat.le_refl _) (Nat.le_of_not_le g2) (.inl rfl) fin
    · have g2 : its2.toArray.size ≤ i := by
        simp only [List.size_toArray] at g1 ⊢
        omega
      exact wpAny_pyNext_zipD2_end D r1 (e2 (Array.getElem?_eq_none g2)) hz hTI hTO ⟨h1, p⟩ ⟨rfl, h2, p2⟩ (Nat.le_of_not_le g1) (Nat.le_refl _) (.inr rfl) fin
  self := fun A i s Q E st h => wpAny_pyIter_zip st.1 h
theorem zip_ne (N : Addr) (i j : Nat) (h : i ≠ j) : N + i ≠ N + j := fun e => h (Nat.add_left_cancel e)
theorem addr_ne {a b : Nat} (h : a ≠ b) : @Ne Addr a b := h
theorem notin2 {z p q : Nat} (h1 : z ≠ p) (h2 : z ≠ q) : ¬ (@Membership.mem Addr (List Addr) _ [p, q] z) := fun h => by
  rcases List.mem_cons.mp h with e | h
  · exact h1 e
  · exact h2 (List.mem_singleton.mp h)
theorem zip_sep (N a b : Nat) (h : a < N) (h2 : b < N) : ZipSep2 (N + 4 : Nat) (N + 2 : Nat) (N + 3 : Nat) N (N + 1 : Nat) [N, a] [(N + 1 : Nat), b] where
  TIz := addr_ne (by omega)
  TOz := addr_ne (by omega)
  TITO := addr_ne (by omega)
  TIi1 := addr_ne (by omega)
  mem1 := List.mem_cons_self
  zf1 := notin2 (by omega) (by omega)
  Tf1 := notin2 (by omega) (by omega)
  TIi2 := addr_ne (by omega)
  mem2 := List.mem_cons_self
  zf2 := notin2 (by omega) (by omega)
  Tf2 := notin2 (by omega) (by omega)
  sep1_2 := notin2 (by omega) (by omega)
  sep2_1 := notin2 (by omega) (by omega)
def iZipB (K : PySem.W.Frag) (ta : TA) : TI := fun σ H R => ta σ H fun vs H1 => ∃ t1 t2 a b xs ys, vs = [.ref a, .ref b] ∧ SqB K t1 H1 a xs ∧ SqB K t2 H1 b ys ∧ R (ItzB K t1 t2 a b) H1
theorem pi_zipB {X : Cx} {e e2 : Expr} {ta : TA} {p pos tpos : Pos} {elts : List Expr} {kk : Nat} (hg : Gl X "zip") (hm : X.mg "zip" = none) (ha : PA X [e, e2] ta)
    (hs : starEach [e, e2] X.env = (false, eval e X.env) :: starEach [e2] X.env := by rfl) (hpl : (backTo pos (starEach [e2] X.env)).any (·.1) = false := by rfl) :
    PI X (.Tuple elts kk tpos) (.Call (.Name "zip" p) [e, e2] [] pos) (iZipB X.K ta) := by
  refine ⟨fun pins s σ H R I h => ?_⟩
  refine Call_ (ld_blt I hg hm PyProof.Rows.boot_zip (PyProof.Rows.callWith_type1 (thn (ha.run pos pins s σ H _ I h) fun us s1 ⟨vs, H1, I1, r1, q1⟩ => ?_) hs hpl))
  obtain ⟨t1, t2, a, b, xs, ys, ex, hqx, hqy, q⟩ := q1
  subst ex
  cases r1 with
  | cons r rr =>
    cases rr with
    | cons r' rr =>
      cases rr
      cases r
      cases r'
      have fresh5 : ∀ c, c ∈ [s1.heap.objs.size + 4, s1.heap.objs.size + 2, s1.heap.objs.size + 3, s1.heap.objs.size, s1.heap.objs.size + 1] → FpOk X pins H1 c := fun c hcm => by
        have e' : c = s1.heap.objs.size + 4 ∨ c = s1.heap.objs.size + 2 ∨ c = s1.heap.objs.size + 3 ∨ c = s1.heap.objs.size ∨ c = s1.heap.objs.size + 1 := by simpa using hcm
        have hle : s1.heap.objs.size ≤ c := by
          rcases e' with z | z | z | z | z
          · rw [z]; exact Nat.le_add_right _ _
          · rw [z]; exact Nat.le_add_right _ _
          · rw [z]; exact Nat.le_add_right _ _
          · rw [z]; exact Nat.le_refl _
          · rw [z]; exact Nat.le_add_right _ _
        exact I1.fpOk hle (I1.hok.fresh hle)
      obtain ⟨its, rv, p1, ha'⟩ := inv_B I1 hqx
      obtain ⟨its2, rv2, p2, hb'⟩ := inv_B I1 hqy
      refine zip_begins2 (begins_B t1 a its.toArray) (begins_B t2 b its2.toArray) p1 p2 fun h' hz hTI hTO h1 h2 hsz hk => wpAny_pyIter_zip hz ?_
      have I2 : Inv X pins σ H1 { s1 with heap := h' } := I1.kept (t' := s1.toks) hk
      generalize s1.heap.objs.size = N at *
      refine ⟨N + 4, [N + 4, N + 2, N + 3, N, N + 1], _, _, H1, rfl, I2, turn_zipB t1 t2 (a := a) (b := b) (z := N + 4) (TI := N + 2) (TO := N + 3) (i1 := N) (i2 := N + 1) ?_ ?_ ?_ ?_ ?_ ?_, ⟨hz, hTI, ⟨_, _, hTO⟩, itB_new h1, itB_new h2⟩, fresh5, q⟩
      · exact zip_sep N a b ha' hb'
      all_goals first | exact Nat.ne_of_lt ha' | exact Nat.ne_of_lt (Nat.lt_succ_of_lt hb') | exact zip_ne _ _ _ (by decide) | exact zip_ne _ _ 0 (by decide)
end EV

namespace EV
open PySem PySem.Spec PyProof.Rows L2 RZ RT

/-! ### walks -/
def wkL (n : Nat) : Wk := fun i A => match A[n]? with
  | some (.lst xs) => some xs[i]?
  | _ => none
def lstAt (A : AH) (n : Nat) : Option (List Val) := match A[n]? with
  | some (.lst xs) => some xs
  | _ => none
def wkT (vs : List Val) : Wk := fun i _ => some vs[i]?
def wkR (lo c : Int) (n : Nat) : Wk := fun i _ => some (if i < n then some (.int (lo + (i : Nat) * c)) else none)
def wkS (x : Str) : Wk := fun i _ => some (x.cps[i]?.map fun c => .str ⟨#[c]⟩)
def wkV (n l : Nat) : Wk := fun i A => (lstAt A n).bind fun zs => if zs.length = l then some zs.reverse[i]? else none
def wkE (k : Wk) : Wk := fun i A => (k i A).map fun o => o.map fun v => .tup [.int (i : Nat), v]
def wkZ (k l : Wk) : Wk := fun i A => match k i A, l i A with
  | some (some v), some (some w) => some (some (.tup [v, w]))
  | some none, some _ => some none
  | some _, some none => some none
  | _, _ => none
theorem wkL_eq (n i : Nat) (A : AH) : wkL n i A = (lstAt A n).map fun xs => xs[i]? := by
  unfold wkL lstAt
  split <;> rfl
def keyV : Key → Val
  | .inl i => .int i
  | .inr x => .str x
open Classical in
/-- the keys of a locked dict -/
noncomputable def wkK (n : Nat) (g : L2.HO) : Wk := fun i A => match A[n]? with
  | some (.dz kvs g') => if g' = g then some ((kvs.map fun kv => keyV kv.1)[i]?) else none
  | _ => none
/-- over a value: a tuple, a list, a text, a locked dict -/
def iVal (d : Den) : DenI := fun t A Q E => d t A (fun v A1 => match v with
  | .tup vs => Q (wkT vs) A1
  | .wt vs => Q (wkT vs) A1
  | .ref n => ((∃ xs, lstAt A1 n = some xs) ∧ Q (wkL n) A1) ∨ ∃ kvs g, A1[n]? = some (.dz kvs g) ∧ Q (wkK n g) A1
  | .str x => Q (wkS x) A1
  | _ => False) E
def sm62 (i : Int) : Prop := -(2 ^ 62) ≤ i ∧ i < 2 ^ 62
def iRng1 (d : DenA) : DenI := fun t A Q E => d t A (fun vs A1 => ∃ j, vs = [.int j] ∧ sm62 j ∧ Q (wkR 0 1 j.toNat) A1) E
def iRng2 (d : DenA) : DenI := fun t A Q E => d t A (fun vs A1 => ∃ i j, vs = [.int i, .int j] ∧ sm62 i ∧ sm62 j ∧ Q (wkR i 1 (j - i).toNat) A1) E
def iRng3 (d : DenA) : DenI := fun t A Q E => d t A (fun vs A1 => ∃ i j c n, vs = [.int i, .int j, .int c] ∧ RgC i j c n ∧ Q (wkR i c n) A1) E
def iRev (d : Den) : DenI := fun t A Q E => d t A (fun v A1 => match v with
  | .tup vs => Q (wkT vs.reverse) A1
  | .wt vs => Q (wkT vs.reverse) A1
  | .ref n => ∃ xs, lstAt A1 n = some xs ∧ Q (wkV n xs.length) A1
  | _ => False) E
/-- a walk over a list or a tuple -/
def seqW (A : AH) (v : Val) (k : Wk) : Prop := (∃ n xs, v = .ref n ∧ lstAt A n = some xs ∧ k = wkL n) ∨ ∃ xs, (v = .tup xs ∨ v = .wt xs) ∧ k = wkT xs
def iEnum (d : DenA) : DenI := fun t A Q E => d t A (fun vs A1 => ∃ v k, vs = [v] ∧ seqW A1 v k ∧ Q (wkE k) A1) E
def iZip (d : DenA) : DenI := fun t A Q E => d t A (fun vs A1 => ∃ v w k l, vs = [v, w] ∧ seqW A1 v k ∧ seqW A1 w l ∧ Q (wkZ k l) A1) E
section
variable {d : Den} {aa : DenA}
theorem mono_ival (md : Mono d) : MonoI (iVal d) := fun t A Q Q' E E' h k q => md _ _ _ _ _ _ (fun v A1 q => by
  cases v with
  | tup vs => exact h _ _ q
  | wt vs => exact h _ _ q
  | ref n =>
    rcases q with q | ⟨kvs, g, e, q⟩
    · exact .inl ⟨q.1, h _ _ q.2⟩
    · exact .inr ⟨kvs, g, e, h _ _ q⟩
  | str x => exact h _ _ q
  | _ => exact q) k q
theorem mono_irng1 (md : MonoA aa) : MonoI (EV.iRng1 aa) := fun t A Q Q' E E' h k q => md _ _ _ _ _ _ (fun v A1 ⟨j, e, s, q⟩ => ⟨j, e, s, h _ _ q⟩) k q
theorem mono_irng2 (md : MonoA aa) : MonoI (EV.iRng2 aa) := fun t A Q Q' E E' h k q => md _ _ _ _ _ _ (fun v A1 ⟨i, j, e, s, s', q⟩ => ⟨i, j, e, s, s', h _ _ q⟩) k q
theorem mono_irng3 (md : MonoA aa) : MonoI (EV.iRng3 aa) := fun t A Q Q' E E' h k q => md _ _ _ _ _ _ (fun v A1 ⟨i, j, c, n, e, s, q⟩ => ⟨i, j, c, n, e, s, h _ _ q⟩) k q
theorem mono_irev (md : Mono d) : MonoI (EV.iRev d) := fun t A Q Q' E E' h k q => md _ _ _ _ _ _ (fun v A1 q => by
  cases v with
  | tup vs => exact h _ _ q
  | wt vs => exact h _ _ q
  | ref n => obtain ⟨xs, e, q⟩ := q; exact ⟨xs, e, h _ _ q⟩
  | _ => exact q) k q
theorem mono_ienum (md : MonoA aa) : MonoI (EV.iEnum aa) := fun t A Q Q' E E' h k q => md _ _ _ _ _ _ (fun v A1 ⟨w, k, e, l, q⟩ => ⟨w, k, e, l, h _ _ q⟩) k q
theorem mono_izip (md : MonoA aa) : MonoI (EV.iZip aa) := fun t A Q Q' E E' h k q => md _ _ _ _ _ _ (fun v A1 ⟨v, w, k, l, e, l1, l2, q⟩ => ⟨v, w, k, l, e, l1, l2, h _ _ q⟩) k q
end
section
variable {G : Gc} {r : List Addr} {A : AH} {H : Hp}
theorem HRel.list (R : HRel G.K r A H) {n : Nat} {a : Addr} {xs : List Val} (e : r[n]? = some a) (h : lstAt A n = some xs) : ∃ ys, SqL G.K H a ys ∧ Reps G.K r H xs ys := by
  unfold lstAt at h
  split at h
  · rename_i zs e2
    cases h
    obtain ⟨ys, ey, q⟩ := R.ob n a _ e e2
    exact ⟨ys, SqL.of ey, q⟩
  · cases h
/-- what is read at an address is one list -/
theorem rd_inj {K : PySem.W.Frag} {u v : HO} {a : Addr} (h : Rd H a u) (h' : Rd H a v) (hu : ∀ o w, u ≠ .frz o w) (hv : ∀ o w, v ≠ .frz o w) : u = v := by
  rcases h with h | ⟨o, h⟩ <;> rcases h' with h' | ⟨o', h'⟩ <;> rw [h] at h' <;> cases h'
  · rfl
  · exact absurd rfl (hu _ _)
  · exact absurd rfl (hv _ _)
  · rfl
theorem HRel.rd (R : HRel G.K r A H) {n : Nat} {a : Addr} {xs : List Val} (e : r[n]? = some a) (h : lstAt A n = some xs) : ∃ ys, Rd H a (.lst ys) ∧ Reps G.K r H xs ys := by
  unfold lstAt at h
  split at h
  · rename_i zs e2
    cases h
    obtain ⟨ys, ey, q⟩ := R.ob n a _ e e2
    exact ⟨ys, .inl ey, q⟩
  · cases h
theorem itr_list {n : Nat} {a : Addr} (R : HRel G.K r A H) (e : r[n]? = some a) : ItR G r H (Itl G.K a) (wkL n) := fun r' A' H' E' R' i => by
  have e' := E'.at e
  rw [wkL_eq]
  cases h : lstAt A' n with
  | none => exact ⟨fun v z => (nomatch z), fun z => (nomatch z)⟩
  | some xs =>
    obtain ⟨ys, sq, q⟩ := R'.list e' h
    refine ⟨fun v z => ?_, fun z => ?_⟩
    · have z : xs[i]? = some v := by simpa using z
      obtain ⟨x, ex, px⟩ := q.get z
      refine ⟨⟨ys, x, sq, ex⟩, fun y H2 hy => ?_⟩
      obtain ⟨rfl, hy⟩ := hy
      have := (hy ys sq).symm.trans ex
      cases this
      exact ⟨Ext.refl _ _, R', px⟩
    · have z : xs[i]? = none := by simpa using z
      refine ⟨ys, sq, ?_⟩
      rw [← q.length]
      exact List.getElem?_eq_none_iff.mp z
theorem itr_tup {vs : List Val} {ys : List V} {a : Addr} (R : HRel G.K r A H) (sq : SqT G.K H a ys) (q : Reps G.K r H vs ys) : ItR G r H (Itt G.K a) (wkT vs) := fun r' A' H' E' R' i => by
  have sq' := R.sqT E' sq
  have q' := Reps.ext R E' _ _ q
  refine ⟨fun v z => ?_, fun z => ?_⟩
  · have z : vs[i]? = some v := by simpa [wkT] using z
    obtain ⟨x, ex, px⟩ := q'.get z
    refine ⟨⟨ys, x, sq', ex⟩, fun y H2 hy => ?_⟩
    obtain ⟨rfl, hy⟩ := hy
    have := (hy ys sq').symm.trans ex
    cases this
    exact ⟨Ext.refl _ _, R', px⟩
  · have z : vs[i]? = none := by simpa [wkT] using z
    refine ⟨ys, sq', ?_⟩
    rw [← q'.length]
    exact List.getElem?_eq_none_iff.mp z
theorem itr_rng {lo : Int} {n : Nat} : ItR G r H (Itr lo n) (wkR lo 1 n) := fun r' A' H' E' R' i => by
  unfold wkR
  by_cases hi : i < n
  · rw [if_pos hi]
    refine ⟨fun v z => ?_, fun z => (nomatch z)⟩
    cases z
    refine ⟨hi, fun y H2 hy => ?_⟩
    obtain ⟨rfl, rfl⟩ := hy
    exact ⟨Ext.refl _ _, R', by simp only [Rep, Int.mul_one]⟩
  · rw [if_neg hi]
    exact ⟨fun v z => (by cases z), fun z => Nat.le_of_not_lt hi⟩
theorem itr_rngc {lo c : Int} {n : Nat} : ItR G r H (Itc lo c n) (wkR lo c n) := fun r' A' H' E' R' i => by
  unfold wkR
  by_cases hi : i < n
  · rw [if_pos hi]
    refine ⟨fun v z => ?_, fun z => (nomatch z)⟩
    cases z
    refine ⟨hi, fun y H2 hy => ?_⟩
    obtain ⟨rfl, rfl⟩ := hy
    exact ⟨Ext.refl _ _, R', by simp only [Rep]⟩
  · rw [if_neg hi]
    exact ⟨fun v z => (by cases z), fun z => Nat.le_of_not_lt hi⟩
theorem itr_keys {n : Nat} {a : Addr} {o : Obj} {xs : List (Key × V)} (e : r[n]? = some a) : ItR G r H (Itk a o xs) (wkK n (.frz o (.dK xs))) := fun r' A' H' E' R' i => by
  have e' := E'.at e
  unfold wkK
  cases h : A'[n]? with
  | none => exact ⟨fun v z => (nomatch z), fun z => (nomatch z)⟩
  | some ob =>
    cases ob with
    | dz kvs g =>
      dsimp only
      by_cases hg : g = .frz o (.dK xs)
      · rw [if_pos hg]
        obtain ⟨eg, o2, ys, e2, rk⟩ := R'.ob n a _ e' h
        rw [hg] at e2 eg
        cases e2
        have hl : kvs.length = xs.length := by have := congrArg List.length rk.1; simpa using this
        have hkey : ∀ i : Nat, (kvs.map (·.1))[i]? = (xs.map (·.1))[i]? := fun i => by rw [rk.1]
        refine ⟨fun v z => ?_, fun z => ?_⟩
        · have z : (kvs.map fun kv => keyV kv.1)[i]? = some v := by simpa using z
          rw [List.getElem?_map] at z
          cases q : kvs[i]? with
          | none => rw [q] at z; cases z
          | some kv =>
            rw [q] at z
            have hi := (List.getElem?_eq_some_iff.mp q).1
            have z : keyV kv.1 = v := by simpa using z
            have hk := hkey i
            rw [List.getElem?_map, q, List.getElem?_map] at hk
            refine ⟨⟨eg, by omega⟩, fun y H2 hy => ?_⟩
            obtain ⟨rfl, k, w, hw, rfl⟩ := hy
            rw [hw] at hk
            have hk : kv.1 = k := by simpa using hk
            refine ⟨Ext.refl _ _, R', ?_⟩
            rw [← z, hk]
            cases k with
            | inl j => simp only [keyV, Rep]; rfl
            | inr j => simp only [keyV, Rep]; rfl
        · have z : (kvs.map fun kv => keyV kv.1)[i]? = none := by simpa using z
          rw [List.getElem?_eq_none_iff, List.length_map] at z
          exact ⟨eg, by omega⟩
      · rw [if_neg hg]; exact ⟨fun v z => (nomatch z), fun z => (nomatch z)⟩
    | _ => exact ⟨fun v z => (nomatch z), fun z => (nomatch z)⟩
theorem itr_str {x : Str} : ItR G r H (Its x) (wkS x) := fun r' A' H' E' R' i => by
  unfold wkS
  by_cases hi : i < x.cps.size
  · rw [Array.getElem?_eq_getElem hi]
    refine ⟨fun v z => ?_, fun z => (nomatch z)⟩
    cases z
    refine ⟨hi, fun y H2 hy => ?_⟩
    obtain ⟨rfl, c, hc, rfl⟩ := hy
    rw [Array.getElem?_eq_getElem hi] at hc; cases hc
    exact ⟨Ext.refl _ _, R', by simp only [Rep]⟩
  · rw [Array.getElem?_eq_none (Nat.le_of_not_lt hi)]
    exact ⟨fun v z => (by cases z), fun z => Nat.le_of_not_lt hi⟩
end
section
variable {X : Cx} {tg : Expr} {l : Expr} {tl : TE}
/-- a list, a tuple, a text -/
def iAny (K : PySem.W.Frag) (tl : TE) : TI := fun σ H R => tl σ H fun x H1 => (∃ a, x = .ref a ∧ ((∃ xs, SqL K H1 a xs) ∧ R (Itl K a) H1 ∨ (∃ xs, SqT K H1 a xs) ∧ R (Itt K a) H1)) ∨ (∃ z, x = .str z ∧ R (Its z) H1) ∨ ∃ d o kvs, x = .ref d ∧ H1 d = some (.frz o (.dK kvs)) ∧ R (Itk d o kvs) H1
theorem pi_any (hl : PE X l tl) : PI X tg l (iAny X.K tl) := by
  refine ⟨fun pins s σ H R I h => ?_⟩
  refine thn (hl.run pins s σ H _ I h) fun v s1 ⟨x, H1, I1, r1, q1⟩ => ?_
  rcases q1 with ⟨a, e, ⟨⟨xs, hq⟩, q⟩ | ⟨⟨xs, hq⟩, q⟩⟩ | ⟨z, e, q⟩ | ⟨d, o, kvs, e, hd, q⟩
  · subst e
    cases r1
    obtain ⟨its, rv, p, hz⟩ := I1.list hq
    refine wpAny_pyIter_list p.isList ?_
    refine ⟨s1.heap.objs.size, [s1.heap.objs.size], _, _, H1, rfl, I1.kept (t' := s1.toks) fun b o e => Heap.get?_push_of_some _ e, turn_list a _, ⟨_, Heap.get?_push_size _ rfl, rfl, rfl⟩, fun b hb => ?_, q⟩
    have e : b = s1.heap.objs.size := by simpa using hb
    subst e
    exact I1.fpOk (Nat.le_refl _) (I1.hok.fresh (Nat.le_refl _))
  · subst e
    cases r1
    obtain ⟨its, rv, p, hz⟩ := I1.tuple hq
    refine wpAny_pyIter_tuple (show s1.heap.IsTuple a its.toArray from p) ?_
    refine ⟨s1.heap.objs.size, [s1.heap.objs.size], _, _, H1, rfl, I1.kept (t' := s1.toks) fun b o e => Heap.get?_push_of_some _ e, turn_tuple a _, ⟨_, Heap.get?_push_size _ rfl, rfl, rfl⟩, fun b hb => ?_, q⟩
    have e : b = s1.heap.objs.size := by simpa using hb
    subst e
    exact I1.fpOk (Nat.le_refl _) (I1.hok.fresh (Nat.le_refl _))
  · subst e
    obtain ⟨t, rfl⟩ := r1
    cases ha : z.cps.all (· < 128)
    · exact wpAny_pyIter_wide ha (pi_one (tk := s1.toks) I1 _ (turn_str _ z t "str_iterator" (.inr rfl)) ⟨_, Heap.get?_push_size _ rfl, rfl, rfl⟩ q)
    · exact wpAny_pyIter_ascii ha (pi_one (tk := s1.toks) I1 _ (turn_str _ z t "str_ascii_iterator" (.inl rfl)) ⟨_, Heap.get?_push_size _ rfl, rfl, rfl⟩ q)
  · subst e
    cases r1
    obtain ⟨hs, hgd, hx, es, ep, vs, hdt, hsz, kv, hm⟩ := I1.frzK hd
    refine iter_keys hs hgd hx hdt (pi_one (tk := s1.toks) I1 _ (turn_keys _ hdt) ⟨_, Heap.get?_push_size _ rfl, rfl, ?_⟩ q)
    rw [hsz] <;> rfl
end
section
variable {G : Gc} {X : Cx} {tg : Expr} {e e2 : Expr} {d : Den} {aa : DenA} {p pos tpos : Pos} {a b c : Expr} {elts : List Expr} {kk : Nat}
theorem si_val (hK : X.K = G.K) (md : Mono d) (hd : SE G X e d) : SI G X tg e (iVal d) := fun W tk =>
  (pi_any (hd W tk)).wk fun s H Rr ⟨r, A, t, R, S, h⟩ => by
    rw [hK]
    refine ⟨r, A, t, R, S, md _ _ _ _ _ _ (fun v A1 q r1 H1 x E1 R1 p1 => ?_) (fun _ _ h => h) h⟩
    cases v with
    | tup vs =>
      obtain ⟨a, ys, rfl, sq, p1⟩ := p1.tupS (.inl rfl)
      exact .inl ⟨a, rfl, .inr ⟨⟨ys, sq⟩, q r1 H1 _ E1 R1 (itr_tup R1 sq p1)⟩⟩
    | wt vs =>
      obtain ⟨a, ys, rfl, sq, p1⟩ := p1.tupS (.inr rfl)
      exact .inl ⟨a, rfl, .inr ⟨⟨ys, sq⟩, q r1 H1 _ E1 R1 (itr_tup R1 sq p1)⟩⟩
    | ref n =>
      simp only [Rep] at p1
      obtain ⟨a, ea, rfl⟩ := p1
      rcases q with ⟨⟨xs, hx⟩, q⟩ | ⟨kvs, g, eA, q⟩
      · obtain ⟨ys, sq, _⟩ := R1.list ea hx
        exact .inl ⟨a, rfl, .inl ⟨⟨ys, sq⟩, q r1 H1 _ E1 R1 (itr_list R1 ea)⟩⟩
      · obtain ⟨eg, o, xs, rfl, rk⟩ := R1.ob n a _ ea eA
        exact .inr (.inr ⟨a, o, xs, rfl, eg, q r1 H1 _ E1 R1 (itr_keys ea)⟩)
    | str z =>
      simp only [Rep] at p1
      subst p1
      exact .inr (.inl ⟨z, rfl, q r1 H1 _ E1 R1 itr_str⟩)
    | _ => exact q.elim
theorem reps1 {r : List Addr} {H : Hp} {v : Val} {xs : List V} (p : Reps G.K r H [v] xs) : ∃ x, xs = [x] ∧ Rep G.K r H v x := by
  obtain ⟨y, ys, rfl, p1, p2⟩ := Reps.cons_iff.mp p
  rw [Reps.nil_iff] at p2; subst p2
  exact ⟨y, rfl, p1⟩
theorem reps2 {r : List Addr} {H : Hp} {v w : Val} {xs : List V} (p : Reps G.K r H [v, w] xs) : ∃ x y, xs = [x, y] ∧ Rep G.K r H v x ∧ Rep G.K r H w y := by
  obtain ⟨y, ys, rfl, p1, p2⟩ := Reps.cons_iff.mp p
  obtain ⟨z, rfl, p3⟩ := reps1 p2
  exact ⟨y, z, rfl, p1, p3⟩
theorem reps3 {r : List Addr} {H : Hp} {v w u : Val} {xs : List V} (p : Reps G.K r H [v, w, u] xs) : ∃ x y z, xs = [x, y, z] ∧ Rep G.K r H v x ∧ Rep G.K r H w y ∧ Rep G.K r H u z := by
  obtain ⟨y, ys, rfl, p1, p2⟩ := Reps.cons_iff.mp p
  obtain ⟨z, u, rfl, p3, p4⟩ := reps2 p2
  exact ⟨y, z, u, rfl, p1, p3, p4⟩
theorem si_rng1 (hg : Gl X "range") (hm : X.mg "range" = none) (md : MonoA aa) (ha : SA G X [a] aa) (hs : starEach [a] X.env = [(false, eval a X.env)]) : SI G X tg (.Call (.Name "range" p) [a] [] pos) (EV.iRng1 aa) := fun W tk =>
  (pi_range1 hg hm (ha W tk) hs).wk fun s H Rr ⟨r, A, t, R, S, h⟩ => by
    refine ⟨r, A, t, R, S, md _ _ _ _ _ _ (fun v A1 ⟨j, e, s, q⟩ r1 H1 x E1 R1 p1 => ?_) (fun _ _ h => h) h⟩
    subst e
    obtain ⟨x1, rfl, z1⟩ := reps1 p1
    simp only [Rep] at z1; subst z1
    exact ⟨j, rfl, s.1, s.2, q r1 H1 _ E1 R1 itr_rng⟩
theorem si_rng2 (hg : Gl X "range") (hm : X.mg "range" = none) (md : MonoA aa) (ha : SA G X [a, b] aa) (hs : starEach [a, b] X.env = [(false, eval a X.env), (false, eval b X.env)]) (hs2 : starEach [b] X.env = [(false, eval b X.env)]) : SI G X tg (.Call (.Name "range" p) [a, b] [] pos) (EV.iRng2 aa) := fun W tk =>
  (pi_range2 hg hm (ha W tk) hs hs2).wk fun s H Rr ⟨r, A, t, R, S, h⟩ => by
    refine ⟨r, A, t, R, S, md _ _ _ _ _ _ (fun v A1 ⟨i, j, e, s, s', q⟩ r1 H1 x E1 R1 p1 => ?_) (fun _ _ h => h) h⟩
    subst e
    obtain ⟨x1, x2, rfl, z1, z2⟩ := reps2 p1
    simp only [Rep] at z1 z2; subst z1; subst z2
    exact ⟨i, j, rfl, ⟨s.1, s.2, s'.1, s'.2⟩, q r1 H1 _ E1 R1 itr_rng⟩
theorem si_rng3 (hg : Gl X "range") (hm : X.mg "range" = none) (md : MonoA aa) (ha : SA G X [a, b, c] aa) (hs : starEach [a, b, c] X.env = (false, eval a X.env) :: starEach [b, c] X.env) (hpl : (backTo pos (starEach [b, c] X.env)).any (·.1) = false) : SI G X tg (.Call (.Name "range" p) [a, b, c] [] pos) (EV.iRng3 aa) := fun W tk =>
  (pi_range3 hg hm (ha W tk) hs hpl).wk fun s H Rr ⟨r, A, t, R, S, h⟩ => by
    refine ⟨r, A, t, R, S, md _ _ _ _ _ _ (fun v A1 ⟨i, j, c, n, e, s, q⟩ r1 H1 x E1 R1 p1 => ?_) (fun _ _ h => h) h⟩
    subst e
    obtain ⟨x1, x2, x3, rfl, z1, z2, z3⟩ := reps3 p1
    simp only [Rep] at z1 z2 z3; subst z1; subst z2; subst z3
    exact ⟨i, j, c, n, rfl, s, q r1 H1 _ E1 R1 itr_rngc⟩
theorem si_rev (hK : X.K = G.K) (hg : Gl X "reversed") (hm : X.mg "reversed" = none) (md : Mono d) (hd : SE G X e d) (hs : starEach [e] X.env = (false, eval e X.env) :: starEach [] X.env) : SI G X tg (.Call (.Name "reversed" p) [e] [] pos) (EV.iRev d) := fun W tk =>
  (pi_revA hg hm (hd W tk) hs).wk fun s H Rr ⟨r, A, t, R, S, h⟩ => by
    rw [hK]
    refine ⟨r, A, t, R, S, md _ _ _ _ _ _ (fun v A1 q r1 H1 x E1 R1 p1 => ?_) (fun _ _ h => h) h⟩
    have rv : ∀ {vs : List Val} {n i : Nat}, vs.length = n → i < n → vs.reverse[i]? = vs[n - 1 - i]? := fun {vs n i} hn hi => by
      subst hn
      rw [List.getElem?_reverse hi]
    cases v with
    | tup vs =>
      obtain ⟨a, ys, rfl, sq, p1⟩ := p1.tupS (.inl rfl)
      refine ⟨a, ys, rfl, .inr ⟨sq, q r1 H1 _ E1 R1 fun r' A' H' E' R' i => ?_⟩⟩
      have sq' := R1.sqT E' sq
      have q' := Reps.ext R1 E' _ _ p1
      have hl := q'.length
      refine ⟨fun v z => ?_, fun z => ?_⟩
      · have z : vs.reverse[i]? = some v := by simpa [wkT] using z
        have hi : i < ys.length := by
          rcases Nat.lt_or_ge i ys.length with u | u
          · exact u
          · rw [List.getElem?_eq_none (by simp; omega)] at z; cases z
        rw [rv hl hi] at z
        obtain ⟨x, ex, px⟩ := q'.get z
        refine ⟨⟨hi, ys, x, sq', ex⟩, fun y H2 hy => ?_⟩
        obtain ⟨rfl, hy⟩ := hy
        have := (hy ys sq').symm.trans ex
        cases this
        exact ⟨Ext.refl _ _, R', px⟩
      · have z : vs.reverse[i]? = none := by simpa [wkT] using z
        have := List.getElem?_eq_none_iff.mp z
        rw [List.length_reverse] at this
        show ys.length ≤ i
        omega
    | wt vs =>
      obtain ⟨a, ys, rfl, sq, p1⟩ := p1.tupS (.inr rfl)
      refine ⟨a, ys, rfl, .inr ⟨sq, q r1 H1 _ E1 R1 fun r' A' H' E' R' i => ?_⟩⟩
      have sq' := R1.sqT E' sq
      have q' := Reps.ext R1 E' _ _ p1
      have hl := q'.length
      refine ⟨fun v z => ?_, fun z => ?_⟩
      · have z : vs.reverse[i]? = some v := by simpa [wkT] using z
        have hi : i < ys.length := by
          rcases Nat.lt_or_ge i ys.length with u | u
          · exact u
          · rw [List.getElem?_eq_none (by simp; omega)] at z; cases z
        rw [rv hl hi] at z
        obtain ⟨x, ex, px⟩ := q'.get z
        refine ⟨⟨hi, ys, x, sq', ex⟩, fun y H2 hy => ?_⟩
        obtain ⟨rfl, hy⟩ := hy
        have := (hy ys sq').symm.trans ex
        cases this
        exact ⟨Ext.refl _ _, R', px⟩
      · have z : vs.reverse[i]? = none := by simpa [wkT] using z
        have := List.getElem?_eq_none_iff.mp z
        rw [List.length_reverse] at this
        show ys.length ≤ i
        omega
    | ref n =>
      simp only [Rep] at p1
      obtain ⟨a, ea, rfl⟩ := p1
      obtain ⟨xs, hx, q⟩ := q
      obtain ⟨ys, sq, p1⟩ := R1.list ea hx
      refine ⟨a, ys, rfl, .inl ⟨sq, q r1 H1 _ E1 R1 fun r' A' H' E' R' i => ?_⟩⟩
      unfold wkV
      cases hc : lstAt A' n with
      | none => exact ⟨fun v z => (nomatch z), fun z => (nomatch z)⟩
      | some us =>
        obtain ⟨zs, sq', q'⟩ := R'.list (E'.at ea) hc
        have hl := q'.length
        have hl1 := p1.length
        show (∀ v, (if us.length = xs.length then some us.reverse[i]? else none) = some (some v) → _) ∧ ((if us.length = xs.length then some us.reverse[i]? else none) = some none → _)
        by_cases hlen : us.length = xs.length
        · rw [if_pos hlen]
          refine ⟨fun v z => ?_, fun z => ?_⟩
          · have z : us.reverse[i]? = some v := by simpa using z
            have hi : i < ys.length := by
              rcases Nat.lt_or_ge i ys.length with u | u
              · exact u
              · rw [List.getElem?_eq_none (by simp; omega)] at z; cases z
            rw [rv (hlen.trans hl1) hi] at z
            obtain ⟨x, ex, px⟩ := q'.get z
            refine ⟨⟨hi, zs, x, sq', ex⟩, fun y H2 hy => ?_⟩
            obtain ⟨rfl, hy⟩ := hy
            have := (hy zs sq').symm.trans ex
            cases this
            exact ⟨Ext.refl _ _, R', px⟩
          · have z : us.reverse[i]? = none := by simpa using z
            have := List.getElem?_eq_none_iff.mp z
            rw [List.length_reverse] at this
            show ys.length ≤ i
            omega
        · rw [if_neg hlen]
          exact ⟨fun v z => (nomatch z), fun z => (nomatch z)⟩
    | _ => exact q.elim
theorem pair_new {r : List Addr} {A : AH} {H : Hp} {T : Addr} {v w : Val} {x y : V} (R : HRel G.K r A H) (h : H T = none) (p : Rep G.K r H v x) (q : Rep G.K r H w y) :
    Ext r r H (upd H T (.tup [x, y])) ∧ HRel G.K r A (upd H T (.tup [x, y])) ∧ Rep G.K r (upd H T (.tup [x, y])) (.tup [v, w]) (.ref T) := by
  have E := ext_new (r := r) (ho := .tup [x, y]) h
  refine ⟨E, R.newT h, ?_⟩
  simp only [Rep]
  exact ⟨T, [x, y], rfl, upd_same, Reps.cons_iff.mpr ⟨_, _, rfl, Rep.ext R E _ _ p, Reps.cons_iff.mpr ⟨_, _, rfl, Rep.ext R E _ _ q, Reps.nil_iff.mpr rfl⟩⟩⟩
/-- what a walk over a list or a tuple meets -/
def SeqR (G : Gc) (r : List Addr) (H : Hp) (tp : Bool) (a : Addr) (k : Wk) : Prop := ∀ r' A' H', Ext r r' H H' → HRel G.K r' A' H' → ∀ i o, k i A' = some o →
  ∃ ys, SqB G.K tp H' a ys ∧ ((o = none ∧ ys.length ≤ i) ∨ ∃ v x, o = some v ∧ ys[i]? = some x ∧ Rep G.K r' H' v x)
theorem seq_rel {r : List Addr} {A : AH} {H : Hp} {v : Val} {k : Wk} {x : V} (R : HRel G.K r A H) (p : Rep G.K r H v x) (w : seqW A v k) : ∃ tp a xs, x = .ref a ∧ SqB G.K tp H a xs ∧ SeqR G r H tp a k := by
  rcases w with ⟨n, xs, rfl, l, rfl⟩ | ⟨xs, ev, rfl⟩
  · simp only [Rep] at p
    obtain ⟨a, ea, rfl⟩ := p
    obtain ⟨ys, sq, z1⟩ := R.list ea l
    refine ⟨false, a, ys, rfl, sq, fun r' A' H' E' R' i o e => ?_⟩
    rw [wkL_eq] at e
    cases h : lstAt A' n with
    | none => rw [h] at e; cases e
    | some us =>
      rw [h] at e
      simp only [Option.map_some, Option.some.injEq] at e
      subst e
      obtain ⟨zs, sq', q⟩ := R'.list (E'.at ea) h
      refine ⟨zs, sq', ?_⟩
      cases hx : us[i]? with
      | none => exact .inl ⟨rfl, by rw [← q.length]; exact List.getElem?_eq_none_iff.mp hx⟩
      | some v0 =>
        obtain ⟨y, ey, py⟩ := q.get hx
        exact .inr ⟨v0, y, rfl, ey, py⟩
  · obtain ⟨a, us, rfl, sq, z3⟩ := p.tupS ev
    refine ⟨true, a, us, rfl, sq, fun r' A' H' E' R' i o e => ?_⟩
    have t1 := R.sqT E' sq
    have q := Reps.ext R E' _ _ z3
    unfold wkT at e
    simp only [Option.some.injEq] at e
    subst e
    refine ⟨us, t1, ?_⟩
    cases hx : xs[i]? with
    | none => exact .inl ⟨rfl, by rw [← q.length]; exact List.getElem?_eq_none_iff.mp hx⟩
    | some v0 =>
      obtain ⟨y, ey, py⟩ := q.get hx
      exact .inr ⟨v0, y, rfl, ey, py⟩
theorem itr_enumB {r : List Addr} {H : Hp} {tp : Bool} {a : Addr} {k : Wk} (h : SeqR G r H tp a k) : ItR G r H (IteB G.K tp a) (wkE k) := fun r' A' H' E' R' i => by
  unfold wkE
  cases hk : k i A' with
  | none => exact ⟨fun v z => (nomatch z), fun z => (nomatch z)⟩
  | some o =>
    obtain ⟨ys, sq, h⟩ := h r' A' H' E' R' i o hk
    rcases h with ⟨rfl, hl⟩ | ⟨v0, x, rfl, ex, px⟩
    · exact ⟨fun v z => by simp at z, fun z => ⟨ys, sq, hl⟩⟩
    · refine ⟨fun v z => ?_, fun z => by simp at z⟩
      simp only [Option.map_some, Option.some.injEq] at z
      subst z
      refine ⟨⟨ys, x, sq, ex⟩, fun y H2 hy => ?_⟩
      obtain ⟨T, x', rfl, hT, rfl, hy⟩ := hy
      have := (hy ys sq).symm.trans ex
      cases this
      exact pair_new R' hT (by simp only [Rep]) px
theorem itr_zipB {r : List Addr} {H : Hp} {t1 t2 : Bool} {a b : Addr} {k l : Wk} (h1 : SeqR G r H t1 a k) (h2 : SeqR G r H t2 b l) : ItR G r H (ItzB G.K t1 t2 a b) (wkZ k l) := fun r' A' H' E' R' i => by
  unfold wkZ
  cases hk : k i A' with
  | none => exact ⟨fun v z => by simp at z, fun z => by simp at z⟩
  | some o =>
    cases hl : l i A' with
    | none => exact ⟨fun v z => by cases o <;> simp at z, fun z => by cases o <;> simp at z⟩
    | some o2 =>
      obtain ⟨ys, sq, g1⟩ := h1 r' A' H' E' R' i o hk
      obtain ⟨zs, sq2, g2⟩ := h2 r' A' H' E' R' i o2 hl
      rcases g1 with ⟨rfl, l1⟩ | ⟨v0, x, rfl, ex, px⟩
      · exact ⟨fun v z => by simp at z, fun z => ⟨ys, zs, sq, sq2, .inl l1⟩⟩
      · rcases g2 with ⟨rfl, l2⟩ | ⟨w0, y, rfl, ey, py⟩
        · exact ⟨fun v z => by simp at z, fun z => ⟨ys, zs, sq, sq2, .inr l2⟩⟩
        · refine ⟨fun v z => ?_, fun z => by simp at z⟩
          simp only [Option.some.injEq] at z
          subst z
          refine ⟨⟨ys, zs, x, y, sq, sq2, ex, ey⟩, fun w H2 hw => ?_⟩
          obtain ⟨T, x', y', rfl, hT, rfl, hx, hy⟩ := hw
          have := (hx ys sq).symm.trans ex
          cases this
          have := (hy zs sq2).symm.trans ey
          cases this
          exact pair_new R' hT px py
theorem si_enum (hK : X.K = G.K) (hg : Gl X "enumerate") (hm : X.mg "enumerate" = none) (md : MonoA aa) (ha : SA G X [e] aa) (hs : starEach [e] X.env = [(false, eval e X.env)]) : SI G X (.Tuple elts kk tpos) (.Call (.Name "enumerate" p) [e] [] pos) (EV.iEnum aa) := fun W tk =>
  (pi_enumB hg hm (ha W tk) hs).wk fun s H Rr ⟨r, A, t, R, S, h⟩ => by
    rw [hK]
    refine ⟨r, A, t, R, S, md _ _ _ _ _ _ (fun v A1 ⟨w, k, e, l, q⟩ r1 H1 x E1 R1 p1 => ?_) (fun _ _ h => h) h⟩
    subst e
    obtain ⟨x1, rfl, z1⟩ := reps1 p1
    obtain ⟨tp, a, xs, rfl, sq, sr⟩ := seq_rel R1 z1 l
    exact ⟨tp, a, xs, rfl, sq, q r1 H1 _ E1 R1 (itr_enumB sr)⟩
theorem si_zip (hK : X.K = G.K) (hg : Gl X "zip") (hm : X.mg "zip" = none) (md : MonoA aa) (ha : SA G X [e, e2] aa) (hs : starEach [e, e2] X.env = (false, eval e X.env) :: starEach [e2] X.env) (hpl : (backTo pos (starEach [e2] X.env)).any (·.1) = false) :
    SI G X (.Tuple elts kk tpos) (.Call (.Name "zip" p) [e, e2] [] pos) (EV.iZip aa) := fun W tk =>
  (pi_zipB hg hm (ha W tk) hs hpl).wk fun s H Rr ⟨r, A, t, R, S, h⟩ => by
    rw [hK]
    refine ⟨r, A, t, R, S, md _ _ _ _ _ _ (fun v A1 ⟨v, w, k, l, e, l1, l2, q⟩ r1 H1 x E1 R1 p1 => ?_) (fun _ _ h => h) h⟩
    subst e
    obtain ⟨x1, x2, rfl, z1, z2⟩ := reps2 p1
    obtain ⟨t1, a, xs, rfl, sq, sr⟩ := seq_rel R1 z1 l1
    obtain ⟨t2, b, ys, rfl, sq2, sr2⟩ := seq_rel R1 z2 l2
    exact ⟨t1, t2, a, b, xs, ys, rfl, sq, sq2, q r1 H1 _ E1 R1 (itr_zipB sr sr2)⟩
end
end EV

namespace EV
open PySem PySem.Spec PyProof.Rows L2 RZ RT

/-! ### list comprehensions -/
inductive Tg where
  | one (i : Nat) | tup (l : List Nat)
def setAll {α : Type} : List Nat → List α → List (Option α) → List (Option α)
  | i :: l, v :: vs, t => setAll l vs (t.set i (some v))
  | _, _, t => t
def bindT : Tg → Val → Lv → Option Lv
  | .one i, v, t => some (t.set i (some v))
  | .tup l, .tup vs, t => if vs.length = l.length then some (setAll l vs t) else none
  | .tup l, .wt vs, t => if vs.length = l.length then some (setAll l vs t) else none
  | _, _, _ => none
def wipeV (t : Lv) : List Nat → Lv
  | [] => t
  | v :: vs => (wipeV t vs).set v none
def dLc (it : DenI) (tg : Tg) (tt : DenT) (e : Den) (vs : List Nat) : Den := fun t A Q E => it t A (fun J A1 => ∃ Wi : Nat → Nat → List Val → AH → Prop, (∃ m, Wi 0 m [] A1) ∧ ∀ i m acc A, Wi i m acc A →
  (J i A = some none ∧ Q (.ref A.length) (A ++ [.lst acc])) ∨ (∃ v t2, J i A = some (some v) ∧ bindT tg v (wipeV t vs) = some t2 ∧ ∃ N : List Val → AH → Prop, (∀ acc' A', N acc' A' → ∃ m', m' < m ∧ Wi (i + 1) m' acc' A') ∧
    tt t2 A (fun b A3 => if b = true then e t2 A3 (fun y A4 => acc.length < sizeLine ∧ N (acc ++ [y]) A4) nox else N acc A3) nox)) E
theorem mono_lc {it : DenI} {tg : Tg} {tt : DenT} {e : Den} {vs : List Nat} (mi : MonoI it) (mt : MonoT tt) (me : Mono e) : Mono (dLc it tg tt e vs) := fun t A Q Q' E E' h k q =>
  mi _ _ _ _ _ _ (fun J A1 ⟨Wi, h0, q⟩ => ⟨Wi, h0, fun i m acc A w => by
    rcases q i m acc A w with ⟨e, q⟩ | q
    · exact .inl ⟨e, h _ _ q⟩
    · exact .inr q⟩) k q
def tYesV : DenT := fun _ A Q _ => Q true A
theorem mono_yes : MonoT tYesV := fun t A Q Q' E E' h k q => h _ _ q

theorem setAll_length {α : Type} : ∀ (l : List Nat) (vs : List α) (t : List (Option α)), (setAll l vs t).length = t.length
  | [], _, t => by unfold setAll; rfl
  | i :: l, [], t => by unfold setAll; rfl
  | i :: l, v :: vs, t => by unfold setAll; rw [setAll_length]; simp
theorem wipe_set {s : L2.St} {i : Nat} {x : Option V} : ∀ {vs : List Nat}, i ∈ vs → wipe (s.set i x) vs = wipe s vs
  | v :: vs, h => by
    unfold wipe
    by_cases hv : i ∈ vs
    · rw [wipe_set hv]
    · have e : i = v := by
        rcases List.mem_cons.mp h with z | z
        · exact z
        · exact absurd z hv
      subst e
      have hh : ∀ {ws : List Nat}, i ∉ ws → wipe (s.set i x) ws = (wipe s ws).set i x := by
        intro ws
        induction ws with
        | nil => intro _; rfl
        | cons w ws ih =>
          intro hn
          simp only [List.mem_cons, not_or] at hn
          unfold wipe
          rw [ih hn.2, List.set_comm _ _ hn.1]
      rw [hh hv, List.set_set]
theorem wipe_wipe {s : L2.St} : ∀ {vs ws : List Nat}, (∀ v ∈ vs, v ∈ ws) → wipe (wipe s vs) ws = wipe s ws
  | [], ws, _ => rfl
  | v :: vs, ws, h => by
    show wipe ((wipe s vs).set v none) ws = _
    rw [wipe_set (h v List.mem_cons_self), wipe_wipe fun u hu => h u (List.mem_cons_of_mem _ hu)]
theorem wipe_setAll {vs : List Nat} : ∀ (l : List Nat) (xs : List V) (s : L2.St), (∀ i ∈ l, i ∈ vs) → wipe (setAll l xs s) vs = wipe s vs
  | [], _, s, _ => by unfold setAll; rfl
  | i :: l, [], s, _ => by unfold setAll; rfl
  | i :: l, x :: xs, s, h => by
    unfold setAll
    rw [wipe_setAll l xs _ fun j hj => h j (List.mem_cons_of_mem _ hj), wipe_set (h i List.mem_cons_self)]
section
variable {K : PySem.W.Frag} {r : List Addr} {H : Hp}
theorem SRel.wipe {t : Lv} {s : L2.St} (S : SRel K r H t s) : ∀ vs : List Nat, SRel K r H (wipeV t vs) (L2.wipe s vs)
  | [] => S
  | v :: vs => by
    have S' := SRel.wipe S vs
    refine ⟨by unfold wipeV L2.wipe; simp [S'.len], fun i w e => ?_⟩
    unfold wipeV at e
    unfold L2.wipe
    by_cases hi : v = i
    · subst hi
      by_cases hl : v < (wipeV t vs).length
      · rw [List.getElem?_set_self hl] at e; cases e
      · rw [List.getElem?_eq_none (by simp; omega)] at e; cases e
    · rw [List.getElem?_set_ne hi] at e ⊢
      exact S'.at' i w e
theorem SRel.setAll : ∀ {l : List Nat} {vs : List Val} {xs : List V} {t : Lv} {s : L2.St}, SRel K r H t s → Reps K r H vs xs → SRel K r H (EV.setAll l vs t) (EV.setAll l xs s)
  | [], _, _, _, _, S, _ => by unfold EV.setAll; exact S
  | i :: l, [], _, _, _, S, p => by rw [Reps.nil_iff] at p; subst p; unfold EV.setAll; exact S
  | i :: l, v :: vs, _, _, _, S, p => by
    obtain ⟨y, ys, rfl, p1, p2⟩ := Reps.cons_iff.mp p
    unfold EV.setAll
    exact SRel.setAll (S.set i p1) p2
mutual
theorem Rep.grow {l : List Addr} : ∀ (v : Val) (x : V), Rep K r H v x → Rep K (r ++ l) H v x
  | .non, _, h => by simpa only [Rep] using h
  | .bl _, _, h => by simpa only [Rep] using h
  | .int _, _, h => by simpa only [Rep] using h
  | .str _, _, h => by simpa only [Rep] using h
  | .tup vs, _, h => by
    simp only [Rep] at h ⊢
    obtain ⟨a, xs, e, s, q⟩ := h
    exact ⟨a, xs, e, s, Reps.grow vs xs q⟩
  | .wt vs, _, h => by
    simp only [Rep] at h ⊢
    obtain ⟨a, xs, e, s, q⟩ := h
    exact ⟨a, xs, e, s, Reps.grow vs xs q⟩
  | .ref n, _, h => by
    simp only [Rep] at h ⊢
    obtain ⟨a, e, q⟩ := h
    refine ⟨a, ?_, q⟩
    have hl : n < r.length := by
      rcases Nat.lt_or_ge n r.length with q | q
      · exact q
      · rw [List.getElem?_eq_none q] at e; cases e
    rw [List.getElem?_append_left hl]; exact e
  | .ty _, _, h => by simpa only [Rep] using h
  | .wl vs, _, h => by
    simp only [Rep] at h ⊢
    obtain ⟨a, xs, e, s, q⟩ := h
    exact ⟨a, xs, e, s, Reps.grow vs xs q⟩
theorem Reps.grow {l : List Addr} : ∀ (vs : List Val) (xs : List V), Reps K r H vs xs → Reps K (r ++ l) H vs xs
  | [], _, h => by simpa only [Reps] using h
  | v :: vs, _, h => by
    simp only [Reps] at h ⊢
    obtain ⟨y, ys, e, q1, q2⟩ := h
    exact ⟨y, ys, e, Rep.grow v y q1, Reps.grow vs ys q2⟩
end
theorem OR.grow {l : List Addr} {a : Addr} {o : Ob} (h : OR K r H a o) : OR K (r ++ l) H a o := by
  cases o with
  | lst vs => obtain ⟨xs, e, q⟩ := h; exact ⟨xs, e, Reps.grow _ _ q⟩
  | dk vs => obtain ⟨xs, e, q⟩ := h; exact ⟨xs, e, q.1, Reps.grow _ _ q.2⟩
  | dt vs => obtain ⟨xs, e, q⟩ := h; exact ⟨xs, e, q.1, Reps.grow _ _ q.2⟩
  | dz vs g => obtain ⟨e, o', xs, eg, q⟩ := h; exact ⟨e, o', xs, eg, q.1, Reps.grow _ _ q.2⟩
/-- a list beside the plain heap joins it -/
theorem HRel.join {A : AH} {D : Addr} {vs : List Val} {xs : List V} (R : HRel K r A H) (hn : D ∉ r) (hD : H D = some (.lst xs)) (p : Reps K r H vs xs) : HRel K (r ++ [D]) (A ++ [.lst vs]) H := by
  refine ⟨by simp [R.len], ?_, fun n b u e1 e2 => ?_⟩
  · rw [List.nodup_append]
    exact ⟨R.nd, by simp, fun x hx y hy e => by rw [List.mem_singleton] at hy; subst hy; subst e; exact hn hx⟩
  · by_cases hl : n < r.length
    · rw [List.getElem?_append_left hl] at e1
      rw [List.getElem?_append_left (by rw [R.len]; exact hl)] at e2
      exact (R.ob n b u e1 e2).grow
    · have hn' : n = r.length := by
        rcases Nat.lt_or_ge r.length n with z | z
        · rw [List.getElem?_eq_none (by simp; omega)] at e1; cases e1
        · omega
      subst hn'
      rw [List.getElem?_append_right (Nat.le_refl _)] at e1
      rw [List.getElem?_append_right (by rw [R.len]; exact Nat.le_refl _)] at e2
      simp at e1
      simp [R.len] at e2
      subst e1; subst e2
      exact ⟨xs, hD, Reps.grow _ _ p⟩
/-- a list beside the plain heap is written -/
theorem side_sqT {D a : Addr} {zs : List V} {ho : HO} {xs : List V} (hD : H D = some (.lst zs)) (h : SqT K H a xs) : SqT K (upd H D ho) a xs := by
  have ne : ∀ {u : HO}, H a = some u → (∀ ys, u ≠ .lst ys) → a ≠ D := fun e n z => by rw [z, hD] at e; cases e; exact n _ rfl
  rcases h with (h | ⟨o, h⟩) | h
  · exact .inl (.inl (by rw [upd_ne (ne h fun _ z => nomatch z)]; exact h))
  · exact .inl (.inr ⟨o, by rw [upd_ne (ne h fun _ z => nomatch z)]; exact h⟩)
  · exact .inr h
mutual
theorem Rep.side {D : Addr} {zs : List V} {ho : HO} (hD : H D = some (.lst zs)) : ∀ (v : Val) (x : V), Rep K r H v x → Rep K r (upd H D ho) v x
  | .non, _, h => by simpa only [Rep] using h
  | .bl _, _, h => by simpa only [Rep] using h
  | .int _, _, h => by simpa only [Rep] using h
  | .str _, _, h => by simpa only [Rep] using h
  | .tup vs, _, h => by
    simp only [Rep] at h ⊢
    obtain ⟨a, xs, e, s, q⟩ := h
    exact ⟨a, xs, e, by rw [upd_ne (ne_of s hD (fun z => nomatch z))]; exact s, Reps.side hD vs xs q⟩
  | .wt vs, _, h => by
    simp only [Rep] at h ⊢
    obtain ⟨a, xs, e, s, q⟩ := h
    exact ⟨a, xs, e, s, Reps.side hD vs xs q⟩
  | .ref n, _, h => by simpa only [Rep] using h
  | .ty _, _, h => by simpa only [Rep] using h
  | .wl vs, _, h => by
    simp only [Rep] at h ⊢
    obtain ⟨a, xs, e, s, q⟩ := h
    refine ⟨a, xs, e, ?_, Reps.side hD vs xs q⟩
    rcases s with ⟨o, s⟩ | s
    · exact .inl ⟨o, by rw [upd_ne (ne_of s hD (fun z => nomatch z))]; exact s⟩
    · exact .inr s
theorem Reps.side {D : Addr} {zs : List V} {ho : HO} (hD : H D = some (.lst zs)) : ∀ (vs : List Val) (xs : List V), Reps K r H vs xs → Reps K r (upd H D ho) vs xs
  | [], _, h => by simpa only [Reps] using h
  | v :: vs, _, h => by
    simp only [Reps] at h ⊢
    obtain ⟨y, ys, e, q1, q2⟩ := h
    exact ⟨y, ys, e, Rep.side hD v y q1, Reps.side hD vs ys q2⟩
end
theorem HRel.side {A : AH} {D : Addr} {zs : List V} {ho : HO} (R : HRel K r A H) (hn : D ∉ r) (hD : H D = some (.lst zs)) : HRel K r A (upd H D ho) := by
  refine ⟨R.len, R.nd, fun n b u e1 e2 => ?_⟩
  have hb : b ≠ D := fun z => hn (z ▸ List.mem_of_getElem? e1)
  have q := R.ob n b u e1 e2
  cases u with
  | lst vs => obtain ⟨xs, e, q⟩ := q; exact ⟨xs, (upd_ne hb).trans e, Reps.side hD _ _ q⟩
  | dk vs => obtain ⟨xs, e, q⟩ := q; exact ⟨xs, (upd_ne hb).trans e, q.1, Reps.side hD _ _ q.2⟩
  | dt vs => obtain ⟨xs, e, q⟩ := q; exact ⟨xs, (upd_ne hb).trans e, q.1, Reps.side hD _ _ q.2⟩
  | dz vs g => obtain ⟨e, o', xs, eg, q⟩ := q; exact ⟨(upd_ne hb).trans e, o', xs, eg, q.1, Reps.side hD _ _ q.2⟩
end
/-- the concrete target of a comprehension -/
def gsOf : List Nat → TGs
  | [] => gNil
  | i :: l => gCons (L2.gName i) (gsOf l)
def gOf (K : PySem.W.Frag) : Tg → TG
  | .one i => L2.gName i
  | .tup l => L2.gTup K l.length (gsOf l)
def Tg.slots : Tg → List Nat
  | .one i => [i]
  | .tup l => l
theorem gsOf_run : ∀ (l : List Nat) (xs : List V) (s : L2.St) (H : Hp) (Q : L2.St → Hp → Prop), xs.length = l.length → Q (setAll l xs s) H → gsOf l xs s H Q
  | [], [], s, H, Q, _, q => ⟨rfl, by unfold setAll at q; exact q⟩
  | i :: l, x :: xs, s, H, Q, h, q => ⟨x, xs, rfl, gsOf_run l xs _ H Q (by simpa using h) (by unfold setAll at q; exact q)⟩
  | [], _ :: _, _, _, _, h, _ => by simp at h
  | _ :: _, [], _, _, _, h, _ => by simp at h
theorem gOf_run {K : PySem.W.Frag} {r : List Addr} {H : Hp} {tg : Tg} {v : Val} {x : V} {t t2 : Lv} {s : L2.St} {vs : List Nat} {Q : L2.St → Hp → Prop} (hs : ∀ i ∈ tg.slots, i ∈ vs) (p : Rep K r H v x) (S : SRel K r H t s) (hb : bindT tg v t = some t2)
    (q : ∀ s2, SRel K r H t2 s2 → wipe s2 vs = wipe s vs → Q s2 H) : gOf K tg x s H Q := by
  cases tg with
  | one i =>
    simp only [bindT, Option.some.injEq] at hb
    subst hb
    exact q _ (S.set i p) (wipe_set (hs i (by simp [Tg.slots])))
  | tup l =>
    cases v with
    | tup ws =>
      simp only [bindT] at hb
      split at hb
      · rename_i hl
        simp only [Option.some.injEq] at hb
        subst hb
        obtain ⟨a, xs, rfl, sq, p⟩ := p.tupS (.inl rfl)
        exact ⟨a, xs, rfl, sq, by rw [← p.length, hl], gsOf_run l xs s H Q (by rw [← p.length, hl]) (q _ (S.setAll p) (wipe_setAll l xs s hs))⟩
      · cases hb
    | wt ws =>
      simp only [bindT] at hb
      split at hb
      · rename_i hl
        simp only [Option.some.injEq] at hb
        subst hb
        obtain ⟨a, xs, rfl, sq, p⟩ := p.tupS (.inr rfl)
        exact ⟨a, xs, rfl, sq, by rw [← p.length, hl], gsOf_run l xs s H Q (by rw [← p.length, hl]) (q _ (S.setAll p) (wipe_setAll l xs s hs))⟩
      · cases hb
    | _ => simp [bindT] at hb
section
variable {G : Gc} {X : Cx} {W : WX} {elt tgt iter : Expr} {ifs : List Expr} {it : DenI} {tt : DenT} {d : Den} {tg : Tg} {pos : Pos}
def STs (G : Gc) (X : Cx) (ifs : List Expr) (d : DenT) : Prop := ∀ W, Takes X W → PTs X ifs (TTW G W d)
theorem _root_.L2.PTs.wk {X : Cx} {e : List Expr} {t t' : TT} (h : PTs X e t) (w : ∀ s H Q, t' s H Q → t s H Q) : PTs X e t' := ⟨fun pins s σ H Q I q => h.run pins s σ H Q I (w _ _ _ q)⟩
theorem sts_nil : STs G X [] tYesV := fun W tk => pts_nil.wk fun s H Q ⟨r, A, t, R, S, h⟩ => h r H (Ext.refl r H) R
theorem sts_one {c : Expr} (h : ST G X c tt) : STs G X [c] tt := fun W tk => pts_one (h W tk)
theorem lc_red (mi : MonoI it) (mt : MonoT tt) (me : Mono d) {vs : List Nat} (hsl : ∀ i ∈ tg.slots, i ∈ vs) {s : L2.St} {H : Hp} {Q : VK} (h : TEW G W (dLc it tg tt d vs) s H Q) :
    tLc (TIW G W it) (gOf G.K tg) (TTW G (fun _ _ _ _ => False) tt) (TEW G (fun _ _ _ _ => False) d) vs s H Q := by
  obtain ⟨r, A, t, R, S, h⟩ := h
  refine ⟨r, A, t, R, S, mi _ _ _ _ _ _ (fun k A1 ⟨Wi, ⟨m0, w0⟩, q⟩ r1 H1 J E1 R1 IJ => ?_) (fun e A1 q => q) h⟩
  intro D hD
  have hDr := R1.fresh hD
  refine ⟨fun i m H' => ∃ r' A' acc xs, Ext r1 r' H1 H' ∧ HRel G.K r' A' H' ∧ D ∉ r' ∧ H' D = some (.lst xs) ∧ Reps G.K r' H' acc xs ∧ Wi i m acc A', ⟨m0, r1, A1, [], [], ext_new hD, R1.newT hD, hDr, upd_same, Reps.nil_iff.mpr rfl, w0⟩, fun i m H2 ⟨r2, A2, acc, xs, E2, R2, n2, hD2, p2, w2⟩ => ?_⟩
  obtain ⟨j1, j2⟩ := IJ r2 A2 H2 E2 R2 i
  have E12 := E1.trans E2
  rcases q i m acc A2 w2 with ⟨e, q⟩ | ⟨v, t2, e, hb, N, hN, q⟩
  · refine .inl ⟨j2 e, q (r2 ++ [D]) H2 (.ref D) ⟨?_, E12.keep, fun b hb n => ?_⟩ (R2.join n2 hD2 p2) ?_⟩
    · obtain ⟨l, el⟩ := E12.pre
      exact ⟨l ++ [D], by rw [el, List.append_assoc]⟩
    · rcases List.mem_append.mp hb with z | z
      · exact E12.new b z n
      · rw [List.mem_singleton] at z
        subst z
        cases e : H b with
        | none => rfl
        | some o => rw [E1.keep b o e n] at hD; cases hD
    · simp only [Rep]
      exact ⟨D, by rw [R2.len, List.getElem?_append_right (Nat.le_refl _)]; simp, rfl⟩
  · obtain ⟨go, yl⟩ := j1 v e
    refine .inr ⟨go, fun H' => ∃ r' A' acc xs, Ext r1 r' H1 H' ∧ HRel G.K r' A' H' ∧ D ∉ r' ∧ H' D = some (.lst xs) ∧ Reps G.K r' H' acc xs ∧ N acc A', fun H' ⟨r', A', acc', xs', E', R', n', hD', p', w'⟩ => ?_, fun x H3 y => ?_⟩
    · obtain ⟨m', hm, w'⟩ := hN acc' A' w'
      exact ⟨m', hm, r', A', acc', xs', E', R', n', hD', p', w'⟩
    · obtain ⟨E3, R3, p3⟩ := yl x H3 y
      have S3 : SRel G.K r2 H3 (wipeV t vs) (wipe s vs) := ((S.ext R (E12.trans E3)).wipe vs)
      refine gOf_run hsl p3 S3 hb fun s2 S2 ws2 => ⟨ws2.trans (wipe_wipe fun _ h => h), ?_⟩
      have keepD : ∀ {ra rb : List Addr} {Ha Hb : Hp} {zs : List V}, Ext ra rb Ha Hb → D ∉ ra → Ha D = some (.lst zs) → D ∉ rb ∧ Hb D = some (.lst zs) := fun {ra rb Ha Hb zs} E n hh => by
        refine ⟨fun hm => ?_, E.keep D _ hh n⟩
        have := E.new D hm n
        rw [this] at hh; cases hh
      obtain ⟨n3, hD3⟩ := keepD E3 n2 hD2
      have pa3 := Reps.ext R2 E3 _ _ p2
      refine ⟨r2, A2, t2, R3, S2, mt _ _ _ _ _ _ (fun b A4 q r4 H4 E4 R4 => ?_) (fun e A z => z.elim) q⟩
      obtain ⟨n4, hD4⟩ := keepD E4 n3 hD3
      have pa4 := Reps.ext R3 E4 _ _ pa3
      cases b with
      | true =>
        rw [if_pos rfl] at q ⊢
        refine ⟨r4, A4, t2, R4, S2.ext R3 E4, me _ _ _ _ _ _ (fun yv A5 ⟨hlen, q⟩ r5 H5 y5 E5 R5 p5 => ?_) (fun e A z => z.elim) q⟩
        obtain ⟨n5, hD5⟩ := keepD E5 n4 hD4
        have pa5 := Reps.ext R4 E5 _ _ pa4
        have Eall : Ext r1 r5 H1 H5 := E2.trans (E3.trans (E4.trans E5))
        refine ⟨xs, hD5, by rw [← pa5.length]; exact hlen, r5, A5, acc ++ [yv], xs ++ [y5], ⟨Eall.pre, fun b o hb nb => ?_, Eall.new⟩, R5.side n5 hD5, n5, upd_same, ?_, q⟩
        · rw [upd_ne (ne_of_none hb hD)]
          exact Eall.keep b o hb nb
        · exact Reps.append (Reps.side hD5 _ _ pa5) (Reps.cons_iff.mpr ⟨_, _, rfl, Rep.side hD5 _ _ p5, Reps.nil_iff.mpr rfl⟩)
      | false =>
        rw [if_neg Bool.false_ne_true] at q ⊢
        exact ⟨r4, A4, acc, xs, E2.trans (E3.trans E4), R4, n4, hD4, pa4, q⟩
theorem se_lc {scope : Scope} {own : List (Str × Nat)} (hK : X.K = G.K) (hc : X.calm = true) (hN : X.N.Nodup) (mi : MonoI it) (mt : MonoT tt) (me : Mono d) (hi : SI G X tgt iter it) (ok : BlkOk X.N X.env.scope scope own) (hsl : ∀ i ∈ tg.slots, i ∈ own.map (·.2))
    (hg : ∀ (s : Shared) (H : Hp) (C : Addr) (cl : List (Str × Addr)) (fp : List Addr), PG (X.blk s H scope (compEnvC scope cl C X.env) fp) tgt (gOf G.K tg)) (ht : ∀ (s : Shared) (H : Hp) (C : Addr) (cl : List (Str × Addr)) (fp : List Addr), STs G (X.blk s H scope (compEnvC scope cl C X.env) fp) ifs tt)
    (he : ∀ (s : Shared) (H : Hp) (C : Addr) (cl : List (Str × Addr)) (fp : List Addr), SE G (X.blk s H scope (compEnvC scope cl C X.env) fp) elt d) (hs : ∀ x, foldedSetIterable iter X.env x = pure x) :
    SE G X (.ListComp elt [⟨tgt, iter, ifs, 0⟩] scope pos) (dLc it tg tt d (own.map (·.2))) := fun W tk =>
  (pe_lc hc hN (hi W tk) ok hg (fun s H C cl fp => ht s H C cl fp _ takes0) (fun s H C cl fp => he s H C cl fp _ takes0) hs).wk fun s H Q h => lc_red mi mt me hsl h
theorem ss_setLc {scope : Scope} {own : List (Str × Nat)} {i : Nat} {y : Str} {py spos : Pos} (hK : X.K = G.K) (hc : X.calm = true) (hN : X.N.Nodup) (hy : X.N[i]? = some y) (hyl : X.env.scope.names.lookup y = some .local)
    (hsw : swapsWith (.ListComp elt [⟨tgt, iter, ifs, 0⟩] scope pos) (some (.Name y py)) spos.line X.env = pure true) (mi : MonoI it) (mt : MonoT tt) (me : Mono d) (hi : SI G X tgt iter it) (ok : BlkOk X.N X.env.scope scope own) (hsl : ∀ i ∈ tg.slots, i ∈ own.map (·.2))
    (hg : ∀ (s : Shared) (H : Hp) (C : Addr) (cl : List (Str × Addr)) (fp : List Addr), PG (X.blk s H scope (compEnvC scope cl C X.env) fp) tgt (gOf G.K tg)) (ht : ∀ (s : Shared) (H : Hp) (C : Addr) (cl : List (Str × Addr)) (fp : List Addr), STs G (X.blk s H scope (compEnvC scope cl C X.env) fp) ifs tt)
    (he : ∀ (s : Shared) (H : Hp) (C : Addr) (cl : List (Str × Addr)) (fp : List Addr), SE G (X.blk s H scope (compEnvC scope cl C X.env) fp) elt d) (hs : ∀ x, foldedSetIterable iter X.env x = pure x) :
    SS G X (.Assign [.Name y py] (.ListComp elt [⟨tgt, iter, ifs, 0⟩] scope pos) spos) (sAsg (dLc it tg tt d (own.map (·.2))) (EV.gName i)) := fun W tk =>
  (ps_setLc hc hN hy hyl hsw (hi W tk) ok hg (fun s H C cl fp => ht s H C cl fp _ takes0) (fun s H C cl fp => he s H C cl fp _ takes0) hs).wk fun D s H ⟨r, A, t, R, S, h⟩ => by
    refine lc_red (W := W) (Q := fun x H1 => L2.gName i x s H1 D.nx) mi mt me hsl ⟨r, A, t, R, S, mono_lc mi mt me _ _ _ _ _ _ (fun v A1 q r1 H1 x E1 R1 p1 => ?_) (fun e A1 q => ex_of R S q) h⟩
    exact q r1 H1 _ E1 R1 ((S.ext R E1).set i p1)
end
end EV

namespace EV
open PySem PySem.Spec PyProof.Rows L2 RZ RT

section
variable {G : Gc} {r : List Addr} {A : AH} {H : Hp} {Q : VK}
theorem kv_here {v : Val} {x : V} (R : HRel G.K r A H) (p : Rep G.K r H v x) (q : kv G r H Q v A) : Q x H := q r H x (Ext.refl r H) R p
theorem kv_int {i : Int} (R : HRel G.K r A H) (q : kv G r H Q (.int i) A) : Q (.int i) H := kv_here R (by simp only [Rep]) q
theorem kv_bl {b : Bool} (R : HRel G.K r A H) (q : kv G r H Q (.bl b) A) : Q (.bl b) H := kv_here R (by simp only [Rep]) q
theorem kv_str {b : Str} (R : HRel G.K r A H) (q : kv G r H Q (.str b) A) : Q (.str b) H := kv_here R (by simp only [Rep]) q
theorem kv_lst {vs : List Val} {xs : List V} (R : HRel G.K r A H) (p : Reps G.K r H vs xs) (q : kv G r H Q (.ref A.length) (A ++ [.lst vs])) : ∀ a, H a = none → Q (.ref a) (upd H a (.lst xs)) := fun a h => by
  have E := ext_alloc (ho := .lst xs) h (R.fresh h)
  refine q (r ++ [a]) _ _ E (R.alloc h ⟨xs, upd_same, Reps.ext R E _ _ p⟩) ?_
  simp only [Rep]
  exact ⟨a, by rw [R.len, List.getElem?_append_right (Nat.le_refl _)]; simp, rfl⟩
theorem kv_tup {vs : List Val} {xs : List V} (R : HRel G.K r A H) (p : Reps G.K r H vs xs) (q : kv G r H Q (.tup vs) A) : ∀ a, H a = none → Q (.ref a) (upd H a (.tup xs)) := fun a h => by
  have E := ext_new (r := r) (ho := .tup xs) h
  refine q r _ _ E (R.newT h) ?_
  simp only [Rep]
  exact ⟨a, xs, rfl, upd_same, Reps.ext R E _ _ p⟩
theorem kv_set {n : Nat} {a : Addr} {v : Val} {x : V} {o : Ob} {ho : HO} (R : HRel G.K r A H) (e : r[n]? = some a) (ox : ∀ K' : HRel G.K r A H, OR G.K r (upd H a ho) a o) (p : Rep G.K r (upd H a ho) v x) (q : kv G r H Q v (A.set n o)) : Q x (upd H a ho) :=
  q r _ x (ext_write (List.mem_of_getElem? e)) (R.write e (ox R)) p
theorem wr_reps {n : Nat} {a : Addr} {ho : HO} {vs : List Val} {xs : List V} (R : HRel G.K r A H) (e : r[n]? = some a) (p : Reps G.K r H vs xs) : Reps G.K r (upd H a ho) vs xs := Reps.ext R (ext_write (List.mem_of_getElem? e)) _ _ p
theorem wr_rep {n : Nat} {a : Addr} {ho : HO} {v : Val} {x : V} (R : HRel G.K r A H) (e : r[n]? = some a) (p : Rep G.K r H v x) : Rep G.K r (upd H a ho) v x := Rep.ext R (ext_write (List.mem_of_getElem? e)) _ _ p
theorem lst_at {n : Nat} {a : Addr} {vs : List Val} (R : HRel G.K r A H) (e : r[n]? = some a) (h : A[n]? = some (.lst vs)) : ∃ xs, H a = some (.lst xs) ∧ Reps G.K r H vs xs := R.ob n a _ e h
theorem rep_int {i : Int} {x : V} (p : Rep G.K r H (.int i) x) : x = .int i := by simpa only [Rep] using p
theorem rep_bl {i : Bool} {x : V} (p : Rep G.K r H (.bl i) x) : x = .bl i := by simpa only [Rep] using p
theorem rep_str {i : Str} {x : V} (p : Rep G.K r H (.str i) x) : x = .str i := by simpa only [Rep] using p
theorem rep_non {x : V} (p : Rep G.K r H .non x) : x = .non := by simpa only [Rep] using p
theorem rep_ref {n : Nat} {x : V} (p : Rep G.K r H (.ref n) x) : ∃ a, r[n]? = some a ∧ x = .ref a := by simpa only [Rep] using p
theorem rep_tup {vs : List Val} {x : V} (p : Rep G.K r H (.tup vs) x) : ∃ a xs, x = .ref a ∧ H a = some (.tup xs) ∧ Reps G.K r H vs xs := by simpa only [Rep] using p
end

/-! ### arithmetic -/
def oAdd : Op2 := fun x y A Q => match x, y with
  | .int i, .int j => Q (.int (i + j)) A
  | .str a, .str b => a.length + b.length ≤ sizeLine ∧ Q (.str (a ++ b)) A
  | .tup xs, .tup ys => xs.length + ys.length ≤ sizeLine ∧ Q (.tup (xs ++ ys)) A
  | .ref n, .ref m => ∃ xs ys, A[n]? = some (.lst xs) ∧ A[m]? = some (.lst ys) ∧ xs.length + ys.length ≤ sizeLine ∧ Q (.ref A.length) (A ++ [.lst (xs ++ ys)])
  | _, _ => False
def oInt (f : Int → Int → Int) : Op2 := fun x y A Q => match x, y with
  | .int i, .int j => Q (.int (f i j)) A
  | _, _ => False
def oIntC (C : Int → Int → Prop) (f : Int → Int → Int) : Op2 := fun x y A Q => match x, y with
  | .int i, .int j => C i j ∧ Q (.int (f i j)) A
  | _, _ => False
def oMul : Op2 := fun x y A Q => match x, y with
  | .int i, .int j => CMul i j ∧ Q (.int (i * j)) A
  | .ref n, .int k => ∃ xs, A[n]? = some (.lst xs) ∧ -(2 ^ 63) ≤ k ∧ k < 2 ^ 63 ∧ xs.length * k.toNat ≤ sizeLine ∧ Q (.ref A.length) (A ++ [.lst (List.replicate k.toNat xs).flatten])
  | _, _ => False
section
variable {G : Gc}
theorem Reps.rep {r : List Addr} {H : Hp} {vs : List Val} {xs : List V} (p : Reps G.K r H vs xs) : ∀ k : Nat, Reps G.K r H (List.replicate k vs).flatten (List.replicate k xs).flatten
  | 0 => by simp [Reps]
  | k + 1 => by
    rw [List.replicate_succ, List.replicate_succ, List.flatten_cons, List.flatten_cons]
    exact Reps.append p (Reps.rep p k)
theorem addS (K : PySem.W.Frag) (hK : K = G.K) : OpS G oAdd (fun x y H Q => rI0 (fun i j => .int (i + j)) x y H Q ∨ (∃ i j, x = .str i ∧ y = .str j ∧ i.length + j.length ≤ sizeLine ∧ Q (.str (i ++ j)) H) ∨ rCatA K x y H Q ∨ rCat x y H Q) := by
  subst hK
  refine ⟨fun x y A Q Q' h q => ?_, fun r A H v w x y Q R p1 p2 q => ?_⟩
  · unfold oAdd at q ⊢
    split at q
    · exact h _ _ q
    · exact ⟨q.1, h _ _ q.2⟩
    · exact ⟨q.1, h _ _ q.2⟩
    · obtain ⟨xs, ys, e1, e2, l, q⟩ := q
      exact ⟨xs, ys, e1, e2, l, h _ _ q⟩
    · exact q
  · unfold oAdd at q
    split at q
    · rw [rep_int p1, rep_int p2]
      exact .inl ⟨_, _, rfl, rfl, kv_int R q⟩
    · rw [rep_str p1, rep_str p2]
      exact .inr (.inl ⟨_, _, rfl, rfl, q.1, kv_str R q.2⟩)
    · obtain ⟨a, xs, rfl, e1, q1⟩ := rep_tup p1
      obtain ⟨b, ys, rfl, e2, q2⟩ := rep_tup p2
      obtain ⟨l, q⟩ := q
      rename_i vs ws
      have h1 := q1.length
      have h2 := q2.length
      refine .inr (.inr (.inl ⟨a, b, xs, ys, rfl, rfl, SqT.of e1, SqT.of e2, by omega, fun z => ?_, fun _ z => ?_, fun _ _ => kv_tup R (Reps.append q1 q2) q⟩))
      · subst z
        have : vs = [] := List.length_eq_zero_iff.mp h1
        subst this
        exact kv_here R p2 q
      · subst z
        have : ws = [] := List.length_eq_zero_iff.mp h2
        subst this
        rw [List.append_nil] at q
        exact kv_here R p1 q
    · obtain ⟨a, ea, rfl⟩ := rep_ref p1
      obtain ⟨b, eb, rfl⟩ := rep_ref p2
      obtain ⟨xs, ys, l1, l2, l, q⟩ := q
      obtain ⟨us, e1, q1⟩ := lst_at R ea l1
      obtain ⟨ws, e2, q2⟩ := lst_at R eb l2
      refine .inr (.inr (.inr ⟨a, b, us, ws, rfl, rfl, e1, e2, by rw [← q1.length, ← q2.length]; exact l, kv_lst R (Reps.append q1 q2) q⟩))
    · exact q.elim
theorem intS (f : Int → Int → Int) : OpS G (oInt f) (rI0 fun i j => .int (f i j)) := by
  refine ⟨fun x y A Q Q' h q => ?_, fun r A H v w x y Q R p1 p2 q => ?_⟩
  · unfold oInt at q ⊢
    split at q
    · exact h _ _ q
    · exact q
  · unfold oInt at q
    split at q
    · rw [rep_int p1, rep_int p2]
      exact ⟨_, _, rfl, rfl, kv_int R q⟩
    · exact q.elim
theorem intCS (C : Int → Int → Prop) (f : Int → Int → Int) : OpS G (oIntC C f) (rI C fun i j => .int (f i j)) := by
  refine ⟨fun x y A Q Q' h q => ?_, fun r A H v w x y Q R p1 p2 q => ?_⟩
  · unfold oIntC at q ⊢
    split at q
    · exact ⟨q.1, h _ _ q.2⟩
    · exact q
  · unfold oIntC at q
    split at q
    · rw [rep_int p1, rep_int p2]
      exact ⟨_, _, rfl, rfl, q.1, kv_int R q.2⟩
    · exact q.elim
theorem mulS : OpS G oMul (fun x y H Q => rI CMul (fun i j => .int (i * j)) x y H Q ∨ rRep x y H Q) := by
  refine ⟨fun x y A Q Q' h q => ?_, fun r A H v w x y Q R p1 p2 q => ?_⟩
  · unfold oMul at q ⊢
    split at q
    · exact ⟨q.1, h _ _ q.2⟩
    · obtain ⟨xs, e, a, b, l, q⟩ := q
      exact ⟨xs, e, a, b, l, h _ _ q⟩
    · exact q
  · unfold oMul at q
    split at q
    · rw [rep_int p1, rep_int p2]
      exact .inl ⟨_, _, rfl, rfl, q.1, kv_int R q.2⟩
    · obtain ⟨a, ea, rfl⟩ := rep_ref p1
      rw [rep_int p2]
      obtain ⟨xs, l1, h1, h2, l, q⟩ := q
      obtain ⟨us, e1, q1⟩ := lst_at R ea l1
      exact .inr ⟨a, _, us, rfl, rfl, e1, h1, h2, by rw [← q1.length]; exact l, kv_lst R (Reps.rep q1 _) q⟩
    · exact q.elim
end

/-! ### data, equality -/
mutual
def eqV : Val → Val → Bool
  | .non, .non => true
  | .bl a, .bl b => a == b
  | .bl a, .int j => (if a then 1 else 0) == j
  | .int i, .bl b => i == (if b then 1 else 0)
  | .int i, .int j => i == j
  | .str x, .str y => x == y
  | .tup xs, .tup ys => eqVs xs ys
  | _, _ => false
def eqVs : List Val → List Val → Bool
  | [], [] => true
  | x :: xs, y :: ys => eqV x y && eqVs xs ys
  | _, _ => false
end
mutual
def toD : Val → PyData
  | .non => .none
  | .bl b => .bool b
  | .int i => .int i
  | .str x => .str x
  | .tup xs => .tuple (toDs xs)
  | _ => .none
def toDs : List Val → List PyData
  | [] => []
  | x :: xs => toD x :: toDs xs
end
mutual
/-- plain data: no reference, nested less than n deep, its texts not too long -/
def okV : Nat → Val → Bool
  | _, .non => true
  | _, .bl _ => true
  | _, .int _ => true
  | _, .str x => PyData.strOk x
  | 0, .tup _ => false
  | n + 1, .tup xs => okVs n xs
  | _, _ => false
def okVs : Nat → List Val → Bool
  | _, [] => true
  | n, x :: xs => okV n x && okVs n xs
end
mutual
theorem eqv_toD : ∀ (n : Nat) (v w : Val), okV n v = true → okV n w = true → PyData.eqv (toD v) (toD w) = eqV v w
  | n, .non, w, _, h => by cases w <;> simp_all [toD, PyData.eqv, eqV, okV]
  | n, .bl _, w, _, h => by cases w <;> simp_all [toD, PyData.eqv, eqV, okV]
  | n, .int _, w, _, h => by cases w <;> simp_all [toD, PyData.eqv, eqV, okV]
  | n, .str _, w, _, h => by cases w <;> simp_all [toD, PyData.eqv, eqV, okV]
  | n, .wt _, w, h, _ => by simp [okV] at h
  | n, .ref _, w, h, _ => by simp [okV] at h
  | n, .ty _, w, h, _ => by simp [okV] at h
  | n, .wl _, w, h, _ => by simp [okV] at h
  | 0, .tup xs, w, h, _ => by simp [okV] at h
  | n + 1, .tup xs, .tup ys, h, h' => by
    simp only [okV] at h h'
    simp only [toD, PyData.eqv, eqV]
    exact eqvs_toD n xs ys h h'
  | n + 1, .tup xs, .non, h, h' => by simp [toD, PyData.eqv, eqV]
  | n + 1, .tup xs, .bl _, h, h' => by simp [toD, PyData.eqv, eqV]
  | n + 1, .tup xs, .int _, h, h' => by simp [toD, PyData.eqv, eqV]
  | n + 1, .tup xs, .str _, h, h' => by simp [toD, PyData.eqv, eqV]
  | n + 1, .tup xs, .wt _, h, h' => by simp [okV] at h'
  | n + 1, .tup xs, .ref _, h, h' => by simp [okV] at h'
  | n + 1, .tup xs, .ty _, h, h' => by simp [okV] at h'
  | n + 1, .tup xs, .wl _, h, h' => by simp [okV] at h'
theorem eqvs_toD : ∀ (n : Nat) (vs ws : List Val), okVs n vs = true → okVs n ws = true → PyData.eqvAll (toDs vs) (toDs ws) = eqVs vs ws
  | n, [], [], _, _ => by simp [toDs, PyData.eqvAll, eqVs]
  | n, [], _ :: _, _, _ => by simp [toDs, PyData.eqvAll, eqVs]
  | n, _ :: _, [], _, _ => by simp [toDs, PyData.eqvAll, eqVs]
  | n, v :: vs, w :: ws, h, h' => by
    simp only [okVs, Bool.and_eq_true] at h h'
    simp only [toDs, PyData.eqvAll, eqVs]
    rw [eqv_toD n v w h.1 h'.1, eqvs_toD n vs ws h.2 h'.2]
end
mutual
theorem lay_toD : ∀ (n : Nat) (v : Val), okV n v = true → (toD v).canLay0 = true ∧ (toD v).depth ≤ n
  | n, .non, _ => by simp [toD, PyData.canLay0, PyData.depth]
  | n, .bl _, _ => by simp [toD, PyData.canLay0, PyData.depth]
  | n, .int _, _ => by simp [toD, PyData.canLay0, PyData.depth]
  | n, .str _, h => by simp only [okV] at h; simp [toD, PyData.canLay0, PyData.depth, h]
  | n, .wt _, h => by simp [okV] at h
  | n, .ref _, h => by simp [okV] at h
  | n, .ty _, h => by simp [okV] at h
  | n, .wl _, h => by simp [okV] at h
  | 0, .tup xs, h => by simp [okV] at h
  | n + 1, .tup xs, h => by
    simp only [okV] at h
    obtain ⟨h1, h2⟩ := lays_toD n xs h
    simp only [toD, PyData.canLay0, PyData.depth]
    exact ⟨h1, by omega⟩
theorem lays_toD : ∀ (n : Nat) (vs : List Val), okVs n vs = true → PyData.canLayAll0 (toDs vs) = true ∧ PyData.depthAll (toDs vs) ≤ n
  | n, [], _ => by simp [toDs, PyData.canLayAll0, PyData.depthAll]
  | n, v :: vs, h => by
    simp only [okVs, Bool.and_eq_true] at h
    obtain ⟨h1, h2⟩ := lay_toD n v h.1
    obtain ⟨h3, h4⟩ := lays_toD n vs h.2
    simp only [toDs, PyData.canLayAll0, PyData.depthAll]
    exact ⟨by rw [h1, h3]; rfl, by omega⟩
end
theorem shaped_toD {n : Nat} {v : Val} (h : okV n v = true) (hn : n ≤ 64) : SeqAt.shaped (toD v) = true := by
  obtain ⟨h1, h2⟩ := lay_toD n v h
  unfold SeqAt.shaped
  rw [h1, Bool.true_and, decide_eq_true_eq]
  omega
theorem shapeds_toD {n : Nat} {vs : List Val} (h : okVs n vs = true) (hn : n < 64) : SeqAt.shaped (.list (toDs vs)) = true ∧ SeqAt.shaped (.tuple (toDs vs)) = true := by
  obtain ⟨h1, h2⟩ := lays_toD n vs h
  have e : decide (PyData.depthAll (toDs vs) + 1 ≤ 64) = true := decide_eq_true (by omega)
  unfold SeqAt.shaped
  simp only [PyData.canLay0, PyData.depth, h1, Bool.true_and]
  exact ⟨e, e⟩
section
variable {K : PySem.W.Frag} {r : List Addr} {H : Hp}
mutual
theorem dp_of : ∀ (n : Nat) (v : Val) (x : V), okV n v = true → Rep K r H v x → Dp K H x (toD v)
  | n, .non, _, _, p => by simp only [Rep] at p; subst p; simp only [toD]; exact .non
  | n, .bl b, _, _, p => by simp only [Rep] at p; subst p; simp only [toD]; exact .bl b
  | n, .int i, _, _, p => by simp only [Rep] at p; subst p; simp only [toD]; exact .int i
  | n, .str z, _, _, p => by simp only [Rep] at p; subst p; simp only [toD]; exact .str z
  | n, .wt _, _, h, _ => by simp [okV] at h
  | n, .ref _, _, h, _ => by simp [okV] at h
  | n, .ty _, _, h, _ => by simp [okV] at h
  | n, .wl _, _, h, _ => by simp [okV] at h
  | 0, .tup xs, _, h, _ => by simp [okV] at h
  | n + 1, .tup xs, _, h, p => by
    simp only [okV] at h
    simp only [Rep] at p
    obtain ⟨a, ys, rfl, e, q⟩ := p
    simp only [toD]
    exact .tup (SqT.of e) (dps_of n xs ys h q)
theorem dps_of : ∀ (n : Nat) (vs : List Val) (xs : List V), okVs n vs = true → Reps K r H vs xs → DpAll K H xs (toDs vs)
  | n, [], _, _, p => by rw [Reps.nil_iff] at p; subst p; simp only [toDs]; exact .nil
  | n, v :: vs, _, h, p => by
    simp only [okVs, Bool.and_eq_true] at h
    obtain ⟨y, ys, rfl, p1, p2⟩ := Reps.cons_iff.mp p
    simp only [toDs]
    exact .cons (dp_of n v y h.1 p1) (dps_of n vs ys h.2 p2)
end
end
def oEq (neg : Bool) : Op2 := fun x y A Q => match x, y with
  | .str a, .str b => Q (.bl (xor neg (decide (a = b)))) A
  | .ref n, .ref m => ∃ xs ys, lstAt A n = some xs ∧ lstAt A m = some ys ∧ okVs 60 xs = true ∧ okVs 60 ys = true ∧ Q (.bl (xor neg (eqVs xs ys))) A
  | x, y => okV 60 x = true ∧ okV 60 y = true ∧ Q (.bl (xor neg (eqV x y))) A
def rEqB (K : PySem.W.Frag) (neg : Bool) : R2 := fun x y H Q => (∃ a b, x = .str a ∧ y = .str b ∧ Q (.bl (xor neg (decide (a = b)))) H) ∨ ∃ d e, Dp K H x d ∧ Dp K H y e ∧ SeqAt.shaped d = true ∧ SeqAt.shaped e = true ∧ Q (.bl (xor neg (PyData.eqv d e))) H
theorem op_eqB {X : Cx} (hu : X.A.units + 64 < cLine) : OpR X (compareOp .Eq) (rEqB X.K false) := by
  intro pins s σ H x y v u Q I rx ry h
  rcases h with ⟨a, b, rfl, rfl, q⟩ | ⟨d, e, h1, h2, h3, h4, q⟩
  · rw [Bool.false_xor] at q
    refine op_eq pins s σ H _ _ v u Q I rx ry ⟨rfl, ?_⟩
    rw [dec_str]
    rw [← Bool.beq_eq_decide_eq] at q
    exact q
  · rw [Bool.false_xor] at q
    exact op_eqD hu pins s σ H x y v u Q I rx ry ⟨d, e, h1, h2, h3, h4, q⟩
theorem op_neB {X : Cx} (hu : X.A.units + 64 < cLine) : OpR X (compareOp .NotEq) (rEqB X.K true) := by
  intro pins s σ H x y v u Q I rx ry h
  rcases h with ⟨a, b, rfl, rfl, q⟩ | ⟨d, e, h1, h2, h3, h4, q⟩
  · rw [Bool.true_xor] at q
    refine op_ne pins s σ H _ _ v u Q I rx ry ⟨rfl, ?_⟩
    rw [dec_str]
    rw [← Bool.beq_eq_decide_eq] at q
    exact q
  · rw [Bool.true_xor] at q
    exact op_neD hu pins s σ H x y v u Q I rx ry ⟨d, e, h1, h2, h3, h4, q⟩
section
variable {G : Gc}
theorem eqS (neg : Bool) : OpS G (oEq neg) (rEqB G.K neg) := by
  refine ⟨fun x y A Q Q' h q => ?_, fun r A H v w x y Q R p1 p2 q => ?_⟩
  · unfold oEq at q ⊢
    split at q
    · exact h _ _ q
    · obtain ⟨xs, ys, e1, e2, o1, o2, q⟩ := q
      exact ⟨xs, ys, e1, e2, o1, o2, h _ _ q⟩
    · exact ⟨q.1, q.2.1, h _ _ q.2.2⟩
  · unfold oEq at q
    split at q
    · rw [rep_str p1, rep_str p2]
      exact .inl ⟨_, _, rfl, rfl, kv_bl R q⟩
    · obtain ⟨a, ea, rfl⟩ := rep_ref p1
      obtain ⟨b, eb, rfl⟩ := rep_ref p2
      obtain ⟨xs, ys, l1, l2, o1, o2, q⟩ := q
      obtain ⟨us, s1, q1⟩ := R.list ea l1
      obtain ⟨ws, s2, q2⟩ := R.list eb l2
      refine .inr ⟨_, _, .lst s1 (dps_of 60 _ _ o1 q1), .lst s2 (dps_of 60 _ _ o2 q2), (shapeds_toD o1 (by decide)).1, (shapeds_toD o2 (by decide)).1, ?_⟩
      rw [show PyData.eqv (.list (toDs xs)) (.list (toDs ys)) = PyData.eqvAll (toDs xs) (toDs ys) by simp only [PyData.eqv], eqvs_toD 60 _ _ o1 o2]
      exact kv_bl R q
    · obtain ⟨o1, o2, q⟩ := q
      refine .inr ⟨_, _, dp_of 60 _ _ o1 p1, dp_of 60 _ _ o2 p2, shaped_toD o1 (by decide), shaped_toD o2 (by decide), ?_⟩
      rw [eqv_toD 60 _ _ o1 o2]
      exact kv_bl R q
end
/-! ### order -/
def oOrd (f : Int → Int → Bool) : Op2 := fun x y A Q => match x, y with
  | .int i, .int j => Q (.bl (f i j)) A
  | _, _ => False
theorem ordS {G : Gc} (f : Int → Int → Bool) : OpS G (oOrd f) (rI0 fun i j => .bl (f i j)) := by
  refine ⟨fun x y A Q Q' h q => ?_, fun r A H v w x y Q R p1 p2 q => ?_⟩
  · unfold oOrd at q ⊢
    split at q
    · exact h _ _ q
    · exact q
  · unfold oOrd at q
    split at q
    · rw [rep_int p1, rep_int p2]
      exact ⟨_, _, rfl, rfl, kv_bl R q⟩
    · exact q.elim
/-! ### is -/
def isNonV : Val → Bool
  | .non => true
  | _ => false
def oIs (neg : Bool) : Op2 := fun x y A Q => match y with
  | .non => Q (.bl (xor neg (isNonV x))) A
  | .bl b => ∃ a, x = .bl a ∧ Q (.bl (xor neg (decide (a = b)))) A
  | _ => False
def rIsB (neg : Bool) : R2 := fun x y H Q => (y = .non ∧ Q (.bl (xor neg (decide (x = .non)))) H) ∨ ∃ a b, x = .bl a ∧ y = .bl b ∧ Q (.bl (xor neg (decide (a = b)))) H
theorem op_isB {X : Cx} : OpR X (compareOp .Is) (rIsB false) := by
  intro pins s σ H x y v u Q I rx ry h
  rcases h with ⟨e, q⟩ | ⟨a, b, e1, e2, q⟩
  · rw [Bool.false_xor] at q; exact op_isN pins s σ H x y v u Q I rx ry ⟨e, q⟩
  · rw [Bool.false_xor] at q; exact op_is_bl pins s σ H x y v u Q I rx ry ⟨a, b, e1, e2, q⟩
theorem op_isnB {X : Cx} : OpR X (compareOp .IsNot) (rIsB true) := by
  intro pins s σ H x y v u Q I rx ry h
  rcases h with ⟨e, q⟩ | ⟨a, b, e1, e2, q⟩
  · rw [Bool.true_xor] at q; exact op_notN pins s σ H x y v u Q I rx ry ⟨e, q⟩
  · rw [Bool.true_xor] at q; exact op_isnot_bl pins s σ H x y v u Q I rx ry ⟨a, b, e1, e2, q⟩
theorem isS {G : Gc} (neg : Bool) : OpS G (oIs neg) (rIsB neg) := by
  refine ⟨fun x y A Q Q' h q => ?_, fun r A H v w x y Q R p1 p2 q => ?_⟩
  · unfold oIs at q ⊢
    split at q
    · exact h _ _ q
    · obtain ⟨a, e, q⟩ := q
      exact ⟨a, e, h _ _ q⟩
    · exact q
  · unfold oIs at q
    split at q
    · refine .inl ⟨rep_non p2, ?_⟩
      have e : decide (x = V.non) = isNonV v := by
        cases v <;> simp only [Rep] at p1 <;> first | (subst p1; rfl) | (obtain ⟨_, _, rfl, _⟩ := p1; rfl) | (obtain ⟨_, _, rfl⟩ := p1; rfl)
      rw [e]
      exact kv_bl R q
    · obtain ⟨a, rfl, q⟩ := q
      exact .inr ⟨a, _, rep_bl p1, rep_bl p2, kv_bl R q⟩
    · exact q.elim
end EV

namespace EV
open PySem PySem.Spec PyProof.Rows L2 RZ RT

/-! ### keys -/
def keyO : Val → Option Key
  | .int i => some (.inl i)
  | .str x => some (.inr x)
  | _ => none
def keysO : List Val → Option (List Key)
  | [] => some []
  | v :: vs => (keyO v).bind fun k => (keysO vs).map fun ks => k :: ks
theorem keyO_rep {K : PySem.W.Frag} {r : List Addr} {H : Hp} {v : Val} {x : V} {k : Key} (p : Rep K r H v x) (h : keyO v = some k) : x = kV k := by
  cases v with
  | int i => simp only [keyO, Option.some.injEq] at h; subst h; simp only [Rep] at p; exact p
  | str i => simp only [keyO, Option.some.injEq] at h; subst h; simp only [Rep] at p; exact p
  | _ => simp [keyO] at h
theorem keysO_rep {K : PySem.W.Frag} {r : List Addr} {H : Hp} : ∀ {vs : List Val} {xs : List V} {ks : List Key}, Reps K r H vs xs → keysO vs = some ks → xs = ks.map kV
  | [], _, _, p, h => by
    rw [Reps.nil_iff] at p
    simp only [keysO, Option.some.injEq] at h
    subst h; subst p; rfl
  | v :: vs, _, _, p, h => by
    obtain ⟨y, ys, rfl, p1, p2⟩ := Reps.cons_iff.mp p
    simp only [keysO, Option.bind_eq_some_iff, Option.map_eq_some_iff] at h
    obtain ⟨k, hk, ks, hks, rfl⟩ := h
    rw [keyO_rep p1 hk, keysO_rep p2 hks]; rfl
/-- a dict's value at a key, as HandS has it -/
def dOf {κ : Type} [DecidableEq κ] (l : List (κ × Val)) (k : κ) : Option Val := (l.find? fun kv => decide (kv.1 = k)).map (·.2)
def dPut {κ : Type} [DecidableEq κ] (l : List (κ × Val)) (k : κ) (v : Val) : List (κ × Val) :=
  if (l.any fun kv => decide (kv.1 = k)) = true then l.map (fun kv => if kv.1 = k then (kv.1, v) else kv) else l ++ [(k, v)]
section
variable {κ : Type} [DecidableEq κ] {K : PySem.W.Frag} {r : List Addr} {H : Hp}
theorem RKV.nil_iff {xs : List (κ × V)} : RKV κ K r H [] xs ↔ xs = [] := by
  unfold RKV
  constructor
  · rintro ⟨h, _⟩
    cases xs with
    | nil => rfl
    | cons a l => simp at h
  · rintro rfl; exact ⟨rfl, by simp [Reps]⟩
theorem RKV.cons_iff {p : κ × Val} {l : List (κ × Val)} {xs : List (κ × V)} : RKV κ K r H (p :: l) xs ↔ ∃ x ys, xs = (p.1, x) :: ys ∧ Rep K r H p.2 x ∧ RKV κ K r H l ys := by
  unfold RKV
  constructor
  · rintro ⟨h, q⟩
    cases xs with
    | nil => simp at h
    | cons a ys =>
      simp only [List.map_cons, List.cons.injEq] at h q
      obtain ⟨y, zs, e, q1, q2⟩ := Reps.cons_iff.mp q
      simp only [List.cons.injEq] at e
      obtain ⟨rfl, rfl⟩ := e
      refine ⟨a.2, ys, ?_, q1, h.2, q2⟩
      rw [h.1]
  · rintro ⟨x, ys, rfl, q1, h, q2⟩
    exact ⟨by simp [h], Reps.cons_iff.mpr ⟨_, _, rfl, q1, q2⟩⟩
theorem RKV.len : ∀ {l : List (κ × Val)} {xs : List (κ × V)}, RKV κ K r H l xs → l.length = xs.length := fun {l xs} h => by
  have := congrArg List.length h.1
  simpa using this
theorem RKV.get : ∀ {l : List (κ × Val)} {xs : List (κ × V)} (k : κ), RKV κ K r H l xs → (∀ v, dOf l k = some v → ∃ x, valV xs k = some x ∧ Rep K r H v x) ∧ (dOf l k = none → valV xs k = none)
  | [], xs, k, h => by
    rw [RKV.nil_iff] at h
    subst h
    exact ⟨fun v e => by simp [dOf] at e, fun _ => rfl⟩
  | p :: l, xs, k, h => by
    obtain ⟨x, ys, rfl, q, h⟩ := RKV.cons_iff.mp h
    by_cases e : p.1 = k
    · rw [valV_pos (show (p.1, x).1 = k from e)]
      refine ⟨fun v z => ?_, fun z => ?_⟩
      · simp [dOf, List.find?_cons, e] at z
        subst z
        exact ⟨x, rfl, q⟩
      · simp [dOf, List.find?_cons, e] at z
    · rw [valV_neg (show ¬ (p.1, x).1 = k from e)]
      have ih := RKV.get k h
      have e2 : dOf (p :: l) k = dOf l k := by simp [dOf, List.find?_cons, e]
      rw [e2]
      exact ih
theorem RKV.any {l : List (κ × Val)} {xs : List (κ × V)} (k : κ) (h : RKV κ K r H l xs) : (l.any fun kv => decide (kv.1 = k)) = (xs.any fun kv => decide (kv.1 = k)) := by
  have e1 : (l.any fun kv => decide (kv.1 = k)) = ((l.map (·.1)).any fun z => decide (z = k)) := by rw [List.any_map]; rfl
  have e2 : (xs.any fun kv => decide (kv.1 = k)) = ((xs.map (·.1)).any fun z => decide (z = k)) := by rw [List.any_map]; rfl
  rw [e1, e2, h.1]
theorem RKV.repl {v : Val} {x : V} (k : κ) (q : Rep K r H v x) : ∀ {l : List (κ × Val)} {xs : List (κ × V)}, RKV κ K r H l xs → RKV κ K r H (l.map (fun kv => if kv.1 = k then (kv.1, v) else kv)) (xs.map (fun kv => if kv.1 = k then (kv.1, x) else kv))
  | [], xs, h => by
    rw [RKV.nil_iff] at h
    subst h
    exact RKV.nil_iff.mpr rfl
  | p :: l, xs, h => by
    obtain ⟨y, ys, rfl, q1, h⟩ := RKV.cons_iff.mp h
    have ih := RKV.repl k q h
    rw [List.map_cons, List.map_cons]
    by_cases e : p.1 = k
    · rw [if_pos e, if_pos (show (p.1, y).1 = k from e)]
      exact RKV.cons_iff.mpr ⟨_, _, rfl, q, ih⟩
    · rw [if_neg e, if_neg (show ¬ (p.1, y).1 = k from e)]
      exact RKV.cons_iff.mpr ⟨_, _, rfl, q1, ih⟩
theorem RKV.put {l : List (κ × Val)} {xs : List (κ × V)} {v : Val} {x : V} (k : κ) (h : RKV κ K r H l xs) (q : Rep K r H v x) : RKV κ K r H (dPut l k v) (putK xs k x) := by
  unfold dPut putK
  rw [h.any k]
  split
  · exact RKV.repl k q h
  · exact ⟨by simp [h.1], by rw [List.map_append, List.map_append]; exact Reps.append h.2 (Reps.cons_iff.mpr ⟨_, _, rfl, q, Reps.nil_iff.mpr rfl⟩)⟩
end
theorem length_dPut {κ : Type} [DecidableEq κ] (l : List (κ × Val)) (k : κ) (v : Val) : (dPut l k v).length ≤ l.length + 1 := by
  unfold dPut
  split
  · rw [List.length_map]; omega
  · rw [List.length_append]; exact Nat.le_refl _

/-- the dict at n at the key x: defined, then its value or none -/
def dAt (A : AH) (n : Nat) (x : Val) : Option (Option Val) := match A[n]? with
  | some (.dk kvs) => (keyO x).map fun k => dOf kvs k
  | some (.dt kvs) => match x with
    | .tup ks => (keysO ks).map fun k => dOf kvs k
    | _ => none
  | some (.dz kvs _) => (keyO x).map fun k => dOf kvs k
  | _ => none
section
variable {G : Gc} {r : List Addr} {A : AH} {H : Hp}
theorem dAt_get (R : HRel G.K r A H) {n : Nat} {a : Addr} {v : Val} {x : V} {o : Option Val} (e : r[n]? = some a) (p : Rep G.K r H v x) (h : dAt A n v = some o) :
    ∃ ox, DGet H a x ox ∧ (∀ w, o = some w → ∃ y, ox = some y ∧ Rep G.K r H w y) ∧ (o = none → ox = none) := by
  unfold dAt at h
  split at h
  · rename_i kvs e2
    obtain ⟨xs, ex, q⟩ := R.ob n a _ e e2
    simp only [Option.map_eq_some_iff] at h
    obtain ⟨k, hk, rfl⟩ := h
    rw [keyO_rep p hk]
    obtain ⟨g1, g2⟩ := RKV.get k q
    exact ⟨_, DGet.k ex, fun w hw => let ⟨y, e, p⟩ := g1 w hw; ⟨y, e, p⟩, g2⟩
  · rename_i kvs e2
    obtain ⟨xs, ex, q⟩ := R.ob n a _ e e2
    cases v with
    | tup ks =>
      simp only [Option.map_eq_some_iff] at h
      obtain ⟨k, hk, rfl⟩ := h
      obtain ⟨b, ys, rfl, hb, q2⟩ := rep_tup p
      have ey := keysO_rep q2 hk
      subst ey
      obtain ⟨g1, g2⟩ := RKV.get k q
      exact ⟨_, DGet.t ex hb, fun w hw => let ⟨y, e, p⟩ := g1 w hw; ⟨y, e, p⟩, g2⟩
    | _ => simp at h
  · rename_i kvs g e2
    obtain ⟨eg, o', xs, rfl, q⟩ := R.ob n a _ e e2
    simp only [Option.map_eq_some_iff] at h
    obtain ⟨k, hk, rfl⟩ := h
    rw [keyO_rep p hk]
    obtain ⟨g1, g2⟩ := RKV.get k q
    exact ⟨_, .inl ⟨xs, k, .inr ⟨o', eg⟩, rfl, rfl⟩, fun w hw => let ⟨y, e, p⟩ := g1 w hw; ⟨y, e, p⟩, g2⟩
  · cases h
end

/-! ### in -/
def occ (x y : Str) : Bool := !(Builtin.Str.occurrences y x 0 y.length 1).isEmpty
def oIn (neg : Bool) : Op2 := fun x y A Q => match y with
  | .str z => ∃ w, x = .str w ∧ Q (.bl (xor neg (occ w z))) A
  | .tup ys => okV 60 x = true ∧ okVs 60 ys = true ∧ Q (.bl (xor neg (ys.any fun z => eqV z x))) A
  | .ref n => (∃ ys, lstAt A n = some ys ∧ okV 60 x = true ∧ okVs 60 ys = true ∧ Q (.bl (xor neg (ys.any fun z => eqV z x))) A) ∨ (∃ o, dAt A n x = some o ∧ Q (.bl (xor neg o.isSome)) A)
  | _ => False
def rInB (K : PySem.W.Frag) (neg : Bool) : R2 := fun x y H Q => (∃ i j, x = .str i ∧ y = .str j ∧ Q (.bl (xor neg (occ i j))) H) ∨
  (∃ d ds, Dp K H x d ∧ Dp K H y (.tuple ds) ∧ SeqAt.shaped d = true ∧ SeqAt.shaped (.tuple ds) = true ∧ Q (.bl (xor neg (ds.any fun z => PyData.eqv z d))) H) ∨
  (∃ d ds, Dp K H x d ∧ Dp K H y (.list ds) ∧ SeqAt.shaped d = true ∧ SeqAt.shaped (.list ds) = true ∧ Q (.bl (xor neg (ds.any fun z => PyData.eqv z d))) H) ∨
  (∃ a o, y = .ref a ∧ DGet H a x o ∧ Q (.bl (xor neg o.isSome)) H)
theorem op_inB {X : Cx} (hu : X.A.units + 65 < cLine) : OpR X (compareOp .In) (rInB X.K false) := by
  intro pins s σ H x y v u Q I rx ry h
  rcases h with ⟨i, j, e1, e2, q⟩ | ⟨d, ds, h1, h2, h3, h4, q⟩ | ⟨d, ds, h1, h2, h3, h4, q⟩ | ⟨a, o, rfl, g, q⟩
  · rw [Bool.false_xor] at q
    exact op_in_str pins s σ H x y v u Q I rx ry ⟨i, j, e1, e2, q⟩
  · rw [Bool.false_xor] at q
    obtain ⟨as, r1⟩ := Dp.reads I d x v h1 rx
    obtain ⟨bs, r2⟩ := Dp.reads I (.tuple ds) y u h2 ry
    exact SeqAt.in_tuple_reads r2 r1 (SeqAt.canLay_of_shaped h4) (SeqAt.canLay_of_shaped h3) (room_in_shaped h3 hu) ⟨.bl _, H, I, rfl, q⟩
  · rw [Bool.false_xor] at q
    exact op_inD hu pins s σ H x y v u Q I rx ry ⟨d, ds, h1, h2, h3, h4, q⟩
  · rw [Bool.false_xor] at q
    obtain rfl : u = Value.ref a := ry
    exact d_in (by omega) I g rx fun s3 I3 => ⟨.bl o.isSome, H, I3, rfl, q⟩
theorem op_notInB {X : Cx} (hu : X.A.units + 65 < cLine) : OpR X (compareOp .NotIn) (rInB X.K true) := by
  intro pins s σ H x y v u Q I rx ry h
  rcases h with ⟨i, j, e1, e2, q⟩ | ⟨d, ds, h1, h2, h3, h4, q⟩ | ⟨d, ds, h1, h2, h3, h4, q⟩ | ⟨a, o, rfl, g, q⟩
  · rw [Bool.true_xor] at q
    exact op_notIn_str pins s σ H x y v u Q I rx ry ⟨i, j, e1, e2, q⟩
  · rw [Bool.true_xor] at q
    obtain ⟨as, r1⟩ := Dp.reads I d x v h1 rx
    obtain ⟨bs, r2⟩ := Dp.reads I (.tuple ds) y u h2 ry
    exact SeqAt.notIn_tuple_reads r2 r1 (SeqAt.canLay_of_shaped h4) (SeqAt.canLay_of_shaped h3) (room_in_shaped h3 hu) ⟨.bl _, H, I, rfl, q⟩
  · rw [Bool.true_xor] at q
    exact op_notInD hu pins s σ H x y v u Q I rx ry ⟨d, ds, h1, h2, h3, h4, q⟩
  · rw [Bool.true_xor] at q
    obtain rfl : u = Value.ref a := ry
    exact d_notIn (by omega) I g rx fun s3 I3 => ⟨.bl (!o.isSome), H, I3, rfl, q⟩
theorem any_toD {n : Nat} {x : Val} (hx : okV n x = true) : ∀ {ys : List Val}, okVs n ys = true → ((toDs ys).any fun z => PyData.eqv z (toD x)) = ys.any fun z => eqV z x
  | [], _ => by simp [toDs]
  | y :: ys, h => by
    simp only [okVs, Bool.and_eq_true] at h
    simp only [toDs, List.any_cons]
    rw [eqv_toD n y x h.1 hx, any_toD hx h.2]
section
variable {G : Gc}
theorem inS (neg : Bool) : OpS G (oIn neg) (rInB G.K neg) := by
  refine ⟨fun x y A Q Q' h q => ?_, fun r A H v w x y Q R p1 p2 q => ?_⟩
  · unfold oIn at q ⊢
    split at q
    · obtain ⟨w, e, q⟩ := q
      exact ⟨w, e, h _ _ q⟩
    · exact ⟨q.1, q.2.1, h _ _ q.2.2⟩
    · rcases q with ⟨ys, e, o1, o2, q⟩ | ⟨o, e, q⟩
      · exact .inl ⟨ys, e, o1, o2, h _ _ q⟩
      · exact .inr ⟨o, e, h _ _ q⟩
    · exact q
  · unfold oIn at q
    split at q
    · obtain ⟨w, rfl, q⟩ := q
      exact .inl ⟨_, _, rep_str p1, rep_str p2, kv_bl R q⟩
    · obtain ⟨o1, o2, q⟩ := q
      obtain ⟨a, ys, rfl, e, q2⟩ := rep_tup p2
      refine .inr (.inl ⟨_, _, dp_of 60 _ _ o1 p1, .tup (SqT.of e) (dps_of 60 _ _ o2 q2), shaped_toD o1 (by decide), (shapeds_toD o2 (by decide)).2, ?_⟩)
      rw [any_toD o1 o2]
      exact kv_bl R q
    · obtain ⟨a, ea, rfl⟩ := rep_ref p2
      rcases q with ⟨ys, e, o1, o2, q⟩ | ⟨o, e, q⟩
      · obtain ⟨us, s2, q2⟩ := R.list ea e
        refine .inr (.inr (.inl ⟨_, _, dp_of 60 _ _ o1 p1, .lst s2 (dps_of 60 _ _ o2 q2), shaped_toD o1 (by decide), (shapeds_toD o2 (by decide)).1, ?_⟩))
        rw [any_toD o1 o2]
        exact kv_bl R q
      · obtain ⟨ox, g, g1, g2⟩ := dAt_get R ea p1 e
        refine .inr (.inr (.inr ⟨a, ox, rfl, g, ?_⟩))
        have : ox.isSome = o.isSome := by
          cases o with
          | none => rw [g2 rfl]; rfl
          | some w => obtain ⟨y, e, _⟩ := g1 w rfl; rw [e]; rfl
        rw [this]
        exact kv_bl R q
    · exact q.elim
end

/-! ### subscripts -/
def oIx : Op2 := fun x y A Q => match x with
  | .tup xs => ∃ i v, y = .int i ∧ atI xs i = some v ∧ Q v A
  | .wt xs => ∃ i v, y = .int i ∧ atI xs i = some v ∧ Q v A
  | .str z => ∃ i c, y = .int i ∧ z.length ≤ sizeLine ∧ atI z.cps.toList i = some c ∧ Q (.str ⟨#[c]⟩) A
  | .ref n => (∃ xs i v, lstAt A n = some xs ∧ y = .int i ∧ atI xs i = some v ∧ Q v A) ∨ (∃ v, dAt A n y = some (some v) ∧ Q v A)
  | _ => False
theorem atI_rep {K : PySem.W.Frag} {r : List Addr} {H : Hp} {vs : List Val} {xs : List V} {i : Int} {v : Val} (p : Reps K r H vs xs) (h : atI vs i = some v) : ∃ x, atI xs i = some x ∧ Rep K r H v x := by
  unfold atI at h ⊢
  rw [← p.length]
  cases e : ixN vs.length i with
  | none => rw [e] at h; cases h
  | some j =>
    rw [e] at h
    simp only [Option.bind_some] at h ⊢
    exact p.get h
def rIxD : R2 := fun x y H Q => ∃ a v, x = .ref a ∧ DGet H a y (some v) ∧ Q v H
theorem subTail_of {prog : Program} {w : World} {A : Around} {E : Value → Shared → Prop} {s : Shared} {value slice : Expr} {o i : Value} {T id : String} {Q : Value → Shared → Prop} (hT : s.TypeIs o T)
    (hl : typeLookup (.type T) "__getitem__" = pure (some (.builtin id))) (h : wpAny (model prog w) A (getItem o i) Q E s)
    (hs : subscripted slice false o i = operate [o, i] (getItem o i)) :
    wpAny (model prog w) A (subscriptTail value slice o i) Q E s := by
  unfold subscriptTail
  refine wpAny_bind ?_
  rw [getitemInPython_of_ne hT.not_modules]
  refine wpAny_bind (wpAny_specialOf hT hl ?_)
  have fin : wpAny (model prog w) A (subscripted slice false o i) (fun r s₃ => wpAny (model prog w) A (letTemporaryGo value o r >>= fun _ => pure r) Q E s₃) E s := by
    rw [hs]
    exact wpAny_operating (wpAny_mono h (fun r s₃ h₃ => wpAny_bind (wpAny_letTemporaryGo (wpAny_pure h₃))) fun _ _ x => x)
  first
    | exact wpAny_pure (wpAny_bind fin)
    | exact wpAny_bind (wpAny_pure (wpAny_bind fin))
    | exact wpAny_bind fin
theorem ix_dict {X : Cx} (hu : X.A.units + 1 < cLine) : IxR X rIxD := by
  intro value slice pins s σ H x y v u Q I rx ry h hs
  obtain ⟨a, w, rfl, g, q⟩ := h
  obtain rfl : v = Value.ref a := rx
  exact subTail_of (dict_typeIs I g) PySem.F.slot_dict_getitem.lookup (d_getItem hu I g ry fun w' s3 I3 rw' => ⟨w, H, I3, rw', q⟩) hs
def rIxB (K : PySem.W.Frag) : R2 := fun x y H Q => rIx K x y H Q ∨ rIxD x y H Q
theorem ix_all {X : Cx} (hu : X.A.units + 1 < cLine) : IxR X (rIxB X.K) := ix_seq.or (ix_dict hu)
theorem ixS {G : Gc} : OpS G oIx (rIxB G.K) := by
  refine ⟨fun x y A Q Q' h q => ?_, fun r A H v w x y Q R p1 p2 q => ?_⟩
  · unfold oIx at q ⊢
    split at q
    · obtain ⟨i, v, e1, e2, q⟩ := q; exact ⟨i, v, e1, e2, h _ _ q⟩
    · obtain ⟨i, v, e1, e2, q⟩ := q; exact ⟨i, v, e1, e2, h _ _ q⟩
    · obtain ⟨i, c, e1, l, e2, q⟩ := q; exact ⟨i, c, e1, l, e2, h _ _ q⟩
    · rcases q with ⟨xs, i, v, l, e1, e2, q⟩ | ⟨v, e, q⟩
      · exact .inl ⟨xs, i, v, l, e1, e2, h _ _ q⟩
      · exact .inr ⟨v, e, h _ _ q⟩
    · exact q
  · unfold oIx at q
    split at q
    · obtain ⟨i, v, rfl, e2, q⟩ := q
      obtain ⟨a, ys, rfl, s, q1⟩ := p1.tupS (.inl rfl)
      obtain ⟨z, e3, p3⟩ := atI_rep q1 e2
      rw [rep_int p2]
      exact .inl (.inr (.inl ⟨a, ys, i, z, rfl, rfl, s, e3, kv_here R p3 q⟩))
    · obtain ⟨i, v, rfl, e2, q⟩ := q
      obtain ⟨a, ys, rfl, s, q1⟩ := p1.tupS (.inr rfl)
      obtain ⟨z, e3, p3⟩ := atI_rep q1 e2
      rw [rep_int p2]
      exact .inl (.inr (.inl ⟨a, ys, i, z, rfl, rfl, s, e3, kv_here R p3 q⟩))
    · obtain ⟨i, c, rfl, l, e2, q⟩ := q
      rw [rep_str p1, rep_int p2]
      exact .inl (.inr (.inr ⟨_, i, c, rfl, rfl, l, e2, kv_str R q⟩))
    · obtain ⟨a, ea, rfl⟩ := rep_ref p1
      rcases q with ⟨xs, i, v, l, rfl, e2, q⟩ | ⟨v, e, q⟩
      · obtain ⟨us, s2, q2⟩ := R.list ea l
        obtain ⟨z, e3, p3⟩ := atI_rep q2 e2
        rw [rep_int p2]
        exact .inl (.inl ⟨a, us, i, z, rfl, rfl, s2, e3, kv_here R p3 q⟩)
      · obtain ⟨ox, g, g1, g2⟩ := dAt_get R ea p2 e
        obtain ⟨z, e3, p3⟩ := g1 v rfl
        subst e3
        exact .inr ⟨a, z, rfl, g, kv_here R p3 q⟩
    · exact q.elim

/-! ### slices -/
abbrev DenO := Lv → AH → (Option Int → AH → Prop) → XQ → Prop
def MonoO (d : DenO) : Prop := ∀ t A Q Q' E E', (∀ v A', Q v A' → Q' v A') → (∀ e A', E e A' → E' e A') → d t A Q E → d t A Q' E'
def pNo : DenO := fun _ A Q _ => Q none A
def pSo (d : Den) : DenO := fun t A Q E => d t A (fun v A1 => ∃ i, v = .int i ∧ Q (some i) A1) E
theorem mono_pno : MonoO pNo := fun t A Q Q' E E' h k q => h _ _ q
theorem mono_pso {d : Den} (md : Mono d) : MonoO (pSo d) := fun t A Q Q' E E' h k q => md _ _ _ _ _ _ (fun v A1 ⟨i, e, q⟩ => ⟨i, e, h _ _ q⟩) k q
def cutL (xs : List Val) (lo hi : Option Int) : List Val := (xs.drop (HT.sIx xs.length 0 lo)).take (HT.sIx xs.length xs.length hi - HT.sIx xs.length 0 lo)
def oSl (x : Val) (lo hi : Option Int) (A : AH) (Q : VQ) : Prop := match x with
  | .tup xs => Q (.tup (cutL xs lo hi)) A
  | .ref n => ∃ xs, lstAt A n = some xs ∧ Q (.ref A.length) (A ++ [.lst (cutL xs lo hi)])
  | _ => False
def dSl (d : Den) (lo hi : DenO) : Den := fun t A Q E => d t A (fun x A1 => lo t A1 (fun l A2 => hi t A2 (fun u A3 => oSl x l u A3 Q) E) E) E
theorem mono_osl {x : Val} {lo hi : Option Int} {A : AH} {Q Q' : VQ} (h : ∀ v A', Q v A' → Q' v A') (q : oSl x lo hi A Q) : oSl x lo hi A Q' := by
  unfold oSl at q ⊢
  split at q
  · exact h _ _ q
  · obtain ⟨xs, e, q⟩ := q; exact ⟨xs, e, h _ _ q⟩
  · exact q
theorem mono_sl {d : Den} {lo hi : DenO} (md : Mono d) (ml : MonoO lo) (mh : MonoO hi) : Mono (dSl d lo hi) := fun t A Q Q' E E' h k q =>
  md _ _ _ _ _ _ (fun x A1 q => ml _ _ _ _ _ _ (fun l A2 q => mh _ _ _ _ _ _ (fun u A3 q => mono_osl h q) k q) k q) k q
theorem cut_rep {K : PySem.W.Frag} {r : List Addr} {H : Hp} {vs : List Val} {xs : List V} {lo hi : Option Int} (p : Reps K r H vs xs) : Reps K r H (cutL vs lo hi) (cutV xs lo hi) := by
  unfold cutL cutV
  rw [p.length]
  exact Reps.take _ (Reps.drop _ p)
def TOW (G : Gc) (W : WX) (d : DenO) : TO := fun s H Q => ∃ r A t, HRel G.K r A H ∧ SRel G.K r H t s ∧ d t A (fun o A' => ∀ r' H', Ext r r' H H' → HRel G.K r' A' H' → Q o H') (kx G r H s W)
def SO (G : Gc) (X : Cx) (e : Option Expr) (d : DenO) : Prop := ∀ W, Takes X W → PO X e (TOW G W d)
theorem _root_.L2.PO.wk {X : Cx} {e : Option Expr} {t t' : TO} (h : PO X e t) (w : ∀ s H Q, t' s H Q → t s H Q) : PO X e t' := ⟨fun pins s σ H Q I q => h.run pins s σ H Q I (w _ _ _ q)⟩
section
variable {G : Gc} {X : Cx} {e : Expr} {d : Den}
theorem so_none : SO G X none pNo := fun W tk => po_none.wk fun s H Q ⟨r, A, t, R, S, h⟩ => h r H (Ext.refl r H) R
theorem so_some (md : Mono d) (hd : SE G X e d) : SO G X (some e) (pSo d) := fun W tk => (po_some (hd W tk)).wk fun s H Q ⟨r, A, t, R, S, h⟩ =>
  ⟨r, A, t, R, S, md _ _ _ _ _ _ (fun v A1 ⟨i, e, q⟩ r1 H1 x E1 R1 p1 => ⟨i, by subst e; exact rep_int p1, q r1 H1 E1 R1⟩) (fun _ _ h => h) h⟩
theorem se_sl {elo ehi : Option Expr} {lo hi : DenO} {p2 pos : Pos} (hK : X.K = G.K) (md : Mono d) (ml : MonoO lo) (mh : MonoO hi) (hd : SE G X e d) (hl : SO G X elo lo) (hh : SO G X ehi hi) : SE G X (.Subscript e (.Slice elo ehi none p2) pos) (dSl d lo hi) := fun W tk =>
  (pe_slice (sl_list.or sl_tupA) (hd W tk) (hl W tk) (hh W tk)).wk fun s H Q ⟨r, A, t, R, S, h⟩ => by
    refine ⟨r, A, t, R, S, md _ _ _ _ _ _ (fun x A1 q r1 H1 xv E1 R1 p1 => ?_) (fun _ _ h => h) h⟩
    refine ⟨r1, A1, t, R1, S.ext R E1, ml _ _ _ _ _ _ (fun l A2 q r2 H2 E2 R2 => ?_) (fun e A h => kx_up E1 h) q⟩
    have S2 := (S.ext R E1).ext R1 E2
    refine ⟨r2, A2, t, R2, S2, mh _ _ _ _ _ _ (fun u A3 q r3 H3 E3 R3 => ?_) (fun e A h => kx_up (E1.trans E2) h) q⟩
    have p3 := Rep.ext R2 E3 _ _ (Rep.ext R1 E2 _ _ p1)
    have q := mono_osl (fun v A' h => kv_up (E1.trans (E2.trans E3)) h) q
    rw [hK]
    cases x with
    | tup vs =>
      obtain ⟨a, ys, rfl, e1, q1⟩ := rep_tup p3
      refine .inr ⟨a, ys, rfl, SqT.of e1, fun z => ?_, fun _ => kv_tup R3 (cut_rep q1) q⟩
      have : cutL vs l u = vs := by
        unfold cutL
        rw [q1.length, z.1, z.2, List.drop_zero, Nat.sub_zero, ← q1.length, List.take_length]
      have q : kv G r3 H3 Q (.tup (cutL vs l u)) A3 := q
      rw [this] at q
      exact kv_here R3 p3 q
    | ref n =>
      obtain ⟨a, ea, rfl⟩ := rep_ref p3
      obtain ⟨xs, e, q⟩ := q
      obtain ⟨us, s2, q2⟩ := R3.list ea e
      exact .inl ⟨a, us, rfl, s2, kv_lst R3 (cut_rep q2) q⟩
    | _ => exact q.elim
end

/-! ### stores -/
def oSet : OpSet := fun x y v A Q => match x with
  | .ref n => (∃ xs k j, A[n]? = some (.lst xs) ∧ y = .int k ∧ ixN xs.length k = some j ∧ Q (A.set n (.lst (xs.set j v)))) ∨
    (∃ kvs k, A[n]? = some (.dk kvs) ∧ keyO y = some k ∧ kvs.length < sizeLine ∧ Q (A.set n (.dk (dPut kvs k v)))) ∨
    (∃ kvs ks k, A[n]? = some (.dt kvs) ∧ y = .tup ks ∧ keysO ks = some k ∧ kvs.length < sizeLine ∧ Q (A.set n (.dt (dPut kvs k v))))
  | _ => False
def rSetD : V → V → V → Hp → (Hp → Prop) → Prop := fun o i v H Q => ∃ a H', o = .ref a ∧ DPut H a i v H' ∧ Q H'
def rSetB : V → V → V → Hp → (Hp → Prop) → Prop := fun o i v H Q => rSetL o i v H Q ∨ rSetD o i v H Q
theorem set_all {X : Cx} (hu : X.A.units + 1 < cLine) : PSet X rSetB := by
  intro pins s σ H o i v ov iv u Q I r1 r2 r3 h
  rcases h with h | ⟨a, H', rfl, g, q⟩
  · exact set_list pins s σ H o i v ov iv u Q I r1 r2 r3 h
  · obtain rfl : ov = Value.ref a := r1
    exact d_setItem hu I g r2 r3 fun s' I' => ⟨H', I', q⟩
theorem setS {G : Gc} : SetS G oSet rSetB := by
  refine ⟨fun x y z A Q Q' h q => ?_, fun r A H u v w x y z Q R p1 p2 p3 q => ?_⟩
  · unfold oSet at q ⊢
    split at q
    · rcases q with ⟨xs, k, j, e1, e2, e3, q⟩ | ⟨kvs, k, e1, e2, e3, q⟩ | ⟨kvs, ks, k, e1, e2, e3, e4, q⟩
      · exact .inl ⟨xs, k, j, e1, e2, e3, h _ q⟩
      · exact .inr (.inl ⟨kvs, k, e1, e2, e3, h _ q⟩)
      · exact .inr (.inr ⟨kvs, ks, k, e1, e2, e3, e4, h _ q⟩)
    · exact q
  · unfold oSet at q
    split at q
    · obtain ⟨a, ea, rfl⟩ := rep_ref p1
      have hm := List.mem_of_getElem? ea
      rcases q with ⟨xs, k, j, e1, rfl, e3, q⟩ | ⟨kvs, k, e1, e2, e3, q⟩ | ⟨kvs, ks, k, e1, rfl, e3, e4, q⟩
      · obtain ⟨us, eu, qu⟩ := lst_at R ea e1
        rw [rep_int p2]
        refine .inl ⟨a, us, k, j, rfl, rfl, eu, by rw [← qu.length]; exact e3, ?_⟩
        exact q r _ (ext_write hm) (R.write ea ⟨_, upd_same, Reps.set j (wr_reps R ea qu) (wr_rep R ea p3)⟩)
      · obtain ⟨us, eu, qu⟩ := R.ob _ a _ ea e1
        rw [keyO_rep p2 e2]
        refine .inr ⟨a, _, rfl, DPut.k eu (by rw [← qu.len]; exact e3), ?_⟩
        exact q r _ (ext_write hm) (R.write ea ⟨_, upd_same, RKV.put k (qu.ext R (ext_write hm)) (wr_rep R ea p3)⟩)
      · obtain ⟨us, eu, qu⟩ := R.ob _ a _ ea e1
        obtain ⟨b, ys, rfl, hb, q2⟩ := rep_tup p2
        have ey := keysO_rep q2 e3
        subst ey
        refine .inr ⟨a, _, rfl, DPut.t eu hb (by rw [← qu.len]; exact e4), ?_⟩
        exact q r _ (ext_write hm) (R.write ea ⟨_, upd_same, RKV.put k (qu.ext R (ext_write hm)) (wr_rep R ea p3)⟩)
    · exact q.elim
end EV

namespace EV
open PySem PySem.Spec PyProof.Rows L2 RZ RT PySem.W

/-! ### sorted of tuples of ints, any lengths -/
def IT (h : Heap) (v : Value) (ns : List Int) : Prop := ∃ a its, v = .ref a ∧ IsTup h a its ∧ IntsAre its.toList ns
section
variable {prog : Program} {w : World} {A : Around} {s : Shared}
theorem IT.keeps {h h' : Heap} {v : Value} {ns : List Int} (x : IT h v ns) (k : ∀ b o, h.get? b = some o → o.cls = .type "tuple" → h'.get? b = some o) : IT h' v ns := by
  obtain ⟨a, its, e, ⟨o, ho, hc, n, hd⟩, i⟩ := x
  exact ⟨a, its, e, ⟨o, k a o ho hc, hc, n, hd⟩, i⟩
theorem it_first {M : Model} {v : Value} {ns : List Int} (x : IT s.heap v ns) : ∃ f : Option Value, f.isSome = !ns.isEmpty ∧ (∀ y, f = some y → ∃ n t, y = Value.int n t) ∧ ∀ (Q : Option Value → Shared → Prop) (E : Value → Shared → Prop), Q f s → wpAny M A (firstOfTuple' v) Q E s := by
  obtain ⟨a, its, rfl, ⟨o, ho, hc, n, hd⟩, i⟩ := x
  refine ⟨its[0]?, ?_, fun y e => ?_, fun Q E hq => ?_⟩
  · have hl := i.length
    cases ns with
    | nil =>
      simp only [List.length_nil, Array.length_toList] at hl
      rw [Array.getElem?_eq_none (by omega)]; rfl
    | cons m ns =>
      simp only [List.length_cons, Array.length_toList] at hl
      rw [Array.getElem?_eq_getElem (by omega)]; rfl
  · have e' : its.toList[0]? = some y := by simpa using e
    generalize its.toList = l at i e'
    cases i with
    | nil => simp at e'
    | cons m t r => simp at e'; exact ⟨_, _, e'.symm⟩
  · rw [PySem.W.kas_first_eq]
    refine wpAny_bind (Looks.here (show Looks M s.heap (typeOf (.ref a)) o.cls from (Looks.ld ho).andThen .now) ?_)
    rw [hc, if_neg (by first | decide | simp)]
    exact wpAny_bind (listItems_at ho hd (wpAny_pure hq))
theorem it_firsts {M : Model} {k : Value → List Int} : ∀ (vs : List Value), (∀ v ∈ vs, IT s.heap v (k v)) → ∃ fs : List (Option Value), fs.map (fun f => f.isSome) = vs.map (fun v => !(k v).isEmpty) ∧ (∀ f ∈ fs, ∀ y, f = some y → ∃ n t, y = Value.int n t) ∧
    ∀ (Q : List (Option Value) → Shared → Prop) (E : Value → Shared → Prop), Q fs s → wpAny M A (vs.mapM firstOfTuple') Q E s
  | [], _ => ⟨[], rfl, fun f h => (by cases h), fun Q E hq => by rw [List.mapM_nil]; exact wpAny_pure hq⟩
  | v :: vs, h => by
    obtain ⟨f, f1, f2, f3⟩ := it_first (A := A) (M := M) (h v List.mem_cons_self)
    obtain ⟨fs, g1, g2, g3⟩ := it_firsts (M := M) vs fun u hu => h u (List.mem_cons_of_mem _ hu)
    refine ⟨f :: fs, by rw [List.map_cons, List.map_cons, g1, f1], fun x hx y e => ?_, fun Q E hq => ?_⟩
    · rcases List.mem_cons.mp hx with z | z
      · subst z; exact f2 y e
      · exact g2 x z y e
    · rw [List.mapM_cons]
      exact wpAny_bind (f3 _ _ (wpAny_bind (g3 _ _ (wpAny_pure hq))))
theorem it_type {M : Model} {h : Heap} {v : Value} {ns : List Int} (x : IT h v ns) : Looks M h (typeOf v) (.type "tuple") := by
  obtain ⟨a, its, rfl, ⟨o, ho, hc, n, hd⟩, i⟩ := x
  rw [← hc]; exact (Looks.ld ho).andThen .now
/-- which of the three ways the sort goes -/
inductive TK (k : Value → List Int) (vs : List Value) : SortKind → Prop
  | tups : TK k vs (tuples' true)
  | one : TK k vs oneType'
  | gen : TK k vs general'
theorem it_tups {k : Value → List Int} : ∀ (vs : List Value), (∀ v ∈ vs, IT s.heap v (k v)) → (∀ v ∈ vs, k v ≠ []) → ∃ fs, KatTups s.heap vs fs ∧ fs.length = vs.length ∧ ∀ f ∈ fs, ∃ n t, f = Value.int n t
  | [], _, _ => ⟨[], .nil, rfl, fun f h => (by cases h)⟩
  | v :: vs, h, hn => by
    obtain ⟨fs, g1, g2, g3⟩ := it_tups vs (fun u hu => h u (List.mem_cons_of_mem _ hu)) fun u hu => hn u (List.mem_cons_of_mem _ hu)
    obtain ⟨a, its, rfl, ⟨o, ho, hc, n, hd⟩, i⟩ := h v List.mem_cons_self
    have hne := hn _ List.mem_cons_self
    have e0 : ∃ m t, its[0]? = some (Value.int m t) := by
      have : ∃ m t, its.toList[0]? = some (Value.int m t) := by
        generalize its.toList = l at i
        generalize k (Value.ref a) = ns at i hne
        cases i with
        | nil => exact absurd rfl hne
        | cons m t r => exact ⟨m, t, rfl⟩
      simpa using this
    obtain ⟨m, t, e0⟩ := e0
    exact ⟨.int m t :: fs, .cons ho hc hd e0 g1, by simp [g2], fun f hf => by
      rcases List.mem_cons.mp hf with z | z
      · exact ⟨m, t, z⟩
      · exact g3 f z⟩
theorem it_kind {k : Value → List Int} {vs : List Value} (h2 : 2 ≤ vs.length) (hv : ∀ v ∈ vs, IT s.heap v (k v)) : ∃ κ, TK k vs κ ∧ ∀ (Q : SortKind → Shared → Prop) (E : Value → Shared → Prop), Q κ s → wpAny (model prog w) A (keyKind' vs.toArray) Q E s := by
  by_cases hall : ∀ v ∈ vs, k v ≠ []
  · obtain ⟨fs, h1, h3, h4⟩ := it_tups vs hv hall
    refine ⟨_, .tups, fun Q E hq => kat_kind (T := .type "int") h1 (by omega) (fun f hm => ?_) (by rfl) ?_⟩
    · obtain ⟨x, t, rfl⟩ := h4 f hm
      exact Looks.now
    · have e : (Value.type "int" != Value.type "tuple") = true := by first | decide +kernel | rfl | decide
      rw [e]
      exact hq
  · obtain ⟨fs, g1, g2, g3⟩ := it_firsts (A := A) (M := model prog w) vs hv
    have hna : (fs.toArray.all fun f => f.isSome) = false := by
      rw [Bool.eq_false_iff]
      intro z
      refine hall fun v hm e => ?_
      have : (vs.map fun v => !(k v).isEmpty).all (fun b => b) = true := by rw [← g1]; simpa using z
      rw [List.all_map, List.all_eq_true] at this
      have := this v hm
      simp [e] at this
    by_cases hf : (fs.toArray[0]?.bind id).isSome = true
    · refine ⟨_, .gen, fun Q E hq => ?_⟩
      rw [kat_kind_eq, List.mapM_toArray, map_eq_pure_bind]
      refine wpAny_bind (wpAny_bind (g3 _ _ (wpAny_pure ?_)))
      rw [if_neg (by rw [hna]; decide), if_pos hf]
      exact wpAny_pure hq
    · refine ⟨_, .one, fun Q E hq => ?_⟩
      rw [kat_kind_eq, List.mapM_toArray, map_eq_pure_bind]
      refine wpAny_bind (wpAny_bind (g3 _ _ (wpAny_pure ?_)))
      rw [if_neg (by rw [hna]; decide), if_neg hf]
      rw [oneTypeOnly'_eq, List.mapM_toArray, map_eq_pure_bind]
      refine wpAny_bind (wpAny_bind (wpAny_bind (kas_mapM (r := Value.type "tuple") _ (fun v hm Q' hq => (it_type (hv v hm)).here hq) (wpAny_pure ?_))))
      have hall : ((List.map (fun _ => Value.type "tuple") vs).toArray.all fun x => x == Value.type "tuple") = true := by
        simp only [List.all_toArray, List.all_map, List.all_eq_true]
        intro _ _
        rfl
      have h0 : (List.map (fun _ => Value.type "tuple") vs).toArray[0]? = some (Value.type "tuple") := by
        cases vs with
        | nil => simp at h2
        | cons v vs => simp
      rw [h0]
      simp only [hall, if_true]
      exact wpAny_pure (wpAny_pure hq)
theorem katlex_ints {b fin : Bool} {Q : Bool → Shared → Prop} {X Y : Nat} (hfin : fin = decide (X < Y)) : ∀ {xs ys : List Value} {ns ms : List Int}, IntsAre xs ns → IntsAre ys ms → xs.length + Y = ys.length + X → ∀ i, Q (HT.lexLt ns ms) s → KatLex prog w A b fin Q (xs.zip ys) i s
  | _, _, _, _, .nil, .nil, hl, i, h => by
    refine kat_nil ?_
    simp only [List.length_nil] at hl
    rw [HT.lexLt_nil_nil] at h
    rw [hfin, decide_eq_false (by omega)]; exact h
  | _, _, _, _, .nil, .cons c u hw, hl, i, h => by
    refine kat_nil ?_
    simp only [List.length_nil, List.length_cons] at hl
    rw [HT.lexLt_nil_cons] at h
    rw [hfin, decide_eq_true (by omega)]; exact h
  | _, _, _, _, .cons a t hv, .nil, hl, i, h => by
    refine kat_nil ?_
    simp only [List.length_nil, List.length_cons] at hl
    rw [HT.lexLt_cons_nil] at h
    rw [hfin, decide_eq_false (by omega)]; exact h
  | _, _, _, _, .cons a t hv, .cons c u hw, hl, i, h => by
    rw [List.zip_cons_cons]
    simp only [List.length_cons] at hl
    rw [HT.lexLt_cons] at h
    refine kat_cons (SeqAt.EqAt.int_int a t c u prog w _ _ ?_)
    refine kat_go (fun e1 => ?_) (fun e1 => ?_)
    · have ex : a = c := by simpa using e1
      rw [if_pos ex] at h
      exact kat_yes (katlex_ints hfin hv hw (by omega) (i + 1) h)
    · have ex : ¬ a = c := by simpa using e1
      rw [if_neg ex] at h
      exact kat_no (TS.oneLt_ints _ h)
theorem call_ltT {a b : Addr} {its its2 : Array Value} {n n2 : Nat} {dd dd2 : Option Addr} {sl sl2 : Array (Option Value)} {ns ms : List Int} {Q : Value → Shared → Prop} {E : Value → Shared → Prop} (ho : s.heap.get? a = some { cls := .type "tuple", dict := dd, data := .seq its n, slots := sl })
    (ho2 : s.heap.get? b = some { cls := .type "tuple", dict := dd2, data := .seq its2 n2, slots := sl2 }) (i1 : IntsAre its.toList ns) (i2 : IntsAre its2.toList ms) (h : Q (.bool (HT.lexLt ns ms)) s) : wpAny (model prog w) A (call (.builtin "tuple.__lt__") [.ref a, .ref b]) Q E s := by
  have hT : s.TypeIs (.ref a) "tuple" := ⟨_, ho, rfl⟩
  refine wpAny_call (codeAny_call_builtin PySem.F.slot_tuple_lt.plain PySem.F.entry_tuple_lt (PySem.F.slot_tuple_lt.check _ _ _ _ _ _ _ _ hT (PySem.F.args_tuple_lt_2 _ _) ?_))
  refine wpAny_mono (HT.tuple_lt_ints a b its its2 n n2 dd dd2 sl sl2 ns ms i1 i2 prog w _ (wants Q E) s ⟨ho, ho2, h⟩) (fun fin s' q => ?_) fun _ _ z => z
  cases fin with
  | done f => exact q
  | again c => exact q
theorem it_cmp {k : Value → List Int} {vs : List Value} {κ : SortKind} (hu : A.units < cLine) (t : TK k vs κ) (hv : ∀ v ∈ vs, IT s.heap v (k v)) : SrtO.Cmp prog w A s κ (fun p => p.1 ∈ vs) (SrtO.lt2 fun v u => HT.lexLt (k v) (k u)) := by
  intro p q hp hq
  show wpAny (model prog w) A (keyLt' κ p.1 q.1) (fun r s' => s' = s ∧ r = HT.lexLt (k p.1) (k q.1)) (fun _ _ => False) s
  obtain ⟨a, its, e1, h1, i1⟩ := hv _ hp
  obtain ⟨b, its2, e2, h2, i2⟩ := hv _ hq
  rw [e1, e2] at *
  cases t with
  | tups =>
    obtain ⟨o, ho, hc, n, hd⟩ := h1
    obtain ⟨o', ho', hc', n', hd'⟩ := h2
    refine kat_lt ho hd ho' hd' (katlex_ints (X := its.size) (Y := its2.size) rfl i1 i2 (by simp; omega) 0 ⟨rfl, rfl⟩)
  | gen =>
    refine kat_one _ _ (HT.lt_tupInts h1 h2 i1 i2 hu ?_)
    exact ⟨rfl, rfl⟩
  | one =>
    rw [keyLt'_oneType, oneLt'_eq]
    simp only [if_true]
    refine wpAny_bind (wpAny_cRoomFor hu ?_)
    obtain ⟨⟨cls, dd, data, sl⟩, ho, hc, n, hd⟩ := h1
    obtain ⟨⟨cls2, dd2, data2, sl2⟩, ho2, hc2, n2, hd2⟩ := h2
    simp only at hc hd hc2 hd2
    subst hc hd hc2 hd2
    have hT : s.TypeIs (.ref a) "tuple" := ⟨_, ho, rfl⟩
    refine wpAny_bind (wpAny_callSpecialIfBound?_slot (T := "tuple") hT PySem.F.slot_tuple_lt ?_)
    exact call_ltT ho ho2 i1 i2 (wpAny_truthy_bool ⟨rfl, rfl⟩)
theorem it_sortable {a : Addr} {vs : List Value} {k : Value → List Int} (h2 : 2 ≤ vs.length) (hu : A.units < cLine) (hv : ∀ v ∈ vs, IT s.heap v (k v)) (ha : ∀ o, s.heap.get? a = some o → o.cls ≠ .type "tuple") : SrtO.SortableO prog w A s a vs fun v u => HT.lexLt (k v) (k u) := by
  intro h' keep
  have hv' : ∀ v ∈ vs, IT h' v (k v) := fun v hm => (hv v hm).keeps fun b o e c => keep b o (fun z => by subst z; exact ha o e c) e
  obtain ⟨κ, tk, hk⟩ := it_kind (prog := prog) (w := w) (A := A) (s := { s with heap := h' }) h2 hv'
  exact ⟨κ, fun Q E hq => hk Q E hq, it_cmp (s := { s with heap := h' }) hu tk hv'⟩
end
/-- x before y: by their ints -/
abbrev ltL (k : V → List Int) (x y : V) : Bool := HT.lexLt (k x) (k y)
def rSortL (K : PySem.W.Frag) : List V → Hp → VK → Prop := fun vs H Q => ∃ (a : Addr) (xs : List V) (k : V → List Int), vs = [V.ref a] ∧ SqL K H a xs ∧ (∀ x ∈ xs, ∃ t, x = V.ref t ∧ SqT K H t ((k x).map V.int)) ∧
  ∀ ys p, SrtO.Srtd (ltL k) ys → SrtO.Stb (ltL k) ys xs → H p = none → Q (.ref p) (upd H p (.lst ys))
theorem cr_sortL {X : Cx} (hu : X.A.units + 64 < cLine) : CallR X (.builtin "sorted") (rSortL X.K) := by
  intro pins s σ H vs us Q I r h
  obtain ⟨a, xs, k, rfl, hs, hx, q⟩ := h
  obtain ⟨its, rv, hl, hz⟩ := I.list hs
  obtain ⟨u, rfl, ru⟩ := vals1 r
  obtain rfl : u = Value.ref a := ru
  obtain ⟨e1, e2⟩ := refs_back rv fun x m => by
    obtain ⟨t, e, _⟩ := hx x m
    exact ⟨t, e⟩
  have hit : ∀ v ∈ its, IT s.heap v (k (backV v)) := fun v hv => by
    obtain ⟨t, rfl⟩ := e2 v hv
    have hm : V.ref t ∈ xs := by rw [e1]; exact List.mem_map.mpr ⟨_, hv, rfl⟩
    obtain ⟨t', e, ht⟩ := hx _ hm
    cases e
    obtain ⟨its2, r1, p1, _⟩ := I.tuple ht
    exact ⟨t, _, rfl, p1, intsAre_of r1⟩
  refine SrtO.sorted_ord (NtL.swo_lexL fun u => k (backV u)) hl.isList (by rw [← rv.length]; exact hz) (fun h2 h₁ a' ha kk => ?_) fun out h1 h2 => ?_
  · refine it_sortable (s := { s with heap := h₁ }) h2 ?_ (fun v hv => (hit v hv).keeps fun b o e _ => (kk b o e).2) fun o e => ?_
    · show X.A.units + 1 + 1 < cLine
      omega
    · have e' : some o = some (seqObj "list" its.toArray 0) := e.symm.trans ha
      cases e'
      intro c
      exact absurd (Value.type.inj c) (by decide)
  · have h3 : ∀ u ∈ out, ∃ a, u = Value.ref a := fun u hu => e2 u (h2.perm.mem_iff.mp hu)
    have hb : SrtO.Stb (ltL k) (out.map backV) xs := by
      rw [e1]
      exact SrtO.Stb.map (NtL.swo_lexL k) backV h2
    obtain ⟨ep, he'⟩ := PyProof.Rows.sortedAll_at s.heap its out.toArray
    have hlen : (out.map backV).length ≤ sizeLine := by rw [hb.len]; exact hz
    exact ⟨.ref _, upd H (s.heap.objs.size + 1) (.lst (out.map backV)), I.laid (t' := s.toks) (fun _ _ => PyProof.Rows.sortedAll_old) (Nat.le_succ _) ⟨hlen, out, ep, vals_back h3, by simpa using he'⟩, rfl, q _ _ (SrtO.srtd_map h1) hb (I.hok.fresh (Nat.le_succ _))⟩
/-! ### sorted of a tuple of ints -/
def rSortTI (K : PySem.W.Frag) : List V → Hp → VK → Prop := fun vs H Q => ∃ (a : Addr) (ks : List Int), vs = [V.ref a] ∧ SqT K H a (ks.map V.int) ∧ ks.length < 64 ∧
  ∀ (ys : List Int) (p : Addr), ys.Perm ks → ys.Pairwise (· ≤ ·) → H p = none → Q (.ref p) (upd H p (.lst (ys.map V.int)))
theorem call_sortedTI {X : Cx} : CallR X (.builtin "sorted") (rSortTI X.K) := by
  intro pins s σ H xs us Q I r q
  obtain ⟨a, ks, ex, hs, h64, q⟩ := q
  subst ex
  obtain ⟨u, eu, rx⟩ := vals1 r
  subst eu
  cases rx
  obtain ⟨its, rv, ⟨⟨cls, dd, data, sl⟩, ho, hc, n, hd⟩, hz⟩ := I.tuple hs
  simp only at hc hd
  have hl : its.length = ks.length := by have := rv.length; simp at this; omega
  have hS : IntsAre its ks := intsAre_of rv
  refine Calls.call_function_entry PyProof.Rows.kind_sorted PyProof.Rows.plain_sorted PyProof.Rows.entry_sorted (PyProof.Rows.args_sorted1 _) ?_
  unfold Builtin.«sorted»
  refine wpAny_bind (m := checkCount "sorted" 1 1 _) (wpAny_pure ?_)
  refine wpAny_bind (PySem.wpAny_collect_seq (A := X.A.in1) a (.inr rfl) ho hc hd (fun h' hk => ?_) (by simp; rw [hl, sizeLine_eq]; omega))
  have hal : its.toArray.toList.length = ks.length := by simpa using hl
  have hS : IntsAre its.toArray.toList ks := by simpa using hS
  generalize its.toArray = acc at hal hS ⊢
  have I1 : Inv X pins σ H { s with heap := h' } := I.kept (t' := s.toks) hk
  refine wpAny_bind (wpAny_newList ?_ (by rw [hal, sizeLine_eq]; omega))
  have hoL : (h'.push (seqObj "list" acc.toList.toArray 0)).get? h'.objs.size = some (seqObj "list" acc.toList.toArray 0) := Heap.get?_push_size _ rfl
  show wpAny _ _ _ _ _ { s with heap := h'.push (seqObj "list" acc.toList.toArray 0) }
  refine wpAny_bind (wpAny_holding (wpAny_call_entry PyProof.Rows.slot_list_sort ⟨_, hoL, rfl⟩ PyProof.Rows.entry_list_sort
    (PyProof.Rows.list_sort_tree (s := { s with heap := h'.push (seqObj "list" acc.toList.toArray 0) }) hoL hS (by rw [hal]; exact h64) fun out ys g1 g2 g3 => ⟨_, rfl, ?_⟩) (PyProof.Rows.args_list_sort _)))
  obtain ⟨e', he'⟩ := PyProof.Rows.sortedHeap_at (vs := acc.toList) (out := out) hoL
  have hlen : (ys.map V.int).length ≤ sizeLine := by
    rw [List.length_map, g2.length_eq]
    exact Nat.le_trans (Nat.le_of_lt h64) (by decide)
  refine wpAny_pure ⟨_, rfl, .ref h'.objs.size, upd H h'.objs.size (.lst (ys.map V.int)), I1.laid (t' := s.toks) (fun b u e => ?_) (Nat.le_refl _)
    (show ObjOk X.prog X.w _ _ _ (.lst (ys.map V.int)) from ⟨hlen, out.toList, e', vals_of_ints g1, by rw [Array.toArray_toList]; exact he'⟩), rfl, q ys _ g2 g3 (I1.hok.fresh (Nat.le_refl _))⟩
  have hb : b < h'.objs.size := Heap.lt_size e
  rw [PyProof.Rows.sortedHeap_old (Nat.ne_of_lt hb) (by rw [size_push']; exact Nat.lt_succ_of_lt hb)]
  exact Heap.get?_push_of_some _ e
/-! ### max, min of a tuple of ints -/
def rMaxT (K : PySem.W.Frag) : List V → Hp → VK → Prop := fun vs H Q => ∃ (a : Addr) (ns : List Int), vs = [V.ref a] ∧ SqT K H a (ns.map V.int) ∧ 0 < ns.length ∧ ∀ m, m ∈ ns → (∀ y, y ∈ ns → y ≤ m) → Q (.int m) H
def rMinT (K : PySem.W.Frag) : List V → Hp → VK → Prop := fun vs H Q => ∃ (a : Addr) (ns : List Int), vs = [V.ref a] ∧ SqT K H a (ns.map V.int) ∧ 0 < ns.length ∧ ∀ m, m ∈ ns → (∀ y, y ∈ ns → m ≤ y) → Q (.int m) H
theorem ints_reads {h : Heap} : ∀ {us : List Value} {ns : List Int}, IntsAre us ns → ReadsAll h us (ns.map PyData.int) []
  | _, _, .nil => .nil
  | _, _, .cons n t r => by
    have := ReadsAll.cons (Reads.int (h := h) n t) (ints_reads (h := h) r)
    simpa using this
theorem depth_ints : ∀ ns : List Int, PyData.depthAll (ns.map PyData.int) ≤ 1
  | [] => by simp [PyData.depthAll]
  | n :: ns => by
    have := depth_ints ns
    simp only [List.map_cons, PyData.depthAll, PyData.depth]
    omega
theorem alike_ints (ns : List Int) : AlikeAll (ns.map PyData.int) := by
  refine ⟨fun x hx y hy => ?_, fun x hx => ?_⟩
  · obtain ⟨a, _, rfl⟩ := List.mem_map.mp hx
    obtain ⟨b, _, rfl⟩ := List.mem_map.mp hy
    rfl
  · obtain ⟨a, _, rfl⟩ := List.mem_map.mp hx
    intro z; cases z
theorem fold_max : ∀ (ns : List Int) (n : Int), (ns.foldl max n) ∈ n :: ns ∧ ∀ y ∈ n :: ns, y ≤ ns.foldl max n
  | [], n => by simp
  | k :: ns, n => by
    obtain ⟨h1, h2⟩ := fold_max ns (max n k)
    rw [List.foldl_cons]
    refine ⟨?_, fun y hy => ?_⟩
    · rcases List.mem_cons.mp h1 with e | e
      · rw [e]
        rcases Int.le_total n k with q | q
        · rw [Int.max_eq_right q]; simp
        · rw [Int.max_eq_left q]; simp
      · exact List.mem_cons_of_mem _ (List.mem_cons_of_mem _ e)
    · have h3 := h2 (max n k) List.mem_cons_self
      rcases List.mem_cons.mp hy with e | e
      · subst e; have := Int.le_max_left y k; omega
      · rcases List.mem_cons.mp e with e | e
        · subst e; have := Int.le_max_right n y; omega
        · exact h2 y (List.mem_cons_of_mem _ e)
theorem fold_min : ∀ (ns : List Int) (n : Int), (ns.foldl min n) ∈ n :: ns ∧ ∀ y ∈ n :: ns, ns.foldl min n ≤ y
  | [], n => by simp
  | k :: ns, n => by
    obtain ⟨h1, h2⟩ := fold_min ns (min n k)
    rw [List.foldl_cons]
    refine ⟨?_, fun y hy => ?_⟩
    · rcases List.mem_cons.mp h1 with e | e
      · rw [e]
        rcases Int.le_total n k with q | q
        · rw [Int.min_eq_left q]; simp
        · rw [Int.min_eq_right q]; simp
      · exact List.mem_cons_of_mem _ (List.mem_cons_of_mem _ e)
    · have h3 := h2 (min n k) List.mem_cons_self
      rcases List.mem_cons.mp hy with e | e
      · subst e; have := Int.min_le_left y k; omega
      · rcases List.mem_cons.mp e with e | e
        · subst e; have := Int.min_le_right n y; omega
        · exact h2 y (List.mem_cons_of_mem _ e)
section
variable {X : Cx}
theorem cr_maxT (hc : X.calm = true) (hu : X.A.units + 64 < cLine) : CallR X (.builtin "max") (rMaxT X.K) := by
  intro pins s σ H vs us Q I r h
  obtain ⟨a, ns, rfl, hs, hne, q⟩ := h
  obtain ⟨its, rv, hl, hz⟩ := I.tuple hs
  obtain ⟨u, rfl, ru⟩ := vals1 r
  obtain rfl : u = Value.ref a := ru
  have hi := intsAre_of rv
  cases ns with
  | nil => simp at hne
  | cons n ns =>
    have hr := ints_reads (h := s.heap) hi
    rw [List.map_cons] at hr
    have hd := depth_ints (n :: ns)
    rw [List.map_cons] at hd
    refine max_tuple_data (I.ok.hd hc) hl hr (by have := alike_ints (n :: ns); rw [List.map_cons] at this; exact this) (by omega) fun i v h' tk bs hv rd kk => ?_
    rw [maxD_ints] at rd
    cases rd
    obtain ⟨h1, h2⟩ := fold_max ns n
    exact ⟨.int _, H, I.kept kk, ⟨_, rfl⟩, q _ h1 h2⟩
theorem cr_minT (hc : X.calm = true) (hu : X.A.units + 64 < cLine) : CallR X (.builtin "min") (rMinT X.K) := by
  intro pins s σ H vs us Q I r h
  obtain ⟨a, ns, rfl, hs, hne, q⟩ := h
  obtain ⟨its, rv, hl, hz⟩ := I.tuple hs
  obtain ⟨u, rfl, ru⟩ := vals1 r
  obtain rfl : u = Value.ref a := ru
  have hi := intsAre_of rv
  cases ns with
  | nil => simp at hne
  | cons n ns =>
    have hr := ints_reads (h := s.heap) hi
    rw [List.map_cons] at hr
    have hd := depth_ints (n :: ns)
    rw [List.map_cons] at hd
    refine min_tuple_data (I.ok.hd hc) hl hr (by have := alike_ints (n :: ns); rw [List.map_cons] at this; exact this) (by omega) fun i v h' tk bs hv rd kk => ?_
    rw [minD_ints] at rd
    cases rd
    obtain ⟨h1, h2⟩ := fold_min ns n
    exact ⟨.int _, H, I.kept kk, ⟨_, rfl⟩, q _ h1 h2⟩
end
end EV

namespace EV
open PySem PySem.Spec PyProof.Rows L2 RZ RT

/-! ### built-ins by values -/
def lenO (A : AH) : Val → Option Nat
  | .tup xs => some xs.length
  | .wt xs => some xs.length
  | .str z => if z.length ≤ sizeLine then some z.length else none
  | .ref n => match A[n]? with
    | some (.lst xs) => some xs.length
    | some (.dk kvs) => some kvs.length
    | _ => none
  | _ => none
def oLen : OpN := fun vs A Q => ∃ v n, vs = [v] ∧ lenO A v = some n ∧ Q (.int n) A
def seqO (A : AH) : Val → Option (List Val)
  | .tup xs => some xs
  | .wt xs => some xs
  | .ref n => lstAt A n
  | .wl xs => some xs
  | _ => none
def oList : OpN := fun vs A Q => ∃ v xs, vs = [v] ∧ seqO A v = some xs ∧ Q (.ref A.length) (A ++ [.lst xs])
def oTuple : OpN := fun vs A Q => match vs with
  | [.tup xs] => Q (.tup xs) A
  | [.ref n] => ∃ xs, lstAt A n = some xs ∧ Q (.tup xs) A
  | _ => False
def oIntC1 : OpN := fun vs A Q => match vs with
  | [.int i] => Q (.int i) A
  | [.bl b] => Q (.int (if b then 1 else 0)) A
  | _ => False
def intsOf : List Val → Option (List Int)
  | [] => some []
  | .int i :: vs => (intsOf vs).map fun l => i :: l
  | _ => none
theorem intsOf_map (l : List Int) : intsOf (l.map Val.int) = some l := by
  induction l with
  | nil => rfl
  | cons a l ih => simp only [List.map_cons, intsOf, ih, Option.map_some]
theorem intsOf_eq : ∀ {vs : List Val} {l : List Int}, intsOf vs = some l → vs = l.map Val.int
  | [], l, h => by simp only [intsOf, Option.some.injEq] at h; subst h; rfl
  | .int i :: vs, l, h => by
    simp only [intsOf, Option.map_eq_some_iff] at h
    obtain ⟨m, hm, rfl⟩ := h
    rw [intsOf_eq hm]; rfl
  | .non :: _, _, h => by simp [intsOf] at h
  | .bl _ :: _, _, h => by simp [intsOf] at h
  | .str _ :: _, _, h => by simp [intsOf] at h
  | .tup _ :: _, _, h => by simp [intsOf] at h
  | .wt _ :: _, _, h => by simp [intsOf] at h
  | .ref _ :: _, _, h => by simp [intsOf] at h
  | .ty _ :: _, _, h => by simp [intsOf] at h
  | .wl _ :: _, _, h => by simp [intsOf] at h
def lstInts (A : AH) (v : Val) : Option (List Int) := match v with
  | .ref n => (lstAt A n).bind intsOf
  | _ => none
def oSum : OpN := fun vs A Q => ∃ v l, vs = [v] ∧ lstInts A v = some l ∧ Q (.int l.sum) A
/-- max, min: a number of the list that bounds it -/
def oMax : OpN := fun vs A Q => (∃ v l, vs = [v] ∧ lstInts A v = some l ∧ 0 < l.length ∧ ∀ m, m ∈ l → (∀ y, y ∈ l → y ≤ m) → Q (.int m) A) ∨ (∃ i j, vs = [.int i, .int j] ∧ Q (.int (if j > i then j else i)) A) ∨ (∃ us l, vs = [.tup us] ∧ intsOf us = some l ∧ 0 < l.length ∧ ∀ m, m ∈ l → (∀ y, y ∈ l → y ≤ m) → Q (.int m) A)
def oMin : OpN := fun vs A Q => (∃ v l, vs = [v] ∧ lstInts A v = some l ∧ 0 < l.length ∧ ∀ m, m ∈ l → (∀ y, y ∈ l → m ≤ y) → Q (.int m) A) ∨ (∃ i j, vs = [.int i, .int j] ∧ Q (.int (if j < i then j else i)) A) ∨ (∃ us l, vs = [.tup us] ∧ intsOf us = some l ∧ 0 < l.length ∧ ∀ m, m ∈ l → (∀ y, y ∈ l → m ≤ y) → Q (.int m) A)
def tupI (l : List Int) : Val := .tup (l.map Val.int)
def tupsOf : List Val → Option (List (List Int))
  | [] => some []
  | .tup xs :: vs => (intsOf xs).bind fun l => (tupsOf vs).map fun ls => l :: ls
  | _ => none
theorem tupsOf_map (ls : List (List Int)) : tupsOf (ls.map tupI) = some ls := by
  induction ls with
  | nil => rfl
  | cons l ls ih => simp only [List.map_cons, tupI, tupsOf, intsOf_map, Option.bind_some, ih, Option.map_some]
theorem tupsOf_eq : ∀ {vs : List Val} {ls : List (List Int)}, tupsOf vs = some ls → vs = ls.map tupI
  | [], ls, h => by simp only [tupsOf, Option.some.injEq] at h; subst h; rfl
  | .tup xs :: vs, ls, h => by
    simp only [tupsOf, Option.bind_eq_some_iff, Option.map_eq_some_iff] at h
    obtain ⟨l, hl, ms, hm, rfl⟩ := h
    rw [intsOf_eq hl, tupsOf_eq hm]; rfl
  | .non :: vs, _, h => by simp [tupsOf] at h
  | .bl _ :: vs, _, h => by simp [tupsOf] at h
  | .int _ :: vs, _, h => by simp [tupsOf] at h
  | .str _ :: vs, _, h => by simp [tupsOf] at h
  | .wt _ :: vs, _, h => by simp [tupsOf] at h
  | .ref _ :: vs, _, h => by simp [tupsOf] at h
  | .ty _ :: vs, _, h => by simp [tupsOf] at h
  | .wl _ :: vs, _, h => by simp [tupsOf] at h
def lstTups (A : AH) (v : Val) : Option (List (List Int)) := match v with
  | .ref n => (lstAt A n).bind tupsOf
  | _ => none
/-- the int keys of a dict -/
def keyInts (A : AH) (v : Val) : Option (List Int) := match v with
  | .ref n => match A[n]? with
    | some (.dk kvs) => kvs.mapM fun kv => match kv.1 with | .inl i => some i | .inr _ => none
    | _ => none
  | _ => none
def boolsOf : List Val → Option (List Bool)
  | [] => some []
  | .bl i :: vs => (boolsOf vs).map fun l => i :: l
  | _ => none
theorem boolsOf_map (l : List Bool) : boolsOf (l.map Val.bl) = some l := by
  induction l with
  | nil => rfl
  | cons a l ih => simp only [List.map_cons, boolsOf, ih, Option.map_some]
theorem boolsOf_eq : ∀ {vs : List Val} {l : List Bool}, boolsOf vs = some l → vs = l.map Val.bl
  | [], l, h => by simp only [boolsOf, Option.some.injEq] at h; subst h; rfl
  | .bl i :: vs, l, h => by
    simp only [boolsOf, Option.map_eq_some_iff] at h
    obtain ⟨m, hm, rfl⟩ := h
    rw [boolsOf_eq hm]; rfl
  | .non :: vs, _, h => by simp [boolsOf] at h
  | .int _ :: vs, _, h => by simp [boolsOf] at h
  | .str _ :: vs, _, h => by simp [boolsOf] at h
  | .tup _ :: vs, _, h => by simp [boolsOf] at h
  | .wt _ :: vs, _, h => by simp [boolsOf] at h
  | .ref _ :: vs, _, h => by simp [boolsOf] at h
  | .ty _ :: vs, _, h => by simp [boolsOf] at h
  | .wl _ :: vs, _, h => by simp [boolsOf] at h
def oAll : OpN := fun vs A Q => ∃ n bs, vs = [.ref n] ∧ (lstAt A n).bind boolsOf = some bs ∧ Q (.bl (bs.all id)) A
def oAny : OpN := fun vs A Q => ∃ n bs, vs = [.ref n] ∧ (lstAt A n).bind boolsOf = some bs ∧ Q (.bl (bs.any id)) A
def oStr : OpN := fun vs A Q => match vs with
  | [.int i] => i.natAbs.log2 < 1920 ∧ Q (.str (toString i)) A
  | _ => False
/-- sorted(x): a list of ints, of tuples of ints, a dict's int keys -/
def oSorted : OpN := fun vs A Q => ∃ v, vs = [v] ∧ ((∃ l, lstInts A v = some l ∧ ∀ l' : List Int, l'.Perm l → l'.Pairwise (· ≤ ·) → Q (.ref A.length) (A ++ [.lst (l'.map Val.int)])) ∨
  (∃ ls, lstTups A v = some ls ∧ ∀ ls' : List (List Int), ls'.Perm ls → ls'.Pairwise (fun x y => HT.lexLt y x = false) → Q (.ref A.length) (A ++ [.lst (ls'.map tupI)])) ∨
  (∃ l, keyInts A v = some l ∧ l.length < 64 ∧ ∀ l' : List Int, l'.Perm l → l'.Pairwise (· ≤ ·) → Q (.ref A.length) (A ++ [.lst (l'.map Val.int)])) ∨
  (∃ us l, v = .tup us ∧ intsOf us = some l ∧ l.length < 64 ∧ ∀ l' : List Int, l'.Perm l → l'.Pairwise (· ≤ ·) → Q (.ref A.length) (A ++ [.lst (l'.map Val.int)])))
/-- isinstance(x, T) of a built-in type -/
def tyO (A : AH) : Val → Option String
  | .non => some "NoneType"
  | .bl _ => some "bool"
  | .int _ => some "int"
  | .str _ => some "str"
  | .tup _ => some "tuple"
  | .ref n => match A[n]? with
    | some (.lst _) => some "list"
    | some (.dk _) => some "dict"
    | some (.dt _) => some "dict"
    | _ => none
  | _ => none
def isiB (a b : String) : Option Bool := match b with
  | "tuple" => match a with | "tuple" => some true | "NoneType" => some false | "bool" => some false | "int" => some false | "str" => some false | "list" => some false | "dict" => some false | _ => none
  | "int" => match a with | "tuple" => some false | "NoneType" => some false | "bool" => some true | "int" => some true | "str" => some false | "list" => some false | "dict" => some false | _ => none
  | "bool" => match a with | "tuple" => some false | "NoneType" => some false | "bool" => some true | "int" => some false | "str" => some false | "list" => some false | "dict" => some false | _ => none
  | "str" => match a with | "tuple" => some false | "NoneType" => some false | "bool" => some false | "int" => some false | "str" => some true | "list" => some false | "dict" => some false | _ => none
  | "list" => match a with | "tuple" => some false | "NoneType" => some false | "bool" => some false | "int" => some false | "str" => some false | "list" => some true | "dict" => some false | _ => none
  | _ => none
theorem isiB_ok {a b : String} {k : Bool} (h : isiB a b = some k) : kitB a b = some k := by
  unfold isiB at h
  split at h <;> first | (split at h <;> first | (cases h; done) | (simp only [Option.some.injEq] at h; subst h; decide +kernel)) | cases h
def oIsi : OpN := fun vs A Q => ∃ v T a k, vs = [v, .ty T] ∧ tyO A v = some a ∧ isiB a T = some k ∧ Q (.bl k) A

section
variable {G : Gc}
theorem seq_sq {r : List Addr} {A : AH} {H : Hp} {v : Val} {x : V} {vs : List Val} (R : HRel G.K r A H) (p : Rep G.K r H v x) (h : seqO A v = some vs) : ∃ a ys, x = .ref a ∧ (SqL G.K H a ys ∨ SqT G.K H a ys) ∧ Reps G.K r H vs ys := by
  cases v with
  | tup xs =>
    simp only [seqO, Option.some.injEq] at h; subst h
    obtain ⟨a, ys, rfl, s, q⟩ := p.tupS (.inl rfl)
    exact ⟨a, ys, rfl, .inr s, q⟩
  | wt xs =>
    simp only [seqO, Option.some.injEq] at h; subst h
    obtain ⟨a, ys, rfl, s, q⟩ := p.tupS (.inr rfl)
    exact ⟨a, ys, rfl, .inr s, q⟩
  | ref n =>
    obtain ⟨a, ea, rfl⟩ := rep_ref p
    obtain ⟨ys, s, q⟩ := R.list ea h
    exact ⟨a, ys, rfl, .inl s, q⟩
  | wl xs =>
    simp only [seqO, Option.some.injEq] at h; subst h
    simp only [Rep] at p
    obtain ⟨a, ys, rfl, s, q⟩ := p
    refine ⟨a, ys, rfl, .inl ?_, q⟩
    rcases s with ⟨o, s⟩ | s
    · exact .inl (.inr ⟨o, s⟩)
    · exact s H
  | _ => simp [seqO] at h
def rLenB (K : PySem.W.Frag) : List V → Hp → VK → Prop := fun xs H Q => (∃ x n, xs = [x] ∧ LenV K x H n ∧ Q (.int n) H) ∨ (∃ a kvs, xs = [V.ref a] ∧ H a = some (.dK kvs) ∧ Q (.int kvs.length) H)
theorem lenS : CbS G oLen (rLenB G.K) := by
  refine ⟨fun x A Q Q' h ⟨v, n, e, l, q⟩ => ⟨v, n, e, l, h _ _ q⟩, fun r A H vs xs Q R p ⟨v, n, e, l, q⟩ => ?_⟩
  subst e
  obtain ⟨x, rfl, p⟩ := reps1 p
  cases v with
  | tup us =>
    simp only [lenO, Option.some.injEq] at l; subst l
    obtain ⟨a, ys, rfl, s, q1⟩ := Rep.tupS ‹Rep G.K r H (.tup us) x› (.inl rfl)
    exact .inl ⟨_, _, rfl, .inr ⟨ys, s, q1.length⟩, kv_int R q⟩
  | wt us =>
    simp only [lenO, Option.some.injEq] at l; subst l
    obtain ⟨a, ys, rfl, s, q1⟩ := Rep.tupS ‹Rep G.K r H (.wt us) x› (.inr rfl)
    exact .inl ⟨_, _, rfl, .inr ⟨ys, s, q1.length⟩, kv_int R q⟩
  | str z =>
    simp only [lenO] at l
    split at l
    · simp only [Option.some.injEq] at l; subst l
      rw [rep_str ‹Rep G.K r H (.str z) x›]
      exact .inl ⟨_, _, rfl, ⟨by assumption, rfl⟩, kv_int R q⟩
    · cases l
  | ref m =>
    obtain ⟨a, ea, rfl⟩ := rep_ref ‹Rep G.K r H (.ref m) x›
    simp only [lenO] at l
    split at l
    · rename_i us e2
      simp only [Option.some.injEq] at l; subst l
      obtain ⟨ys, ey, q1⟩ := R.ob m a _ ea e2
      exact .inl ⟨_, _, rfl, .inl ⟨ys, SqL.of ey, q1.length⟩, kv_int R q⟩
    · rename_i us e2
      simp only [Option.some.injEq] at l; subst l
      obtain ⟨ys, ey, q1⟩ := R.ob m a _ ea e2
      refine .inr ⟨_, _, rfl, ey, ?_⟩
      rw [← q1.len]
      exact kv_int R q
    · cases l
  | _ => simp [lenO] at l
theorem listS (K : PySem.W.Frag) (hK : K = G.K) : CbS G oList (fun xs H Q => ∃ p ys, xs = [.ref p] ∧ (SqL K H p ys ∨ SqT K H p ys) ∧ ∀ l, H l = none → Q (.ref l) (upd H l (.lst ys))) := by
  subst hK
  refine ⟨fun x A Q Q' h ⟨v, n, e, l, q⟩ => ⟨v, n, e, l, h _ _ q⟩, fun r A H vs xs Q R p ⟨v, us, e, l, q⟩ => ?_⟩
  subst e
  obtain ⟨x, rfl, p1⟩ := reps1 p
  obtain ⟨a, ys, rfl, s, q1⟩ := seq_sq R p1 l
  exact ⟨a, ys, rfl, s, kv_lst R q1 q⟩
theorem tupleS (K : PySem.W.Frag) (hK : K = G.K) : CbS G oTuple (fun xs H Q => ∃ p ys, xs = [.ref p] ∧ ((SqL K H p ys ∧ ∀ l, H l = none → Q (.ref l) (upd H l (.tup ys))) ∨ (SqT K H p ys ∧ Q (.ref p) H))) := by
  subst hK
  refine ⟨fun x A Q Q' h q => ?_, fun r A H vs xs Q R p q => ?_⟩
  · unfold oTuple at q ⊢
    split at q
    · exact h _ _ q
    · obtain ⟨xs, e, q⟩ := q; exact ⟨xs, e, h _ _ q⟩
    · exact q
  · unfold oTuple at q
    split at q
    · obtain ⟨x, rfl, p1⟩ := reps1 p
      obtain ⟨a, ys, rfl, s, q1⟩ := rep_tup p1
      exact ⟨a, ys, rfl, .inr ⟨SqT.of s, kv_here R p1 q⟩⟩
    · obtain ⟨x, rfl, p1⟩ := reps1 p
      obtain ⟨a, ea, rfl⟩ := rep_ref p1
      obtain ⟨us, e, q⟩ := q
      obtain ⟨ys, s, q1⟩ := R.list ea e
      exact ⟨a, ys, rfl, .inl ⟨s, kv_tup R q1 q⟩⟩
    · exact q.elim
theorem intcS : CbS G oIntC1 (fun xs H Q => (∃ i, xs = [.int i] ∧ Q (.int i) H) ∨ ∃ k, xs = [.bl k] ∧ Q (.int (if k then 1 else 0)) H) := by
  refine ⟨fun x A Q Q' h q => ?_, fun r A H vs xs Q R p q => ?_⟩
  · unfold oIntC1 at q ⊢
    split at q
    · exact h _ _ q
    · exact h _ _ q
    · exact q
  · unfold oIntC1 at q
    split at q
    · obtain ⟨x, rfl, p1⟩ := reps1 p
      rw [rep_int p1]
      exact .inl ⟨_, rfl, kv_int R q⟩
    · obtain ⟨x, rfl, p1⟩ := reps1 p
      rw [rep_bl p1]
      exact .inr ⟨_, rfl, kv_int R q⟩
    · exact q.elim
theorem reps_ints {K : PySem.W.Frag} {r : List Addr} {H : Hp} : ∀ {l : List Int} {xs : List V}, Reps K r H (l.map Val.int) xs → xs = l.map V.int
  | [], _, p => by rw [List.map_nil, Reps.nil_iff] at p; subst p; rfl
  | i :: l, _, p => by
    rw [List.map_cons] at p
    obtain ⟨y, ys, rfl, p1, p2⟩ := Reps.cons_iff.mp p
    simp only [Rep] at p1
    rw [p1, reps_ints p2]; rfl
theorem ints_reps {K : PySem.W.Frag} {r : List Addr} {H : Hp} : ∀ (l : List Int), Reps K r H (l.map Val.int) (l.map V.int)
  | [] => by simp [Reps]
  | i :: l => Reps.cons_iff.mpr ⟨_, _, rfl, by simp only [Rep], ints_reps l⟩
theorem lstInts_sq {r : List Addr} {A : AH} {H : Hp} {v : Val} {x : V} {l : List Int} (R : HRel G.K r A H) (p : Rep G.K r H v x) (h : lstInts A v = some l) : ∃ a, x = .ref a ∧ SqL G.K H a (l.map V.int) := by
  cases v with
  | ref n =>
    obtain ⟨a, ea, rfl⟩ := rep_ref p
    simp only [lstInts, Option.bind_eq_some_iff] at h
    obtain ⟨us, e, h⟩ := h
    obtain ⟨ys, s, q⟩ := R.list ea e
    rw [intsOf_eq h] at q
    rw [reps_ints q] at s
    exact ⟨a, rfl, s⟩
  | _ => simp [lstInts] at h
theorem sumS : CbS G oSum (rSum G.K) := by
  refine ⟨fun x A Q Q' h ⟨v, n, e, l, q⟩ => ⟨v, n, e, l, h _ _ q⟩, fun r A H vs xs Q R p ⟨v, us, e, l, q⟩ => ?_⟩
  subst e
  obtain ⟨x, rfl, p1⟩ := reps1 p
  obtain ⟨a, rfl, s⟩ := lstInts_sq R p1 l
  exact ⟨a, us, rfl, s, kv_int R q⟩
theorem maxS : CbS G oMax (fun xs H Q => rMax G.K xs H Q ∨ (∃ i j, xs = [.int i, .int j] ∧ Q (.int (if j > i then j else i)) H) ∨ rMaxT G.K xs H Q) := by
  refine ⟨fun x A Q Q' h q => ?_, fun r A H vs xs Q R p q => ?_⟩
  · rcases q with ⟨v, l, e, hl, h0, q⟩ | ⟨i, j, e, q⟩ | ⟨us, l, e, hl, h0, q⟩
    · exact .inl ⟨v, l, e, hl, h0, fun m h1 h2 => h _ _ (q m h1 h2)⟩
    · exact .inr (.inl ⟨i, j, e, h _ _ q⟩)
    · exact .inr (.inr ⟨us, l, e, hl, h0, fun m h1 h2 => h _ _ (q m h1 h2)⟩)
  · rcases q with ⟨v, l, rfl, hl, h0, q⟩ | ⟨i, j, rfl, q⟩ | ⟨us, l, rfl, hl, h0, q⟩
    · obtain ⟨x, rfl, p1⟩ := reps1 p
      obtain ⟨a, rfl, s⟩ := lstInts_sq R p1 hl
      exact .inl ⟨a, l, rfl, s, h0, fun m h1 h2 => kv_int R (q m h1 h2)⟩
    · obtain ⟨x, y, rfl, p1, p2⟩ := reps2 p
      rw [rep_int p1, rep_int p2]
      exact .inr (.inl ⟨i, j, rfl, kv_int R q⟩)
    · obtain ⟨x, rfl, p1⟩ := reps1 p
      obtain ⟨a, ys, rfl, e, q1⟩ := rep_tup p1
      rw [intsOf_eq hl] at q1
      rw [reps_ints q1] at e
      exact .inr (.inr ⟨a, l, rfl, SqT.of e, h0, fun m h1 h2 => kv_int R (q m h1 h2)⟩)
theorem minS : CbS G oMin (fun xs H Q => rMin G.K xs H Q ∨ (∃ i j, xs = [.int i, .int j] ∧ Q (.int (if j < i then j else i)) H) ∨ rMinT G.K xs H Q) := by
  refine ⟨fun x A Q Q' h q => ?_, fun r A H vs xs Q R p q => ?_⟩
  · rcases q with ⟨v, l, e, hl, h0, q⟩ | ⟨i, j, e, q⟩ | ⟨us, l, e, hl, h0, q⟩
    · exact .inl ⟨v, l, e, hl, h0, fun m h1 h2 => h _ _ (q m h1 h2)⟩
    · exact .inr (.inl ⟨i, j, e, h _ _ q⟩)
    · exact .inr (.inr ⟨us, l, e, hl, h0, fun m h1 h2 => h _ _ (q m h1 h2)⟩)
  · rcases q with ⟨v, l, rfl, hl, h0, q⟩ | ⟨i, j, rfl, q⟩ | ⟨us, l, rfl, hl, h0, q⟩
    · obtain ⟨x, rfl, p1⟩ := reps1 p
      obtain ⟨a, rfl, s⟩ := lstInts_sq R p1 hl
      exact .inl ⟨a, l, rfl, s, h0, fun m h1 h2 => kv_int R (q m h1 h2)⟩
    · obtain ⟨x, y, rfl, p1, p2⟩ := reps2 p
      rw [rep_int p1, rep_int p2]
      exact .inr (.inl ⟨i, j, rfl, kv_int R q⟩)
    · obtain ⟨x, rfl, p1⟩ := reps1 p
      obtain ⟨a, ys, rfl, e, q1⟩ := rep_tup p1
      rw [intsOf_eq hl] at q1
      rw [reps_ints q1] at e
      exact .inr (.inr ⟨a, l, rfl, SqT.of e, h0, fun m h1 h2 => kv_int R (q m h1 h2)⟩)
theorem reps_bools {K : PySem.W.Frag} {r : List Addr} {H : Hp} : ∀ {l : List Bool} {xs : List V}, Reps K r H (l.map Val.bl) xs → xs = l.map V.bl
  | [], _, p => by rw [List.map_nil, Reps.nil_iff] at p; subst p; rfl
  | i :: l, _, p => by
    rw [List.map_cons] at p
    obtain ⟨y, ys, rfl, p1, p2⟩ := Reps.cons_iff.mp p
    simp only [Rep] at p1
    rw [p1, reps_bools p2]; rfl
theorem bools_sq {r : List Addr} {A : AH} {H : Hp} {n : Nat} {x : V} {l : List Bool} (R : HRel G.K r A H) (p : Rep G.K r H (.ref n) x) (h : (lstAt A n).bind boolsOf = some l) : ∃ a, x = .ref a ∧ SqL G.K H a (l.map V.bl) := by
  obtain ⟨a, ea, rfl⟩ := rep_ref p
  simp only [Option.bind_eq_some_iff] at h
  obtain ⟨us, e, h⟩ := h
  obtain ⟨ys, s, q⟩ := R.list ea e
  rw [boolsOf_eq h] at q
  rw [reps_bools q] at s
  exact ⟨a, rfl, s⟩
theorem allS : CbS G oAll (rAll G.K) := by
  refine ⟨fun x A Q Q' h ⟨n, bs, e, e2, q⟩ => ⟨n, bs, e, e2, h _ _ q⟩, fun r A H vs xs Q R p ⟨n, bs, e, e2, q⟩ => ?_⟩
  subst e
  obtain ⟨x, rfl, p1⟩ := reps1 p
  obtain ⟨a, rfl, s⟩ := bools_sq R p1 e2
  exact ⟨a, bs, rfl, s, kv_bl R q⟩
theorem anyS : CbS G oAny (rAny G.K) := by
  refine ⟨fun x A Q Q' h ⟨n, bs, e, e2, q⟩ => ⟨n, bs, e, e2, h _ _ q⟩, fun r A H vs xs Q R p ⟨n, bs, e, e2, q⟩ => ?_⟩
  subst e
  obtain ⟨x, rfl, p1⟩ := reps1 p
  obtain ⟨a, rfl, s⟩ := bools_sq R p1 e2
  exact ⟨a, bs, rfl, s, kv_bl R q⟩
theorem strS : CbS G oStr (fun xs H Q => ∃ i, xs = [.int i] ∧ i.natAbs.log2 < 1920 ∧ Q (.str (toString i)) H) := by
  refine ⟨fun x A Q Q' h q => ?_, fun r A H vs xs Q R p q => ?_⟩
  · unfold oStr at q ⊢
    split at q
    · exact ⟨q.1, h _ _ q.2⟩
    · exact q
  · unfold oStr at q
    split at q
    · obtain ⟨x, rfl, p1⟩ := reps1 p
      rw [rep_int p1]
      exact ⟨_, rfl, q.1, kv_str R q.2⟩
    · exact q.elim
/-- the ints of a tracked tuple -/
def intsV : List V → List Int
  | [] => []
  | .int i :: xs => i :: intsV xs
  | _ :: xs => intsV xs
theorem intsV_map (l : List Int) : intsV (l.map V.int) = l := by
  induction l with
  | nil => rfl
  | cons i l ih => simp only [List.map_cons, intsV, ih]
def kV (H : Hp) : V → List Int
  | .ref t => match H t with
    | some (.tup ys) => intsV ys
    | _ => []
  | _ => []
theorem reps_tups {K : PySem.W.Frag} {r : List Addr} {H : Hp} : ∀ {ls : List (List Int)} {xs : List V}, Reps K r H (ls.map tupI) xs → (∀ x ∈ xs, ∃ t, x = V.ref t ∧ H t = some (.tup ((kV H x).map V.int))) ∧ xs.map (kV H) = ls
  | [], _, p => by rw [List.map_nil, Reps.nil_iff] at p; subst p; exact ⟨fun x h => (by cases h), rfl⟩
  | l :: ls, _, p => by
    rw [List.map_cons] at p
    obtain ⟨y, ys, rfl, p1, p2⟩ := Reps.cons_iff.mp p
    obtain ⟨a, zs, rfl, e, q⟩ := rep_tup (G := ⟨K, fun _ _ => False⟩) p1
    rw [reps_ints q] at e
    have hk : kV H (.ref a) = l := by simp only [kV, e, intsV_map]
    obtain ⟨h1, h2⟩ := reps_tups p2
    refine ⟨fun x hx => ?_, by rw [List.map_cons, hk, h2]⟩
    rcases List.mem_cons.mp hx with z | z
    · subst z; exact ⟨a, rfl, by rw [hk]; exact e⟩
    · exact h1 x z
theorem tups_reps {K : PySem.W.Frag} {r : List Addr} {H : Hp} : ∀ {xs : List V}, (∀ x ∈ xs, ∃ t, x = V.ref t ∧ H t = some (.tup ((kV H x).map V.int))) → Reps K r H ((xs.map (kV H)).map tupI) xs
  | [], _ => by simp [Reps]
  | x :: xs, h => by
    obtain ⟨t, rfl, e⟩ := h x List.mem_cons_self
    refine Reps.cons_iff.mpr ⟨_, _, rfl, ?_, tups_reps fun y hy => h y (List.mem_cons_of_mem _ hy)⟩
    simp only [tupI, Rep]
    exact ⟨t, _, rfl, e, ints_reps _⟩
theorem keyInts_of : ∀ {kvs : List (Key × Val)} {l : List Int}, (kvs.mapM fun kv => match kv.1 with | .inl i => some i | .inr _ => none) = some l → kvs.map (·.1) = l.map Sum.inl
  | [], l, h => by
    rw [List.mapM_nil] at h
    cases h; rfl
  | (k, v) :: kvs, l, h => by
    rw [List.mapM_cons] at h
    cases k with
    | inl i =>
      simp only [Option.bind_eq_bind, Option.bind_some, Option.bind_eq_some_iff] at h
      obtain ⟨m, hm, h⟩ := h
      cases h
      rw [List.map_cons, List.map_cons, keyInts_of hm]
    | inr i => simp at h
def rSortB (K : PySem.W.Frag) : List V → Hp → VK → Prop := fun xs H Q => rSortedI K xs H Q ∨ rSortL K xs H Q ∨ rSortTI K xs H Q ∨ ∃ (a : Addr) (kvs : List (Key × V)) (ks : List Int), xs = [.ref a] ∧ Rd H a (.dK kvs) ∧ kvs.map (·.1) = ks.map Sum.inl ∧ ks.length < 64 ∧
    ∀ (ys : List Int) (p : Addr), ys.Perm ks → ys.Pairwise (· ≤ ·) → H p = none → Q (.ref p) (upd H p (.lst (ys.map V.int)))
theorem cr_sortB {X : Cx} (hc : X.calm = true) (hu : X.A.units + 65 < cLine) : CallR X (.builtin "sorted") (rSortB X.K) := cr_sortedI.or ((cr_sortL (by omega)).or (call_sortedTI.or (call_sortedDI hc)))
theorem sortedS : CbS G oSorted (rSortB G.K) := by
  refine ⟨fun x A Q Q' h ⟨v, e, q⟩ => ⟨v, e, ?_⟩, fun r A H vs xs Q R p ⟨v, e, q⟩ => ?_⟩
  · rcases q with ⟨l, e1, q⟩ | ⟨l, e1, q⟩ | ⟨l, e1, e2, q⟩ | ⟨us, l, e0, e1, e2, q⟩
    · exact .inl ⟨l, e1, fun l' h1 h2 => h _ _ (q l' h1 h2)⟩
    · exact .inr (.inl ⟨l, e1, fun l' h1 h2 => h _ _ (q l' h1 h2)⟩)
    · exact .inr (.inr (.inl ⟨l, e1, e2, fun l' h1 h2 => h _ _ (q l' h1 h2)⟩))
    · exact .inr (.inr (.inr ⟨us, l, e0, e1, e2, fun l' h1 h2 => h _ _ (q l' h1 h2)⟩))
  · subst e
    obtain ⟨x, rfl, p1⟩ := reps1 p
    rcases q with ⟨us, l, q⟩ | ⟨ls, l, q⟩ | ⟨us, l, l2, q⟩ | ⟨us, l, e0, e1, e2, q⟩
    · obtain ⟨a, rfl, s⟩ := lstInts_sq R p1 l
      exact .inl ⟨a, us, rfl, s, fun l' b h1 h2 hb => kv_lst R (ints_reps l') (q l' h1 h2) b hb⟩
    · cases v with
      | ref n =>
        obtain ⟨a, ea, rfl⟩ := rep_ref p1
        simp only [lstTups, Option.bind_eq_some_iff] at l
        obtain ⟨us, e, l⟩ := l
        obtain ⟨ys, s, q1⟩ := R.list ea e
        rw [tupsOf_eq l] at q1
        obtain ⟨hx, hk⟩ := reps_tups q1
        refine .inr (.inl ⟨a, ys, kV H, rfl, s, fun x hm => ?_, fun zs b h1 h2 hb => ?_⟩)
        · obtain ⟨t, e1, e2⟩ := hx x hm
          exact ⟨t, e1, SqT.of e2⟩
        · have hz : ∀ x ∈ zs, ∃ t, x = V.ref t ∧ H t = some (.tup ((kV H x).map V.int)) := fun x hm => hx x (h2.perm.mem_iff.mp hm)
          refine kv_lst R (tups_reps hz) (q (zs.map (kV H)) ?_ ?_) b hb
          · rw [← hk]; exact h2.perm.map _
          · rw [List.pairwise_map]; exact h1
      | _ => simp [lstTups] at l
    · cases v with
      | ref n =>
        obtain ⟨a, ea, rfl⟩ := rep_ref p1
        simp only [keyInts] at l
        split at l
        · rename_i kvs e
          obtain ⟨ys, ey, rk⟩ := R.ob n a _ ea e
          refine .inr (.inr (.inr ⟨a, ys, us, rfl, .inl ey, ?_, l2, fun l' b h1 h2 hb => kv_lst R (ints_reps l') (q l' h1 h2) b hb⟩))
          rw [← rk.1]; exact keyInts_of l
        · cases l
      | _ => simp [keyInts] at l
    · subst e0
      obtain ⟨a, zs, rfl, s, q1⟩ := p1.tupS (.inl rfl)
      rw [intsOf_eq e1] at q1
      exact .inr (.inr (.inl ⟨a, l, rfl, by rw [← reps_ints q1]; exact s, e2, fun l' b h1 h2 hb => kv_lst R (ints_reps l') (q l' h1 h2) b hb⟩))
theorem tyX_of {r : List Addr} {A : AH} {H : Hp} {v : Val} {x : V} {T : String} (R : HRel G.K r A H) (p : Rep G.K r H v x) (h : tyO A v = some T) : TyX G.K H x (.type T) := by
  cases v with
  | non => simp only [tyO, Option.some.injEq] at h; subst h; rw [rep_non p]; exact .base .non
  | bl b => simp only [tyO, Option.some.injEq] at h; subst h; rw [rep_bl p]; exact .base (.bl b)
  | int i => simp only [tyO, Option.some.injEq] at h; subst h; rw [rep_int p]; exact .base (.int i)
  | str z => simp only [tyO, Option.some.injEq] at h; subst h; rw [rep_str p]; exact .base (.str z)
  | tup xs =>
    simp only [tyO, Option.some.injEq] at h; subst h
    obtain ⟨a, ys, rfl, s, q⟩ := rep_tup p
    exact .base (.tup s)
  | ref n =>
    obtain ⟨a, ea, rfl⟩ := rep_ref p
    simp only [tyO] at h
    split at h
    · rename_i us e2
      simp only [Option.some.injEq] at h; subst h
      obtain ⟨ys, ey, q1⟩ := R.ob n a _ ea e2
      exact .base (.lst ey)
    · rename_i us e2
      simp only [Option.some.injEq] at h; subst h
      obtain ⟨ys, ey, q1⟩ := R.ob n a _ ea e2
      exact .base (.dK ey)
    · rename_i us e2
      simp only [Option.some.injEq] at h; subst h
      obtain ⟨ys, ey, q1⟩ := R.ob n a _ ea e2
      exact .base (.dT ey)
    · cases h
  | _ => simp [tyO] at h
theorem isiS : CbS G oIsi (rIsi G.K) := by
  refine ⟨fun x A Q Q' h ⟨v, T, a, k, e, l, z, q⟩ => ⟨v, T, a, k, e, l, z, h _ _ q⟩, fun r A H vs xs Q R p ⟨v, T, a, k, e, l, z, q⟩ => ?_⟩
  subst e
  obtain ⟨x, y, rfl, p1, p2⟩ := reps2 p
  have ey : y = .ty T := by simpa only [Rep] using p2
  subst ey
  exact ⟨x, .ty T, .type a, .type T, k, rfl, .ty T, tyX_of R p1 l, kit_ty (isiB_ok z), kv_bl R q⟩
end

/-! ### methods by values -/
def tyL (v : Val) (A : AH) : Prop := ∃ n xs, v = .ref n ∧ lstAt A n = some xs
def tyD (v : Val) (A : AH) : Prop := ∃ n, v = .ref n ∧ ((∃ kvs, A[n]? = some (.dk kvs)) ∨ ∃ kvs, A[n]? = some (.dt kvs))
theorem tyL_ok {G : Gc} (r : List Addr) (A : AH) (H : Hp) (v : Val) (x : V) (R : HRel G.K r A H) (p : Rep G.K r H v x) (h : tyL v A) : tyV G.K "list" x H := by
  obtain ⟨n, xs, rfl, e⟩ := h
  obtain ⟨a, ea, rfl⟩ := rep_ref p
  obtain ⟨ys, s, _⟩ := R.list ea e
  exact .inl ⟨rfl, ys, s⟩
theorem tyD_ok {G : Gc} (r : List Addr) (A : AH) (H : Hp) (v : Val) (x : V) (R : HRel G.K r A H) (p : Rep G.K r H v x) (h : tyD v A) : tyV G.K "dict" x H := by
  obtain ⟨n, rfl, e⟩ := h
  obtain ⟨a, ea, rfl⟩ := rep_ref p
  refine .inr (.inr (.inl ⟨rfl, ?_⟩))
  rcases e with ⟨kvs, e⟩ | ⟨kvs, e⟩
  · obtain ⟨ys, ey, _⟩ := R.ob n a _ ea e
    exact .inl ⟨ys, ey⟩
  · obtain ⟨ys, ey, _⟩ := R.ob n a _ ea e
    exact .inr ⟨ys, ey⟩
def mAppend : Val → OpN := fun x vs A Q => ∃ n xs v, x = .ref n ∧ vs = [v] ∧ A[n]? = some (.lst xs) ∧ xs.length < sizeLine ∧ Q .non (A.set n (.lst (xs ++ [v])))
def mExtend : Val → OpN := fun x vs A Q => ∃ n m xs ys, x = .ref n ∧ vs = [.ref m] ∧ A[n]? = some (.lst xs) ∧ A[m]? = some (.lst ys) ∧ xs.length + ys.length ≤ sizeLine ∧ Q .non (A.set n (.lst (xs ++ ys)))
def mPop : Val → OpN := fun x vs A Q => (∃ n xs v, x = .ref n ∧ vs = [] ∧ A[n]? = some (.lst xs) ∧ xs[xs.length - 1]? = some v ∧ Q v (A.set n (.lst xs.dropLast))) ∨
  (∃ n xs i k v, x = .ref n ∧ vs = [.int i] ∧ A[n]? = some (.lst xs) ∧ sm62 i ∧ seqIndex? i xs.length = some k ∧ xs[k]? = some v ∧ Q v (A.set n (.lst (xs.eraseIdx k))))
def mReverse : Val → OpN := fun x vs A Q => ∃ n xs, x = .ref n ∧ vs = [] ∧ A[n]? = some (.lst xs) ∧ Q .non (A.set n (.lst xs.reverse))
def mIndex : Val → OpN := fun x vs A Q => ∃ n xs v j z, x = .ref n ∧ vs = [v] ∧ lstAt A n = some xs ∧ okV 60 v = true ∧ okVs 60 xs = true ∧ xs[j]? = some z ∧ eqV z v = true ∧ (∀ m z', m < j → xs[m]? = some z' → eqV z' v = false) ∧ Q (.int (j : Nat)) A
section
variable {G : Gc}
theorem Reps.dropLast {K : PySem.W.Frag} {r : List Addr} {H : Hp} {vs : List Val} {xs : List V} (p : Reps K r H vs xs) : Reps K r H vs.dropLast xs.dropLast := by
  rw [List.dropLast_eq_take, List.dropLast_eq_take, p.length]
  exact Reps.take _ p
theorem Reps.eraseIdx {K : PySem.W.Frag} {r : List Addr} {H : Hp} : ∀ {vs : List Val} {xs : List V} (i : Nat), Reps K r H vs xs → Reps K r H (vs.eraseIdx i) (xs.eraseIdx i)
  | [], _, i, p => by rw [Reps.nil_iff] at p; subst p; simp [Reps]
  | v :: vs, _, 0, p => by
    obtain ⟨y, ys, rfl, p1, p2⟩ := Reps.cons_iff.mp p
    exact p2
  | v :: vs, _, i + 1, p => by
    obtain ⟨y, ys, rfl, p1, p2⟩ := Reps.cons_iff.mp p
    exact Reps.cons_iff.mpr ⟨_, _, rfl, p1, Reps.eraseIdx i p2⟩
theorem kv_setL {r : List Addr} {A : AH} {H : Hp} {Q : VK} {n : Nat} {a : Addr} {v : Val} {x : V} {vs : List Val} {xs : List V} (R : HRel G.K r A H) (e : r[n]? = some a) (q : kv G r H Q v (A.set n (.lst vs))) (px : Reps G.K r (upd H a (.lst xs)) vs xs) (p : Rep G.K r (upd H a (.lst xs)) v x) : Q x (upd H a (.lst xs)) :=
  kv_set R e (fun _ => show OR G.K r (upd H a (.lst xs)) a (.lst vs) from ⟨xs, upd_same, px⟩) p q
theorem appendS : MeS G mAppend rAppend := by
  refine ⟨fun x vs A Q Q' h ⟨n, xs, v, e1, e2, e3, l, q⟩ => ⟨n, xs, v, e1, e2, e3, l, h _ _ q⟩, fun r A H v x vs xs Q R p1 p2 ⟨n, us, w, e1, e2, e3, l, q⟩ => ?_⟩
  subst e1; subst e2
  obtain ⟨a, ea, rfl⟩ := rep_ref p1
  obtain ⟨y, rfl, py⟩ := reps1 p2
  obtain ⟨ys, ey, q1⟩ := lst_at R ea e3
  refine ⟨a, ys, y, rfl, rfl, ey, by rw [← q1.length]; exact l, ?_⟩
  exact kv_setL R ea q (Reps.append (wr_reps R ea q1) (Reps.cons_iff.mpr ⟨_, _, rfl, wr_rep R ea py, Reps.nil_iff.mpr rfl⟩)) (by simp only [Rep])
theorem extendS : MeS G mExtend rExtend := by
  refine ⟨fun x vs A Q Q' h ⟨n, m, xs, v, e1, e2, e3, e4, l, q⟩ => ⟨n, m, xs, v, e1, e2, e3, e4, l, h _ _ q⟩, fun r A H v x vs xs Q R p1 p2 ⟨n, m, us, ws, e1, e2, e3, e4, l, q⟩ => ?_⟩
  subst e1; subst e2
  obtain ⟨a, ea, rfl⟩ := rep_ref p1
  obtain ⟨y, rfl, py⟩ := reps1 p2
  obtain ⟨b, eb, rfl⟩ := rep_ref py
  obtain ⟨ys, ey, q1⟩ := lst_at R ea e3
  obtain ⟨zs, ez, q2⟩ := lst_at R eb e4
  refine ⟨a, b, ys, zs, rfl, rfl, ey, ez, by rw [← q1.length, ← q2.length]; exact l, ?_⟩
  exact kv_setL R ea q (Reps.append (wr_reps R ea q1) (wr_reps R ea q2)) (by simp only [Rep])
theorem popS : MeS G mPop (fun x vs H Q => rPop x vs H Q ∨ rPopAt x vs H Q) := by
  refine ⟨fun x vs A Q Q' h q => ?_, fun r A H v x vs xs Q R p1 p2 q => ?_⟩
  · rcases q with ⟨n, xs, v, e1, e2, e3, l, q⟩ | ⟨n, xs, i, k, v, e1, e2, e3, l, e4, e5, q⟩
    · exact .inl ⟨n, xs, v, e1, e2, e3, l, h _ _ q⟩
    · exact .inr ⟨n, xs, i, k, v, e1, e2, e3, l, e4, e5, h _ _ q⟩
  · rcases q with ⟨n, us, w, rfl, rfl, e3, l, q⟩ | ⟨n, us, i, k, w, rfl, rfl, e3, l, e4, e5, q⟩
    · obtain ⟨a, ea, rfl⟩ := rep_ref p1
      rw [Reps.nil_iff] at p2; subst p2
      obtain ⟨ys, ey, q1⟩ := lst_at R ea e3
      obtain ⟨y, hy, py⟩ := q1.get l
      refine .inl ⟨a, ys, y, rfl, rfl, ey, by rw [← q1.length]; exact hy, ?_⟩
      exact kv_setL R ea q (Reps.dropLast (wr_reps R ea q1)) (wr_rep R ea py)
    · obtain ⟨a, ea, rfl⟩ := rep_ref p1
      obtain ⟨z, rfl, pz⟩ := reps1 p2
      rw [rep_int pz]
      obtain ⟨ys, ey, q1⟩ := lst_at R ea e3
      obtain ⟨y, hy, py⟩ := q1.get e5
      have l1 := l.1
      have l2 := l.2
      refine .inr ⟨a, ys, i, k, y, rfl, rfl, ey, by omega, by omega, by rw [← q1.length]; exact e4, hy, ?_⟩
      exact kv_setL R ea q (Reps.eraseIdx k (wr_reps R ea q1)) (wr_rep R ea py)
theorem reverseS : MeS G mReverse rReverse := by
  refine ⟨fun x vs A Q Q' h ⟨n, xs, e1, e2, e3, q⟩ => ⟨n, xs, e1, e2, e3, h _ _ q⟩, fun r A H v x vs xs Q R p1 p2 ⟨n, us, e1, e2, e3, q⟩ => ?_⟩
  subst e1; subst e2
  obtain ⟨a, ea, rfl⟩ := rep_ref p1
  rw [Reps.nil_iff] at p2; subst p2
  obtain ⟨ys, ey, q1⟩ := lst_at R ea e3
  refine ⟨a, ys, rfl, rfl, ey, ?_⟩
  exact kv_setL R ea q (Reps.reverse (wr_reps R ea q1)) (by simp only [Rep])
theorem toDs_get : ∀ (vs : List Val) (j : Nat), (toDs vs)[j]? = vs[j]?.map toD
  | [], j => by simp [toDs]
  | v :: vs, 0 => by simp [toDs]
  | v :: vs, j + 1 => by simp only [toDs, List.getElem?_cons_succ]; exact toDs_get vs j
theorem okVs_get {n : Nat} : ∀ {vs : List Val} {j : Nat} {z : Val}, okVs n vs = true → vs[j]? = some z → okV n z = true
  | [], _, _, _, e => by simp at e
  | v :: vs, 0, z, h, e => by simp only [okVs, Bool.and_eq_true] at h; simp at e; subst e; exact h.1
  | v :: vs, j + 1, z, h, e => by simp only [okVs, Bool.and_eq_true] at h; simp at e; exact okVs_get h.2 e
theorem indexS : MeS G mIndex (rIndexD G.K) := by
  refine ⟨fun x vs A Q Q' h ⟨n, xs, v, j, z, e1, e2, e3, o1, o2, e4, e5, e6, q⟩ => ⟨n, xs, v, j, z, e1, e2, e3, o1, o2, e4, e5, e6, h _ _ q⟩, fun r A H v x vs xs Q R p1 p2 ⟨n, us, w, j, z, e1, e2, e3, o1, o2, e4, e5, e6, q⟩ => ?_⟩
  subst e1; subst e2
  obtain ⟨a, ea, rfl⟩ := rep_ref p1
  obtain ⟨y, rfl, py⟩ := reps1 p2
  obtain ⟨ys, s, q1⟩ := R.list ea e3
  refine ⟨a, y, toD w, toDs us, j, toD z, rfl, rfl, .lst s (dps_of 60 _ _ o2 q1), dp_of 60 _ _ o1 py, (shapeds_toD o2 (by decide)).1, shaped_toD o1 (by decide), by rw [toDs_get, e4]; rfl, ?_, fun m z' hm hz => ?_, kv_int R q⟩
  · rw [eqv_toD 60 _ _ (okVs_get o2 e4) o1]; exact e5
  · rw [toDs_get] at hz
    simp only [Option.map_eq_some_iff] at hz
    obtain ⟨u, hu, rfl⟩ := hz
    rw [eqv_toD 60 _ _ (okVs_get o2 hu) o1]
    exact e6 m u hm hu
end
end EV

namespace EV
open PySem PySem.Spec PyProof.Rows L2 RZ RT

/-! ### the operations, closed to unfolding -/
@[irreducible] def wO (o : Op2) : Op2 := o
@[irreducible] def wU (o : Op1) : Op1 := o
@[irreducible] def wN (o : OpN) : OpN := o
@[irreducible] def wM (o : Val → OpN) : Val → OpN := o
@[irreducible] def wT (o : OpSet) : OpSet := o
theorem wO_eq (o : Op2) : wO o = o := by unfold wO; rfl
theorem wU_eq (o : Op1) : wU o = o := by unfold wU; rfl
theorem wN_eq (o : OpN) : wN o = o := by unfold wN; rfl
theorem wM_eq (o : Val → OpN) : wM o = o := by unfold wM; rfl
theorem wT_eq (o : OpSet) : wT o = o := by unfold wT; rfl
theorem OpS.w {G : Gc} {o : Op2} {rr : R2} (h : OpS G o rr) : OpS G (wO o) rr := by rw [wO_eq]; exact h
theorem UnS.w {G : Gc} {o : Op1} {rr : V → Hp → VK → Prop} (h : UnS G o rr) : UnS G (wU o) rr := by rw [wU_eq]; exact h
theorem CbS.w {G : Gc} {o : OpN} {rr : List V → Hp → VK → Prop} (h : CbS G o rr) : CbS G (wN o) rr := by rw [wN_eq]; exact h
theorem MeS.w {G : Gc} {o : Val → OpN} {rr : V → List V → Hp → VK → Prop} (h : MeS G o rr) : MeS G (wM o) rr := by rw [wM_eq]; exact h

theorem _root_.EV.SetS.w {G : Gc} {o : OpSet} {rr : TSet} (h : SetS G o rr) : SetS G (wT o) rr := by rw [wT_eq]; exact h

/-- branches, closed to unfolding -/
@[irreducible] def bI (k : Bool) (a b : Prop) : Prop := if k = true then a else b
theorem bI_eq : bI = fun k a b => if k = true then a else b := by funext k a b; unfold bI; rfl
theorem bI_t (a b : Prop) : bI true a b = a := by unfold bI; rw [if_pos rfl]
theorem bI_f (a b : Prop) : bI false a b = b := by unfold bI; rw [if_neg Bool.false_ne_true]
theorem bI_in {k : Bool} {a b : Prop} (h1 : k = true → a) (h2 : k = false → b) : bI k a b := by
  cases k with
  | true => rw [bI_t]; exact h1 rfl
  | false => rw [bI_f]; exact h2 rfl
@[irreducible] def sForJ (J : Wk) (g : DenG) (b : DenS) : DenS := fun t A D => ∃ Wi : Nat → Nat → Lv → AH → Prop, (∃ m, Wi 0 m t A) ∧ ∀ i m t A, Wi i m t A →
  (J i A = some none ∧ D.nx t A) ∨ (∃ v, J i A = some (some v) ∧ ∃ N : Lv → AH → Prop, (∀ t' A', N t' A' → ∃ m', m' < m ∧ Wi (i + 1) m' t' A') ∧
    g v t A (fun t2 A2 => b t2 A2 ⟨N, D.rt, D.nx, N, D.ex⟩))
@[irreducible] def dLcJ (J : Wk) (tg : Tg) (tt : DenT) (e : Den) (vs : List Nat) (t : Lv) (A1 : AH) (Q : VQ) : Prop := ∃ Wi : Nat → Nat → List Val → AH → Prop, (∃ m, Wi 0 m [] A1) ∧ ∀ i m acc A, Wi i m acc A →
  (J i A = some none ∧ Q (.ref A.length) (A ++ [.lst acc])) ∨ (∃ v t2, J i A = some (some v) ∧ bindT tg v (wipeV t vs) = some t2 ∧ ∃ N : List Val → AH → Prop, (∀ acc' A', N acc' A' → ∃ m', m' < m ∧ Wi (i + 1) m' acc' A') ∧
    tt t2 A (fun b A3 => if b = true then e t2 A3 (fun y A4 => acc.length < sizeLine ∧ N (acc ++ [y]) A4) nox else N acc A3) nox)
def tAndB (a b : DenT) : DenT := fun t A Q E => a t A (fun k A1 => bI k (b t A1 Q E) (Q false A1)) E
def tOrB (a b : DenT) : DenT := fun t A Q E => a t A (fun k A1 => bI k (Q true A1) (b t A1 Q E)) E
def dIfB (c : DenT) (a b : Den) : Den := fun t A Q E => c t A (fun k A1 => bI k (a t A1 Q E) (b t A1 Q E)) E
def dAndB (a b : Den) : Den := fun t A Q E => a t A (fun x A1 => ∃ k, truB A1 x = some k ∧ bI k (b t A1 Q E) (Q x A1)) E
def dOrB (a b : Den) : Den := fun t A Q E => a t A (fun x A1 => ∃ k, truB A1 x = some k ∧ bI k (Q x A1) (b t A1 Q E)) E
def sIfB (c : DenT) (a b : DenS) : DenS := fun t A D => c t A (fun k A1 => bI k (a t A1 D) (b t A1 D)) (fun e A1 => D.ex e t A1)
@[irreducible] def sWhileB (c : DenT) (b : DenS) : DenS := sWhile c b
def sForB (it : DenI) (g : DenG) (b : DenS) : DenS := fun t A D => it t A (fun J A1 => sForJ J g b t A1 D) (fun e A1 => D.ex e t A1)
def dLcB (it : DenI) (tg : Tg) (tt : DenT) (e : Den) (vs : List Nat) : Den := fun t A Q E => it t A (fun J A1 => dLcJ J tg tt e vs t A1 Q) E
def _root_.EV.EndsA.thn (D : EndsA) (b : DenS) : EndsA := ⟨fun t A => b t A D, D.rt, D.bk, D.ct, D.ex⟩
def sSeqB (a b : DenS) : DenS := fun t A D => a t A (D.thn b)
theorem sSeqB_eq : sSeqB = sSeq := rfl
def _root_.EV.EndsA.lp (D : EndsA) (N : Lv → AH → Prop) : EndsA := ⟨N, D.rt, D.nx, N, D.ex⟩
def _root_.EV.EndsA.fn (Q : VQ) (E : XQ) : EndsA := ⟨fun _ A' => Q .non A', Q, fun _ _ => False, fun _ _ => False, fun e _ A' => E e A'⟩
@[irreducible] def kT (t : Lv) (P : Lv → Prop) : Prop := P t
@[irreducible] def kA (A : AH) (o : Ob) (Q : VQ) : Prop := Q (.ref A.length) (A ++ [o])
def gNameB (i : Nat) : DenG := fun v t A Q => kT (t.set i (some v)) fun t' => Q t' A
def sAugB (i : Nat) (o : Op2) (d : Den) : DenS := fun t A D => ∃ x, t[i]? = some (some x) ∧ d t A (fun y A1 => o x y A1 (fun z A2 => kT (t.set i (some z)) fun t' => D.nx t' A2)) (fun e A1 => D.ex e t A1)
def sParB (i j : Nat) (d : DenA) : DenS := fun t A D => d t A (fun vs A1 => ∃ v w, vs = [v, w] ∧ kT ((t.set i (some v)).set j (some w)) fun t' => D.nx t' A1) (fun e A1 => D.ex e t A1)
def dLstB (d : DenA) : Den := fun t A Q E => d t A (fun xs A1 => kA A1 (.lst xs) Q) E
def dNewKB : Den := fun _ A Q _ => kA A (.dk []) Q
def dNewTB : Den := fun _ A Q _ => kA A (.dt []) Q
theorem gNameB_eq : gNameB = EV.gName := by unfold gNameB kT; rfl
theorem sAugB_eq : sAugB = sAug := by unfold sAugB kT; rfl
theorem sParB_eq : sParB = sPar := by unfold sParB kT; rfl
theorem dLstB_eq : dLstB = dLst := by unfold dLstB kA; rfl
/-- while a dict is walked it is locked -/
def EndsA.lk (D : EndsA) (n : Nat) (kvs : List (Key × Val)) (g : L2.HO) : EndsA := ⟨fun t A => A[n]? = some (.dz kvs g) ∧ D.nx t (A.set n (.dk kvs)), fun v A => A[n]? = some (.dz kvs g) ∧ D.rt v (A.set n (.dk kvs)), fun t A => A[n]? = some (.dz kvs g) ∧ D.bk t (A.set n (.dk kvs)), fun t A => A[n]? = some (.dz kvs g) ∧ D.ct t (A.set n (.dk kvs)), fun _ _ _ => False⟩
def sLk (b : DenS) : DenS := fun t A D => ∃ n kvs, A[n]? = some (.dk kvs) ∧ ∀ g, b t (A.set n (.dz kvs g)) (EndsA.lk D n kvs g)
def dLk (d : Den) : Den := fun t A Q _ => ∃ n kvs, A[n]? = some (.dk kvs) ∧ ∀ g, d t (A.set n (.dz kvs g)) (fun v A' => A'[n]? = some (.dz kvs g) ∧ Q v (A'.set n (.dk kvs))) (fun _ _ => False)
theorem mono_slk {b : DenS} (mb : MonoS b) : MonoS (sLk b) := fun t A D D' L ⟨n, kvs, e, h⟩ => ⟨n, kvs, e, fun g => mb _ _ (EndsA.lk D n kvs g) (EndsA.lk D' n kvs g) ⟨fun _ _ q => ⟨q.1, L.nx _ _ q.2⟩, fun _ _ q => ⟨q.1, L.rt _ _ q.2⟩, fun _ _ q => ⟨q.1, L.bk _ _ q.2⟩, fun _ _ q => ⟨q.1, L.ct _ _ q.2⟩, fun _ _ _ z => z⟩ (h g)⟩
theorem mono_dlk {d : Den} (md : Mono d) : Mono (dLk d) := fun t A Q Q' E E' h _ ⟨n, kvs, e, q⟩ => ⟨n, kvs, e, fun g => md _ _ _ _ _ _ (fun _ _ q => ⟨q.1, h _ _ q.2⟩) (fun _ _ z => z) (q g)⟩
section
variable {G : Gc} {X : Cx}
theorem se_lk {e : Expr} {d : Den} (md : Mono d) (h : SE G X e d) : SE G X e (dLk d) := fun W tk =>
  (pe_lock (h W tk)).wk fun s H Q ⟨r, A, t, R, S, n, kvs, eA, q⟩ => by
    have hn : n < r.length := by rw [← R.len]; exact (List.getElem?_eq_some_iff.mp eA).1
    have er : r[n]? = some r[n] := List.getElem?_eq_getElem hn
    obtain ⟨xs, ex, rk⟩ := R.ob n _ _ er eA
    refine ⟨r[n], _, ex, trivial, fun od => ?_⟩
    have E := ext_write (r := r) (H := H) (ho := .frz od (.dK xs)) (List.mem_of_getElem? er)
    have R1 : HRel G.K r (A.set n (.dz kvs (.frz od (.dK xs)))) (upd H r[n] (.frz od (.dK xs))) := R.write er ⟨upd_same, od, xs, rfl, rk.ext R E⟩
    refine ⟨r, _, t, R1, S.ext R E, md _ _ _ _ _ _ (fun v A' q r' H' x E' R' p => ?_) (fun _ _ z => z.elim) (q (.frz od (.dK xs)))⟩
    have e' := E'.at er
    obtain ⟨eg, o', ys, e2, rk'⟩ := R'.ob n _ _ e' q.1
    cases e2
    have E3 := ext_write (r := r') (H := H') (ho := .dK xs) (List.mem_of_getElem? e')
    exact ⟨eg, q.2 r' _ x (E.trans (E'.trans E3)) (R'.write e' ⟨xs, upd_same, rk'.ext R' E3⟩) (Rep.ext R' E3 _ _ p)⟩
theorem ss_lk {st : Stmt} {d : DenS} (md : MonoS d) (h : SS G X st d) : SS G X st (sLk d) := fun W tk =>
  (ps_lock (h W tk)).wk fun D s H ⟨r, A, t, R, S, n, kvs, eA, q⟩ => by
    have hn : n < r.length := by rw [← R.len]; exact (List.getElem?_eq_some_iff.mp eA).1
    have er : r[n]? = some r[n] := List.getElem?_eq_getElem hn
    obtain ⟨xs, ex, rk⟩ := R.ob n _ _ er eA
    refine ⟨r[n], _, ex, trivial, fun od => ?_⟩
    have E := ext_write (r := r) (H := H) (ho := .frz od (.dK xs)) (List.mem_of_getElem? er)
    have R1 : HRel G.K r (A.set n (.dz kvs (.frz od (.dK xs)))) (upd H r[n] (.frz od (.dK xs))) := R.write er ⟨upd_same, od, xs, rfl, rk.ext R E⟩
    have key : ∀ r' A' H', Ext r r' (upd H r[n] (.frz od (.dK xs))) H' → HRel G.K r' A' H' → A'[n]? = some (.dz kvs (.frz od (.dK xs))) → H' r[n] = some (.frz od (.dK xs)) ∧ Ext r r' H (upd H' r[n] (.dK xs)) ∧ HRel G.K r' (A'.set n (.dk kvs)) (upd H' r[n] (.dK xs)) ∧ Ext r' r' H' (upd H' r[n] (.dK xs)) := fun r' A' H' E' R' q1 => by
      have e' := E'.at er
      obtain ⟨eg, o', ys, e2, rk'⟩ := R'.ob n _ _ e' q1
      cases e2
      have E3 := ext_write (r := r') (H := H') (ho := .dK xs) (List.mem_of_getElem? e')
      exact ⟨eg, E.trans (E'.trans E3), R'.write e' ⟨xs, upd_same, rk'.ext R' E3⟩, E3⟩
    refine ⟨r, _, t, R1, S.ext R E, md _ _ (EndsA.lk (ends G W r H D) n kvs (.frz od (.dK xs))) _ ⟨fun t' A' q r' H' s' E' R' S' => ?_, fun v A' q r' H' x E' R' p => ?_, fun t' A' q r' H' s' E' R' S' => ?_, fun t' A' q r' H' s' E' R' S' => ?_, fun _ _ _ z => False.elim z⟩ (q (.frz od (.dK xs)))⟩
    · obtain ⟨k1, k2, k3, k4⟩ := key r' A' H' E' R' q.1
      exact ⟨k1, q.2 r' _ s' k2 k3 (S'.ext R' k4)⟩
    · obtain ⟨k1, k2, k3, k4⟩ := key r' A' H' E' R' q.1
      exact ⟨k1, q.2 r' _ x k2 k3 (Rep.ext R' k4 _ _ p)⟩
    · obtain ⟨k1, k2, k3, k4⟩ := key r' A' H' E' R' q.1
      exact ⟨k1, q.2 r' _ s' k2 k3 (S'.ext R' k4)⟩
    · obtain ⟨k1, k2, k3, k4⟩ := key r' A' H' E' R' q.1
      exact ⟨k1, q.2 r' _ s' k2 k3 (S'.ext R' k4)⟩
end
theorem tAndB_eq : tAndB = EV.tAnd := by unfold tAndB bI; rfl
theorem tOrB_eq : tOrB = EV.tOr := by unfold tOrB bI; rfl
theorem dIfB_eq : dIfB = dIf := by unfold dIfB bI; rfl
theorem dAndB_eq : dAndB = dAndV := by unfold dAndB bI; rfl
theorem dOrB_eq : dOrB = dOrV := by unfold dOrB bI; rfl
theorem sIfB_eq : sIfB = sIf := by unfold sIfB bI; rfl
theorem sWhileB_eq : sWhileB = sWhile := by funext c b; unfold sWhileB; rfl
theorem sForB_eq : sForB = sFor := by unfold sForB sForJ; rfl
theorem dLcB_eq : dLcB = dLc := by unfold dLcB dLcJ; rfl

/-! ### names -/
def strEq (a b : Str) : Bool := a.cps.toList == b.cps.toList
theorem strEq_iff {a b : Str} : strEq a b = true ↔ a = b := by
  unfold strEq
  rw [beq_iff_eq]
  constructor
  · intro h
    cases a; cases b
    simp only [Str.mk.injEq]
    exact Array.ext' h
  · rintro rfl; rfl
theorem strEq_false {a b : Str} (h : strEq a b = false) : (a == b) = false := by
  rw [beq_eq_false_iff_ne]
  rintro rfl
  rw [strEq_iff.mpr rfl] at h; cases h
def lk : List (Str × NameKind) → Str → Option NameKind
  | [], _ => none
  | (y, k) :: l, x => if strEq x y = true then some k else lk l x
theorem lk_eq : ∀ (l : List (Str × NameKind)) (x : Str), lk l x = l.lookup x
  | [], _ => rfl
  | (y, k) :: l, x => by
    unfold lk
    rw [List.lookup_cons]
    by_cases h : x = y
    · subst h
      rw [if_pos (strEq_iff.mpr rfl)]
      simp
    · rw [if_neg (fun z => h (strEq_iff.mp z)), lk_eq l x]
      have : (x == y) = false := by simpa using h
      rw [this]
def slot : List Str → Str → Option Nat
  | [], _ => none
  | y :: l, x => if strEq x y = true then some 0 else (slot l x).map (· + 1)
theorem slot_ok : ∀ {l : List Str} {x : Str} {i : Nat}, slot l x = some i → l[i]? = some x
  | [], _, _, h => by cases h
  | y :: l, x, i, h => by
    unfold slot at h
    split at h
    · rename_i e
      rw [strEq_iff] at e
      simp only [Option.some.injEq] at h
      subst h; subst e; rfl
    · simp only [Option.map_eq_some_iff] at h
      obtain ⟨j, hj, rfl⟩ := h
      simpa using slot_ok hj
def memS : List Str → Str → Bool
  | [], _ => false
  | y :: l, x => strEq x y || memS l x
theorem memS_iff : ∀ {l : List Str} {x : Str}, memS l x = true → x ∈ l
  | [], _, h => by cases h
  | y :: l, x, h => by
    simp only [memS, Bool.or_eq_true] at h
    rcases h with h | h
    · rw [strEq_iff] at h; subst h; exact List.mem_cons_self
    · exact List.mem_cons_of_mem _ (memS_iff h)

/-! ### what is seen of the text -/
def notStar : Expr → Bool
  | .Starred _ _ => false
  | _ => true
def notSl : Expr → Bool
  | .Slice _ _ _ _ => false
  | _ => true
def notSet : Expr → Bool
  | .Set _ _ _ => false
  | _ => true
def notComp : Expr → Bool
  | .ListComp _ _ _ _ => false
  | .SetComp _ _ _ _ => false
  | .DictComp _ _ _ _ _ => false
  | _ => true
def truOk : Expr → Bool
  | .UnaryOp _ _ _ => false
  | .BoolOp _ _ _ => false
  | .IfExp _ _ _ _ => false
  | .Compare _ _ _ _ => false
  | _ => true
def baseOk : Expr → Bool
  | .Call (.Name _ _) [] [] _ => false
  | _ => true
theorem star_cons {e : Expr} (h : notStar e = true) (es : List Expr) (env : PySem.Env) : starEach (e :: es) env = (false, eval e env) :: starEach es env := by
  cases e <;> first | rfl | cases h
theorem asg_cons {e : Expr} (h : notStar e = true) (es : List Expr) (env : PySem.Env) : assignEach (e :: es) env = (false, assign e env) :: assignEach es env := by
  cases e <;> first | rfl | cases h
theorem plain_any {es : List Expr} (h : es.all notStar = true) (pos : Pos) (env : PySem.Env) : (backTo pos (starEach es env)).any (·.1) = false := by
  induction es with
  | nil => rfl
  | cons e es ih =>
    simp only [List.all_cons, Bool.and_eq_true] at h
    rw [star_cons h.1]
    show (false || (backTo pos (starEach es env)).any (·.1)) = false
    rw [ih h.2]; rfl
theorem plain_all {es : List Expr} (h : es.all notStar = true) (pos : Pos) (env : PySem.Env) : (backTo pos (starEach es env)).all (fun x => !x.1) = true := by
  induction es with
  | nil => rfl
  | cons e es ih =>
    simp only [List.all_cons, Bool.and_eq_true] at h
    rw [star_cons h.1]
    show (true && (backTo pos (starEach es env)).all (fun x => !x.1)) = true
    rw [ih h.2]; rfl
theorem plainIx_of {e : Expr} (h : notSl e = true) : PlainIx e := fun o i => by
  cases e <;> first | rfl | cases h
theorem noFold {e : Expr} (h : notSet e = true) (env : PySem.Env) : ∀ x, foldedSetIterable e env x = pure x := fun x => by
  cases e <;> first | rfl | cases h
theorem noSwap {e : Expr} (h : notComp e = true) (t : Option Expr) (l : Nat) (env : PySem.Env) : swapsWith e t l env = pure false := by
  cases e <;> first | rfl | cases h
theorem isTrue_of {e : Expr} (h : truOk e = true) (env : PySem.Env) : ∀ whole, isTrue e env whole = (do let v ← whole; standAt e.pos; holding [v] (truthy v)) := fun whole => by
  cases e <;> first | rfl | cases h
theorem base_of {e : Expr} (h : baseOk e = true) (m : Str) (env : PySem.Env) : attributeBase e m env (eval e env) = eval e env := by
  unfold attributeBase
  split
  · cases h
  · rfl
theorem few_of {es : List Expr} (h : es.all notStar = true) (hl : es.length < 29) (pos : Pos) (env : PySem.Env) :
    ((backTo pos (starEach es env)).all (fun x => !x.1) && (backToKw pos (keywordEach [] env)).all (fun x => x.1.isSome) && decide (es.length + ([] : List Keyword).length + (if ([] : List Keyword).isEmpty then 0 else 1) < 30)) = true := by
  rw [plain_all h]
  have e : decide (es.length + ([] : List Keyword).length + (if ([] : List Keyword).isEmpty then 0 else 1) < 30) = true := by
    rw [decide_eq_true_eq]
    show es.length + 0 + 0 < 30
    omega
  rw [e]; rfl

/-! ### tables -/
def binO : Operator → Option Op2
  | .Add => some oAdd
  | .Sub => some (oInt (· - ·))
  | .Mult => some oMul
  | .FloorDiv => some (oIntC CDivW (· / ·))
  | .Mod => some (oIntC (fun _ j => 0 < j) (· % ·))
  | .LShift => some (oIntC CPow (fun i j => i * 2 ^ j.toNat))
  | .RShift => some (oIntC (fun _ j => 0 ≤ j) (fun i j => i / 2 ^ j.toNat))
  | .BitAnd => some (oInt Builtin.bitAnd)
  | .BitXor => some (oInt Builtin.bitXor)
  | _ => none
def cmpO : CmpOp → Option Op2
  | .Eq => some (oEq false)
  | .NotEq => some (oEq true)
  | .Lt => some (oOrd (fun i j => decide (i < j)))
  | .LtE => some (oOrd (fun i j => decide (i ≤ j)))
  | .Gt => some (oOrd (fun i j => decide (j < i)))
  | .GtE => some (oOrd (fun i j => decide (j ≤ i)))
  | .Is => some (oIs false)
  | .IsNot => some (oIs true)
  | .In => some (oIn false)
  | .NotIn => some (oIn true)
inductive Cb where
  | len | list | tuple | int | sum | max | min | sorted | isi | all | any | str
def cbOf : List (Str × Nat × Cb) := [("len", 1, .len), ("list", 1, .list), ("tuple", 1, .tuple), ("int", 1, .int), ("sum", 1, .sum), ("max", 1, .max), ("max", 2, .max), ("min", 1, .min), ("min", 2, .min), ("sorted", 1, .sorted), ("isinstance", 2, .isi), ("all", 1, .all), ("any", 1, .any), ("str", 1, .str)]
def Cb.op : Cb → OpN
  | .len => oLen | .list => oList | .tuple => oTuple | .int => oIntC1 | .sum => oSum | .max => oMax | .min => oMin | .sorted => oSorted | .isi => oIsi | .all => oAll | .any => oAny | .str => oStr
def Cb.name : Cb → Str
  | .len => "len" | .list => "list" | .tuple => "tuple" | .int => "int" | .sum => "sum" | .max => "max" | .min => "min" | .sorted => "sorted" | .isi => "isinstance" | .all => "all" | .any => "any" | .str => "str"
def cbFind (l : List (Str × Nat × Cb)) (x : Str) (n : Nat) : Option Cb := match l with
  | [] => none
  | (y, m, c) :: l => if (strEq x y && n == m && strEq c.name y) = true then some c else cbFind l x n
theorem cbFind_name : ∀ {l : List (Str × Nat × Cb)} {x : Str} {n : Nat} {c : Cb}, cbFind l x n = some c → x = c.name
  | [], _, _, _, h => by cases h
  | (y, m, c') :: l, x, n, c, h => by
    unfold cbFind at h
    split at h
    · rename_i e
      simp only [Option.some.injEq] at h
      subst h
      simp only [Bool.and_eq_true] at e
      rw [strEq_iff.mp e.1.1, ← strEq_iff.mp e.2]
    · exact cbFind_name h
def bltNames : List Str := ["len", "list", "tuple", "int", "sum", "max", "min", "sorted", "isinstance", "range", "enumerate", "zip", "reversed", "str", "bool", "all", "any"]
def tyNames : List (Str × String) := [("int", "int"), ("bool", "bool"), ("str", "str"), ("tuple", "tuple"), ("list", "list")]
def tyFind : List (Str × String) → Str → Option String
  | [], _ => none
  | (y, T) :: l, x => if strEq x y = true then some T else tyFind l x
def itNames : List Str := ["range", "enumerate", "zip", "reversed"]
def isTup : Expr → Bool
  | .Tuple _ _ _ => true
  | _ => false
inductive Me where
  | append | extend | pop | reverse | index
def Me.op : Me → Val → OpN
  | .append => mAppend | .extend => mExtend | .pop => mPop | .reverse => mReverse | .index => mIndex
def Me.name : Me → Str
  | .append => "append" | .extend => "extend" | .pop => "pop" | .reverse => "reverse" | .index => "index"
def meOf : List Me := [.append, .extend, .pop, .reverse, .index]
def meFind : List Me → Str → Option Me
  | [], _ => none
  | m :: l, x => if strEq x m.name = true then some m else meFind l x
theorem meFind_name : ∀ {l : List Me} {x : Str} {m : Me}, meFind l x = some m → x = m.name
  | [], _, _, h => by cases h
  | m' :: l, x, m, h => by
    unfold meFind at h
    split at h
    · rename_i e
      simp only [Option.some.injEq] at h
      subst h
      exact strEq_iff.mp e
    · exact meFind_name h

section
variable {G : Gc} {X : Cx}
theorem OpR.or' {f : Value → Value → Sem Value} {r r' : R2} (h : OpR X f r) (h' : OpR X f r') : OpR X f (fun x y H Q => r x y H Q ∨ r' x y H Q) := h.or h'
theorem bin_ok {op : Operator} {o : Op2} (hK : X.K = G.K) (h : binO op = some o) : ∃ rr, OpR X (binaryOp op) rr ∧ OpS G o rr := by
  cases op with
  | Add => simp only [binO, Option.some.injEq] at h; subst h; exact ⟨_, op_add.or (op_add_str.or (op_catA.or op_cat)), addS X.K hK⟩
  | Sub => simp only [binO, Option.some.injEq] at h; subst h; exact ⟨_, op_sub, intS _⟩
  | Mult => simp only [binO, Option.some.injEq] at h; subst h; exact ⟨_, op_mul.or op_rep, mulS⟩
  | Mod => simp only [binO, Option.some.injEq] at h; subst h; exact ⟨_, op_mod, intCS _ _⟩
  | LShift => simp only [binO, Option.some.injEq] at h; subst h; exact ⟨_, op_shl, intCS _ _⟩
  | RShift => simp only [binO, Option.some.injEq] at h; subst h; exact ⟨_, op_shr, intCS _ _⟩
  | BitXor => simp only [binO, Option.some.injEq] at h; subst h; exact ⟨_, op_xor, intS _⟩
  | BitAnd => simp only [binO, Option.some.injEq] at h; subst h; exact ⟨_, op_and, intS _⟩
  | FloorDiv => simp only [binO, Option.some.injEq] at h; subst h; exact ⟨_, op_fdivW, intCS _ _⟩
  | _ => simp [binO] at h
theorem cmp_ok {op : CmpOp} {o : Op2} (hK : X.K = G.K) (hu : X.A.units + 65 < cLine) (h : cmpO op = some o) : ∃ rr, OpR X (compareOp op) rr ∧ OpS G o rr := by
  cases op <;> simp only [cmpO, Option.some.injEq] at h <;> subst h
  · exact ⟨_, op_eqB (by omega), hK ▸ eqS false⟩
  · exact ⟨_, op_neB (by omega), hK ▸ eqS true⟩
  · exact ⟨_, op_lt, ordS _⟩
  · exact ⟨_, op_le, ordS _⟩
  · exact ⟨_, op_gt, ordS _⟩
  · exact ⟨_, op_ge, ordS _⟩
  · exact ⟨_, op_isB, isS false⟩
  · exact ⟨_, op_isnB, isS true⟩
  · exact ⟨_, op_inB hu, hK ▸ inS false⟩
  · exact ⟨_, op_notInB hu, hK ▸ inS true⟩
/-- how a built-in is called -/
def CbR (X : Cx) (x : Str) (r : List V → Hp → VK → Prop) : Prop := (∃ id, bootBuiltins x = some (.builtin id) ∧ CallR X (.builtin id) r) ∨ (∃ T, bootBuiltins x = some (.type T) ∧ CallR X (.type T) r)
theorem cb_ok (hK : X.K = G.K) (hc : X.calm = true) (hu : X.A.units + 65 < cLine) (c : Cb) : ∃ rr, CbR X c.name rr ∧ CbS G c.op rr := by
  cases c with
  | len => exact ⟨_, .inl ⟨_, PySem.boot_len, call_len.or call_lenD⟩, hK ▸ lenS⟩
  | list => exact ⟨_, .inr ⟨_, boot_list, call_list_of⟩, listS X.K hK⟩
  | tuple => exact ⟨_, .inr ⟨_, boot_tuple, call_tuple_of⟩, tupleS X.K hK⟩
  | int => exact ⟨_, .inr ⟨_, boot_int, call_int1⟩, intcS⟩
  | sum => exact ⟨_, .inl ⟨_, by decide +kernel, cr_sum hc⟩, hK ▸ sumS⟩
  | max => exact ⟨_, .inl ⟨_, boot_max, (cr_max hc).or ((call_max2 hc).or (cr_maxT hc (by omega)))⟩, hK ▸ maxS⟩
  | min => exact ⟨_, .inl ⟨_, by decide +kernel, (cr_min hc).or ((call_min2 hc).or (cr_minT hc (by omega)))⟩, hK ▸ minS⟩
  | sorted => exact ⟨_, .inl ⟨_, boot_sorted, cr_sortB hc hu⟩, hK ▸ sortedS⟩
  | isi => exact ⟨_, .inl ⟨_, boot_isinstance, call_isi⟩, hK ▸ isiS⟩
  | all => exact ⟨_, .inl ⟨_, by decide +kernel, cr_all hc⟩, hK ▸ allS⟩
  | any => exact ⟨_, .inl ⟨_, by decide +kernel, cr_any hc⟩, hK ▸ anyS⟩
  | str => exact ⟨_, .inr ⟨_, by decide +kernel, call_str_int⟩, strS⟩
/-- what a method's call asks -/
structure MtK (G : Gc) (X : Cx) (name : Str) (ty : Val → AH → Prop) (o : Val → OpN) where
  T : String
  id : String
  rr : V → List V → Hp → VK → Prop
  pa : PlainAttrs T
  sl : Slot T name id
  td : typeOf (.builtin id) = pure (.type "method_descriptor")
  mt : MtR X id rr
  ms : MeS G o rr
  ht : ∀ r A H v x, HRel G.K r A H → Rep G.K r H v x → ty v A → tyV G.K T x H
theorem MtK.w0 {name : Str} {ty : Val → AH → Prop} {o : Val → OpN} (k : MtK G X name ty o) : Nonempty (MtK G X name ty (wM o)) := ⟨⟨k.T, k.id, k.rr, k.pa, k.sl, k.td, k.mt, k.ms.w, k.ht⟩⟩
def Me.ty : Me → Val → AH → Prop := fun _ => tyL
theorem me_ok (hK : X.K = G.K) (hu : X.A.units + 65 < cLine) (m : Me) : Nonempty (MtK G X m.name m.ty m.op) := by
  cases m with
  | append => exact ⟨_, _, _, PySem.F.plainAttrs_list, PySem.F.slot_list_append, PySem.F.type_list_append, mt_append, appendS, tyL_ok⟩
  | extend => exact ⟨_, _, _, PySem.F.plainAttrs_list, PySem.F.slot_list_extend, PySem.F.type_list_extend, mt_extend, extendS, tyL_ok⟩
  | pop => exact ⟨_, _, _, PySem.F.plainAttrs_list, PySem.F.slot_list_pop, PySem.F.type_list_pop, MtR.or mt_pop mt_popAt, popS, tyL_ok⟩
  | reverse => exact ⟨_, _, _, PySem.F.plainAttrs_list, PySem.F.slot_list_reverse, PySem.F.type_list_reverse, mt_reverse, reverseS, tyL_ok⟩
  | index => exact ⟨_, _, _, PySem.F.plainAttrs_list, PySem.F.slot_list_index, PySem.F.type_list_index, mt_indexD hu, hK ▸ indexS, tyL_ok⟩
end

/-! ### the checker -/
structure FI where
  name : Str
  lev : Nat
  fn : FDen
structure Ctx where
  N : List Str
  sc : Scope
  funs : List FI
  /-- the places of the empty displays that are to be dicts with tuple keys -/
  dt : List (Nat × Nat)
  /-- the places of the comprehensions and loops that walk a dict -/
  dl : List (Nat × Nat)
def fiFind : List FI → Str → Option FI
  | [], _ => none
  | f :: l, x => if strEq x f.name = true then some f else fiFind l x
theorem fiFind_mem : ∀ {l : List FI} {x : Str} {f : FI}, fiFind l x = some f → f ∈ l ∧ x = f.name
  | [], _, _, h => by cases h
  | g :: l, x, f, h => by
    unfold fiFind at h
    split at h
    · rename_i e
      simp only [Option.some.injEq] at h
      subst h
      exact ⟨List.mem_cons_self, strEq_iff.mp e⟩
    · obtain ⟨h1, h2⟩ := fiFind_mem h
      exact ⟨List.mem_cons_of_mem _ h1, h2⟩
def visB (sc : Scope) (x : Str) : Bool := match lk sc.names x with
  | some .local => true
  | some .cell => true
  | some .free => true
  | _ => false
def locB (sc : Scope) (x : Str) : Bool := match lk sc.names x with
  | some .local => true
  | some .cell => true
  | _ => false
def locOnly (sc : Scope) (x : Str) : Bool := match lk sc.names x with
  | some .local => true
  | _ => false
def glB (sc : Scope) (x : Str) : Bool := match lk sc.names x with
  | some .globalImplicit => true
  | _ => false
def okName (x : Str) : Bool := !(strEq x "__debug__") && !(strEq x "__classdict__") && !(strEq x "__name__")
/-- the block's own names with their places -/
def ownOf (N : List Str) : List (Str × NameKind) → List (Str × Nat)
  | [] => []
  | (x, k) :: l => match k, slot N x with
    | .local, some i => (x, i) :: ownOf N l
    | .cell, some i => (x, i) :: ownOf N l
    | _, _ => ownOf N l
def tgSlots (N : List Str) (scope : Scope) : List Expr → Option (List Nat)
  | [] => some []
  | .Name x _ :: es => if (locB scope x) = true then (slot N x).bind fun i => (tgSlots N scope es).map fun l => i :: l else none
  | _ => none
def compTg (N : List Str) (scope : Scope) : Expr → Option Tg
  | .Name x _ => if (locB scope x) = true then (slot N x).map .one else none
  | .Tuple es _ _ => (tgSlots N scope es).map .tup
  | _ => none
def ownIx (N : List Str) (l : List (Str × NameKind)) : List Nat := (ownOf N l).map (·.2)
def natIn (l : List Nat) (i : Nat) : Bool := l.any fun j => j == i
def oNeg : Op1 := fun x A Q => match x with
  | .int i => Q (.int (-i)) A
  | _ => False
def dNewK : Den := fun _ A Q _ => Q (.ref A.length) (A ++ [.dk []])
def dNewT : Den := fun _ A Q _ => Q (.ref A.length) (A ++ [.dt []])
theorem dNewKB_eq : dNewKB = dNewK := by unfold dNewKB kA; rfl
theorem dNewTB_eq : dNewTB = dNewT := by unfold dNewTB kA; rfl
def rgL (a b : Int) : List Val := (List.range (b - a).toNat).map fun i : Nat => .int (a + (i : Int))
def dLR1 (d : Den) : Den := fun t A Q E => d t A (fun v A1 => ∃ j, v = .int j ∧ RgOk 0 j ∧ kA A1 (.lst (rgL 0 j)) Q) E
def dLR2 (d e : Den) : Den := fun t A Q E => d t A (fun v A1 => e t A1 (fun w A2 => ∃ i j, v = .int i ∧ w = .int j ∧ RgOk i j ∧ kA A2 (.lst (rgL i j)) Q) E) E
def lrg (C : Ctx) (x : Str) : List Expr → Option (Expr × Option Expr)
  | [.Call (.Name y _) [a] [] _] => if (strEq x "list" && strEq y "range" && glB C.sc y && notStar a) = true then some (a, none) else none
  | [.Call (.Name y _) [a, b] [] _] => if (strEq x "list" && strEq y "range" && glB C.sc y && notStar a && notStar b) = true then some (a, some b) else none
  | _ => none
mutual
def comp : Nat → Ctx → Expr → Option Den
  | 0, _, _ => none
  | n + 1, C, e => match e with
    | .Name x _ => if okName x = true then (if visB C.sc x = true then (slot C.N x).map dVar else if (glB C.sc x && memS bltNames x) = true then (tyFind tyNames x).map fun T => dLit (.ty T) else none) else none
    | .Constant (.int i) _ _ => some (dLit (.int i))
    | .Constant (.str x) _ _ => some (dLit (.str x))
    | .Constant (.bool b) _ _ => some (dLit (.bl b))
    | .Constant .none _ _ => some (dLit .non)
    | .BinOp a op b _ => (binO op).bind fun o => (comp n C a).bind fun da => (comp n C b).map fun db => dOp (wO o) da db
    | .UnaryOp .USub a _ => (comp n C a).map fun da => dUn (wU oNeg) da
    | .UnaryOp .Not a _ => (comp n C a).map fun da => dNotV da
    | .Compare a [op] [b] _ => if notSet b = true then (cmpO op).bind fun o => (comp n C a).bind fun da => (comp n C b).map fun db => dOp (wO o) da db else none
    | .BoolOp _ [a] _ => comp n C a
    | .BoolOp .And (a :: b :: es) pos => (comp n C a).bind fun da => (comp n C (.BoolOp .And (b :: es) pos)).map fun db => dAndB da db
    | .BoolOp .Or (a :: b :: es) pos => (comp n C a).bind fun da => (comp n C (.BoolOp .Or (b :: es) pos)).map fun db => dOrB da db
    | .IfExp c a b _ => (compT n C c).bind fun dc => (comp n C a).bind fun da => (comp n C b).map fun db => dIfB dc da db
    | .Tuple es _ _ => if decide (es.length ≤ 1000) = true then (compA n C es).map dTup else none
    | .List es _ => if decide (es.length ≤ 1000) = true then (compA n C es).map dLstB else none
    | .Dict [] [] pos => some (if (C.dt.any fun p => p.1 == pos.line && p.2 == pos.col) = true then dNewTB else dNewKB)
    | .Subscript a (.Slice lo hi none _) _ => (comp n C a).bind fun da => (compO n C lo).bind fun dl => (compO n C hi).map fun dh => dSl da dl dh
    | .Subscript a i _ => if notSl i = true then (comp n C a).bind fun da => (comp n C i).map fun di => dOp (wO oIx) da di else none
    | .Call (.Name x _) (e :: es) [] _ => if (okName x && glB C.sc x && (e :: es).all notStar) = true then match lrg C x (e :: es) with
      | some (a, none) => (comp n C a).map dLR1
      | some (a, some b) => (comp n C a).bind fun da => (comp n C b).map fun db => dLR2 da db
      | none => (compA n C (e :: es)).bind fun da =>
        match fiFind C.funs x with
        | some f => some (dCall f.fn da)
        | none => if memS bltNames x = true then (cbFind cbOf x (e :: es).length).map fun c => dCB (wN c.op) da else none else none
    | .Call (.Attribute o m apos) (e :: es) [] cpos => if (baseOk o && (e :: es).all notStar && decide ((e :: es).length < 29) && (apos.endLine == cpos.line)) = true then
        (meFind meOf m).bind fun k => (comp n C o).bind fun d => (compA n C (e :: es)).map fun da => dMe (wM k.op) k.ty d da else none
    | .Call (.Attribute o m apos) [] [] cpos => if (baseOk o && (apos.endLine == cpos.line)) = true then
        (meFind meOf m).bind fun k => (comp n C o).map fun d => dMe (wM k.op) k.ty d aNil else none
    | .ListComp elt [⟨tg, iter, ifs, 0⟩] scope pos => if (C.dl.any fun p => p.1 == pos.line && p.2 == pos.col) = true then (compL n C elt tg iter ifs scope).map dLk else compL n C elt tg iter ifs scope
    | _ => none
def compL : Nat → Ctx → Expr → Expr → Expr → List Expr → Scope → Option Den
  | 0, _, _, _, _, _, _ => none
  | n + 1, C, elt, tg, iter, ifs, scope => (compTg C.N scope tg).bind fun g =>
    if (blkC C.N C.sc scope (ownOf C.N scope.names) && (g.slots.all fun i => natIn (ownIx C.N scope.names) i) && notSet iter) = true then
      (compI n C tg iter).bind fun it => (match ifs with
        | [] => some tYesV
        | [c] => compT n { C with sc := relS scope C.sc } c
        | _ => none).bind fun tt => (comp n { C with sc := relS scope C.sc } elt).map fun d => dLcB it g tt d (ownIx C.N scope.names)
    else none
def compT : Nat → Ctx → Expr → Option DenT
  | 0, _, _ => none
  | n + 1, C, e => match e with
    | .UnaryOp .Not a _ => (compT n C a).map EV.tNot
    | .BoolOp op es pos => compW n C op es
    | .Compare a [op] [b] _ => if notSet b = true then (cmpO op).bind fun o => (comp n C a).bind fun da => (comp n C b).map fun db => tVal (dOp (wO o) da db) else none
    | e => if truOk e = true then (comp n C e).map tTru else none
def compW : Nat → Ctx → BoolOp → List Expr → Option DenT
  | 0, _, _, _ => none
  | n + 1, C, op, es => match es with
    | [a] => compT n C a
    | a :: b :: es => (compT n C a).bind fun ta => (compW n C op (b :: es)).map fun tb => match op with
      | .And => tAndB ta tb
      | .Or => tOrB ta tb
    | [] => none
def compA : Nat → Ctx → List Expr → Option DenA
  | 0, _, _ => none
  | n + 1, C, es => match es with
    | [] => some aNil
    | e :: es => if notStar e = true then (comp n C e).bind fun d => (compA n C es).map fun da => aCons d da else none
def compO : Nat → Ctx → Option Expr → Option DenO
  | 0, _, _ => none
  | n + 1, C, e => match e with
    | none => some pNo
    | some e => (comp n C e).map pSo
def compI : Nat → Ctx → Expr → Expr → Option DenI
  | 0, _, _, _ => none
  | n + 1, C, tg, e => match e with
    | .Call (.Name x p) es [] pos => if (okName x && glB C.sc x && memS itNames x && es.all notStar) = true then
        (match es with
        | [a] => if strEq x "range" = true then (compA n C [a]).map EV.iRng1 else if strEq x "reversed" = true then (comp n C a).map EV.iRev else if (strEq x "enumerate" && isTup tg) = true then (compA n C [a]).map EV.iEnum else none
        | [a, b] => if strEq x "range" = true then (compA n C [a, b]).map EV.iRng2 else if (strEq x "zip" && isTup tg) = true then (compA n C [a, b]).map EV.iZip else none
        | [a, b, c] => if strEq x "range" = true then (compA n C [a, b, c]).map EV.iRng3 else none
        | _ => none) else (comp n C (.Call (.Name x p) es [] pos)).map iVal
    | e => (comp n C e).map iVal
end
end EV

namespace EV
open PySem PySem.Spec PyProof.Rows L2 RZ RT

structure FOk (G : Gc) (X : Cx) (fi : FI) : Prop where
  ex : ∃ f fd ps, X.mg fi.name = some (.ref f) ∧ FnOk X.prog X.w X.K X.mg X.base (L2.CX X.prog X.w) fi.lev f fd ps (SpF G fi.fn) ∧ PySem.W.keepIn X.K (.ref f) = true ∧ Binds X.K fd ps []
  mono : MonoF fi.fn
structure Good (G : Gc) (C : Ctx) (lev : Nat) (X : Cx) : Prop where
  K : X.K = G.K
  calm : X.calm = true
  nd : X.N.Nodup
  N : X.N = C.N
  sc : X.env.scope = C.sc
  room : Room lev X.A
  levs : ∀ fi ∈ C.funs, fi.lev ≤ lev
  blt : ∀ x ∈ bltNames, X.mg x = none
  funs : ∀ fi ∈ C.funs, FOk G X fi
section
variable {G : Gc} {C : Ctx} {lev : Nat} {X : Cx}
theorem Good.hu (g : Good G C lev X) : X.A.units + 65 < cLine := by
  have := g.room.un
  omega
theorem Good.vis (g : Good G C lev X) {x : Str} (h : visB C.sc x = true) : Vis X.env.scope x := by
  unfold visB at h
  rw [g.sc]
  unfold Vis
  rw [lk_eq] at h
  split at h
  · exact .inl (by assumption)
  · exact .inr (.inl (by assumption))
  · exact .inr (.inr (by assumption))
  · cases h
theorem Good.loc (g : Good G C lev X) {x : Str} (h : locB C.sc x = true) : Loc X.env.scope x := by
  unfold locB at h
  rw [g.sc]
  unfold L2.Loc
  rw [lk_eq] at h
  split at h
  · exact .inl (by assumption)
  · exact .inr (by assumption)
  · cases h
theorem Good.gl (g : Good G C lev X) {x : Str} (h : glB C.sc x = true) : Gl X x := by
  unfold glB at h
  rw [lk_eq] at h
  show X.env.scope.names.lookup x = _
  rw [g.sc]
  split at h
  · assumption
  · cases h
theorem okName_d {x : Str} (h : okName x = true) : (x == ("__debug__" : Str)) = false ∧ (x == ("__classdict__" : Str)) = false ∧ x ≠ "__name__" := by
  unfold okName at h
  simp only [Bool.and_eq_true, Bool.not_eq_true'] at h
  refine ⟨strEq_false h.1.1, strEq_false h.1.2, fun e => ?_⟩
  have := strEq_false h.2
  rw [e] at this
  simp at this
theorem Good.blk (g : Good G C lev X) (s : Shared) (H : Hp) (scope : Scope) (Ca : Addr) (cl : List (Str × Addr)) (fp : List Addr) :
    Good G { C with sc := relS scope C.sc } lev (X.blk s H scope (compEnvC scope cl Ca X.env) fp) := by
  refine ⟨g.K, g.calm, g.nd, g.N, ?_, g.room, g.levs, g.blt, fun fi hf => ?_⟩
  · show relabel scope X.env = relS scope C.sc
    rw [← g.sc]
    rfl
  · obtain ⟨e, m⟩ := g.funs fi hf
    exact ⟨e, m⟩
theorem noMarks {e : Expr} (h : notSet e = true) {op : CmpOp} : behindInMarks op e = false := by
  cases e <;> first | rfl | cases h
theorem negS : UnS G oNeg (rU fun i => .int (-i)) := by
  refine ⟨fun x A Q Q' h q => ?_, fun r A H v x Q R p q => ?_⟩
  · unfold oNeg at q ⊢
    split at q
    · exact h _ _ q
    · exact q
  · unfold oNeg at q
    split at q
    · rw [rep_int p]
      exact ⟨_, rfl, kv_int R q⟩
    · exact q.elim
theorem mono_newK : Mono dNewK := fun t A Q Q' E E' h k q => h _ _ q
theorem mono_newT : Mono dNewT := fun t A Q Q' E E' h k q => h _ _ q
theorem se_newK {pos : Pos} : SE G X (.Dict [] [] pos) dNewK := fun W tk => pe_dnewK.wk fun s H Q ⟨r, A, t, R, S, h⟩ => fun p hp => by
  have E := ext_alloc (ho := .dK []) hp (R.fresh hp)
  refine h (r ++ [p]) _ _ E (R.alloc hp ⟨[], upd_same, RKV.nil_iff.mpr rfl⟩) ?_
  simp only [Rep]
  exact ⟨p, by rw [R.len, List.getElem?_append_right (Nat.le_refl _)]; simp, rfl⟩
theorem se_newT {pos : Pos} : SE G X (.Dict [] [] pos) dNewT := fun W tk => pe_dnewT.wk fun s H Q ⟨r, A, t, R, S, h⟩ => fun p hp => by
  have E := ext_alloc (ho := .dT []) hp (R.fresh hp)
  refine h (r ++ [p]) _ _ E (R.alloc hp ⟨[], upd_same, RKV.nil_iff.mpr rfl⟩) ?_
  simp only [Rep]
  exact ⟨p, by rw [R.len, List.getElem?_append_right (Nat.le_refl _)]; simp, rfl⟩
theorem se_cb {a : Expr} {es : List Expr} {x : Str} {p pos : Pos} {o : OpN} {rr : List V → Hp → VK → Prop} {aa : DenA} (h : CbR X x rr) (hs : CbS G o rr) (hg : Gl X x) (hm : X.mg x = none) (ma : MonoA aa) (ha : SA G X (a :: es) aa) (hn : x ≠ "__name__") (hdb : (x == ("__debug__" : Str)) = false)
    (he : starEach (a :: es) X.env = (false, eval a X.env) :: starEach es X.env) (hpl : (backTo pos (starEach es X.env)).any (·.1) = false) : SE G X (.Call (.Name x p) (a :: es) [] pos) (dCB o aa) := fun W tk => by
  rcases h with ⟨id, hv, hc⟩ | ⟨T, hv, hc⟩
  · exact (pe_callB hc hg hm hv (ha W tk) hn hdb he hpl).wk fun s H Q h => cb_red hs ma h
  · exact (pe_callTy hc hg hm hv (ha W tk) hn hdb he hpl).wk fun s H Q h => cb_red hs ma h
theorem se_me {o e : Expr} {es : List Expr} {name : Str} {apos cpos : Pos} {ty : Val → AH → Prop} {op : Val → OpN} {d : Den} {aa : DenA} (hK : X.K = G.K) (k : MtK G X name ty op) (md : Mono d) (ma : MonoA aa) (ho : SE G X o d) (ha : SA G X (e :: es) aa)
    (hbase : attributeBase o name X.env (eval o X.env) = eval o X.env)
    (hfew : ((backTo cpos (starEach (e :: es) X.env)).all (fun x => !x.1) && (backToKw cpos (keywordEach [] X.env)).all (fun x => x.1.isSome)
      && decide ((e :: es).length + ([] : List Keyword).length + (if ([] : List Keyword).isEmpty then 0 else 1) < 30)) = true)
    (hline : (apos.endLine == cpos.line) = true) (hs : starEach (e :: es) X.env = (false, eval e X.env) :: starEach es X.env) (hpl : (backTo cpos (starEach es X.env)).any (·.1) = false) :
    SE G X (.Call (.Attribute o name apos) (e :: es) [] cpos) (dMe op ty d aa) := fun W tk =>
  (pe_bm k.pa k.sl k.td k.mt (ho W tk) (ha W tk) hbase hfew hline hs hpl).wk fun s H Q h => by
    rw [hK]
    exact me_red k.ms k.ht md ma h
theorem se_me0 {o : Expr} {name : Str} {apos cpos : Pos} {ty : Val → AH → Prop} {op : Val → OpN} {d : Den} (hK : X.K = G.K) (k : MtK G X name ty op) (md : Mono d) (ho : SE G X o d)
    (hbase : attributeBase o name X.env (eval o X.env) = eval o X.env) (hline : (apos.endLine == cpos.line) = true) :
    SE G X (.Call (.Attribute o name apos) [] [] cpos) (dMe op ty d aNil) := fun W tk =>
  (pe_bm0 k.pa k.sl k.td k.mt (ho W tk) hbase hline).wk fun s H Q ⟨r, A, t, R, S, h⟩ => by
    rw [hK]
    refine ⟨r, A, t, R, S, md _ _ _ _ _ _ (fun x A1 q r1 H1 xv E1 R1 p1 => ?_) (fun _ _ h => h) h⟩
    exact ⟨k.ht r1 A1 H1 x xv R1 p1 q.1, k.ms.sim r1 A1 H1 x xv [] [] Q R1 p1 (Reps.nil_iff.mpr rfl) (k.ms.mono _ _ _ _ _ (fun v A' h => kv_up E1 h) q.2)⟩
theorem tyFind_mem : ∀ {l : List (Str × String)} {x : Str} {T : String}, tyFind l x = some T → (x, T) ∈ l
  | [], _, _, h => by cases h
  | (y, T') :: l, x, T, h => by
    unfold tyFind at h
    split at h
    · rename_i e
      simp only [Option.some.injEq] at h
      subst h
      rw [strEq_iff.mp e]
      exact List.mem_cons_self
    · exact List.mem_cons_of_mem _ (tyFind_mem h)
theorem ty_boot {x : Str} {T : String} (h : (x, T) ∈ tyNames) : bootBuiltins x = some (.type T) := by
  simp only [tyNames, List.mem_cons, Prod.mk.injEq, List.not_mem_nil, or_false] at h
  rcases h with ⟨rfl, rfl⟩ | ⟨rfl, rfl⟩ | ⟨rfl, rfl⟩ | ⟨rfl, rfl⟩ | ⟨rfl, rfl⟩
  · exact boot_int
  · exact boot_bool
  · exact boot_str
  · exact boot_tuple
  · exact boot_list
theorem ty_blt {x : Str} {T : String} (h : (x, T) ∈ tyNames) : x ∈ bltNames := by
  simp only [tyNames, List.mem_cons, Prod.mk.injEq, List.not_mem_nil, or_false] at h
  rcases h with ⟨rfl, rfl⟩ | ⟨rfl, rfl⟩ | ⟨rfl, rfl⟩ | ⟨rfl, rfl⟩ | ⟨rfl, rfl⟩ <;> simp [bltNames]
theorem natIn_mem {l : List Nat} {i : Nat} (h : natIn l i = true) : i ∈ l := by
  unfold natIn at h
  rw [List.any_eq_true] at h
  obtain ⟨j, hj, e⟩ := h
  simp only [beq_iff_eq] at e
  subst e; exact hj
/-- a comprehension's target -/
theorem locB_blk {scope sc : Scope} {x : Str} (h : locB scope x = true) : (scope.names.lookup x = some .local ∨ scope.names.lookup x = some .cell) ∧ Loc (relS scope sc) x := by
  unfold locB at h
  rw [lk_eq] at h
  split at h
  · rename_i e
    exact ⟨.inl e, .inl (lookup_relS_keep (by decide) e)⟩
  · rename_i e
    exact ⟨.inr e, .inr (lookup_relS_keep (by decide) e)⟩
  · cases h
theorem pg_blk (g : Good G C lev X) {scope : Scope} {s : Shared} {H : Hp} {Ca : Addr} {cl : List (Str × Addr)} {fp : List Addr} {x : Str} {p : Pos} {i : Nat} (h : locB scope x = true) (hi : slot C.N x = some i) :
    PG (X.blk s H scope (compEnvC scope cl Ca X.env) fp) (.Name x p) (L2.gName i) := by
  obtain ⟨h1, h2⟩ := locB_blk (sc := C.sc) h
  have gb := g.blk s H scope Ca cl fp
  refine pg_name gb.nd (by rw [gb.N]; exact slot_ok hi) (by rw [gb.sc]; exact h2) ?_
  rcases h1 with h1 | h1
  · exact .inr (by rw [gb.sc]; exact lookup_relS_keep (by decide) h1)
  · left
    show (scope.names.lookup x == some .cell) = true
    rw [h1]; rfl
theorem pgs_blk (g : Good G C lev X) {scope : Scope} {s : Shared} {H : Hp} {Ca : Addr} {cl : List (Str × Addr)} {fp : List Addr} : ∀ {es : List Expr} {l : List Nat}, tgSlots C.N scope es = some l →
    PGs (X.blk s H scope (compEnvC scope cl Ca X.env) fp) es (gsOf l) ∧ (assignEach es (compEnvC scope cl Ca X.env)).length = l.length ∧ (assignEach es (compEnvC scope cl Ca X.env)).findIdx? (·.1) = none
  | [], l, h => by
    simp only [tgSlots, Option.some.injEq] at h
    subst h
    exact ⟨pgs_nil, rfl, rfl⟩
  | .Name x p :: es, l, h => by
    simp only [tgSlots] at h
    split at h
    · rename_i hl
      simp only [Option.bind_eq_some_iff, Option.map_eq_some_iff] at h
      obtain ⟨i, hi, m, hm, rfl⟩ := h
      obtain ⟨h1, h2, h3⟩ := pgs_blk g hm
      refine ⟨pgs_cons (pg_blk g hl hi) h1 rfl, ?_, ?_⟩
      · show ((false, _) :: assignEach es _).length = _
        rw [List.length_cons, h2]; rfl
      · show ((false, _) :: assignEach es _).findIdx? (·.1) = none
        rw [List.findIdx?_cons]
        simp [h3]
    · cases h
  | .BoolOp _ _ _ :: _, _, h | .NamedExpr _ _ _ :: _, _, h | .BinOp _ _ _ _ :: _, _, h | .UnaryOp _ _ _ :: _, _, h | .Lambda _ _ _ _ :: _, _, h | .IfExp _ _ _ _ :: _, _, h | .Dict _ _ _ :: _, _, h | .Set _ _ _ :: _, _, h
  | .ListComp _ _ _ _ :: _, _, h | .SetComp _ _ _ _ :: _, _, h | .DictComp _ _ _ _ _ :: _, _, h | .GeneratorExp _ _ _ _ :: _, _, h | .Await _ _ :: _, _, h | .Yield _ _ :: _, _, h | .YieldFrom _ _ :: _, _, h | .Compare _ _ _ _ :: _, _, h
  | .Call _ _ _ _ :: _, _, h | .FormattedValue _ _ _ _ :: _, _, h | .JoinedStr _ _ :: _, _, h | .Constant _ _ _ :: _, _, h | .Attribute _ _ _ :: _, _, h | .Subscript _ _ _ :: _, _, h | .Starred _ _ :: _, _, h | .List _ _ :: _, _, h
  | .Tuple _ _ _ :: _, _, h | .Slice _ _ _ _ :: _, _, h => by simp [tgSlots] at h
theorem pgt_blk (g : Good G C lev X) {scope : Scope} {s : Shared} {H : Hp} {Ca : Addr} {cl : List (Str × Addr)} {fp : List Addr} {tg : Expr} {k : Tg} (h : compTg C.N scope tg = some k) :
    PG (X.blk s H scope (compEnvC scope cl Ca X.env) fp) tg (gOf G.K k) := by
  unfold compTg at h
  split at h
  · split at h
    · rename_i hl
      simp only [Option.map_eq_some_iff] at h
      obtain ⟨i, hi, rfl⟩ := h
      exact pg_blk g hl hi
    · cases h
  · simp only [Option.map_eq_some_iff] at h
    obtain ⟨l, hl, rfl⟩ := h
    obtain ⟨h1, h2, h3⟩ := pgs_blk (s := s) (H := H) (Ca := Ca) (cl := cl) (fp := fp) g hl
    rw [← g.K]
    exact pg_tup g.calm h1 h2 h3
  · cases h
/-- all of a comprehension's parts -/
structure LcD (G : Gc) (X : Cx) (elt tg iter : Expr) (ifs : List Expr) (scope : Scope) (own : List (Str × Nat)) (it : DenI) (k : Tg) (tt : DenT) (d : Den) : Prop where
  mi : MonoI it
  mt : MonoT tt
  me : Mono d
  si : SI G X tg iter it
  ok : BlkOk X.N X.env.scope scope own
  sl : ∀ i ∈ k.slots, i ∈ own.map (·.2)
  hg : ∀ (s : Shared) (H : Hp) (C : Addr) (cl : List (Str × Addr)) (fp : List Addr), PG (X.blk s H scope (compEnvC scope cl C X.env) fp) tg (gOf G.K k)
  ht : ∀ (s : Shared) (H : Hp) (C : Addr) (cl : List (Str × Addr)) (fp : List Addr), STs G (X.blk s H scope (compEnvC scope cl C X.env) fp) ifs tt
  he : ∀ (s : Shared) (H : Hp) (C : Addr) (cl : List (Str × Addr)) (fp : List Addr), SE G (X.blk s H scope (compEnvC scope cl C X.env) fp) elt d
  hs : ∀ x, foldedSetIterable iter X.env x = pure x
def bop (op : BoolOp) (a b : DenT) : DenT := match op with
  | .And => tAndB a b
  | .Or => tOrB a b
structure Snd (G : Gc) (n : Nat) : Prop where
  e : ∀ C lev X e d, Good G C lev X → comp n C e = some d → Mono d ∧ SE G X e d
  l : ∀ C lev X elt tg iter ifs scope d, Good G C lev X → compL n C elt tg iter ifs scope = some d → ∃ it k tt d', d = dLcB it k tt d' (ownIx C.N scope.names) ∧ LcD G X elt tg iter ifs scope (ownOf C.N scope.names) it k tt d'
  t : ∀ C lev X e d, Good G C lev X → compT n C e = some d → MonoT d ∧ ST G X e d
  w : ∀ C lev X op es pos d, Good G C lev X → compW n C op es = some d → MonoT d ∧ SW G X (.BoolOp op es pos) d
  a : ∀ C lev X es d, Good G C lev X → compA n C es = some d → MonoA d ∧ LenA d es.length ∧ SA G X es d ∧ es.all notStar = true
  o : ∀ C lev X e d, Good G C lev X → compO n C e = some d → MonoO d ∧ SO G X e d
  i : ∀ C lev X tg e d, Good G C lev X → compI n C tg e = some d → MonoI d ∧ SI G X tg e d
end
theorem lrg_1 {C : Ctx} {x : Str} {es : List Expr} {a : Expr} (h : lrg C x es = some (a, none)) : ∃ p pos, es = [.Call (.Name "range" p) [a] [] pos] ∧ x = "list" ∧ glB C.sc "range" = true ∧ notStar a = true := by
  unfold lrg at h
  split at h
  · split at h
    · rename_i hc
      simp only [Bool.and_eq_true] at hc
      obtain ⟨⟨⟨h1, h2⟩, h3⟩, h4⟩ := hc
      rw [strEq_iff] at h1 h2
      subst h1; subst h2
      simp only [Option.some.injEq, Prod.mk.injEq, and_true] at h
      subst h
      exact ⟨_, _, rfl, rfl, h3, h4⟩
    · cases h
  · split at h
    · simp at h
    · cases h
  · cases h
theorem lrg_2 {C : Ctx} {x : Str} {es : List Expr} {a b : Expr} (h : lrg C x es = some (a, some b)) : ∃ p pos, es = [.Call (.Name "range" p) [a, b] [] pos] ∧ x = "list" ∧ glB C.sc "range" = true ∧ notStar a = true ∧ notStar b = true := by
  unfold lrg at h
  split at h
  · split at h
    · simp at h
    · cases h
  · split at h
    · rename_i hc
      simp only [Bool.and_eq_true] at hc
      obtain ⟨⟨⟨⟨h1, h2⟩, h3⟩, h4⟩, h5⟩ := hc
      rw [strEq_iff] at h1 h2
      subst h1; subst h2
      simp only [Option.some.injEq, Prod.mk.injEq] at h
      obtain ⟨rfl, rfl⟩ := h
      exact ⟨_, _, rfl, rfl, h3, h4, h5⟩
    · cases h
  · cases h
theorem reps_rg {K : PySem.W.Frag} {r : List Addr} {H : Hp} (a b : Int) : Reps K r H (rgL a b) (rgV a b) := by
  unfold rgL rgV
  generalize List.range (b - a).toNat = l
  induction l with
  | nil => simp [Reps]
  | cons x l ih => exact Reps.cons_iff.mpr ⟨_, _, rfl, by simp only [Rep], ih⟩
theorem kv_kA {G : Gc} {r r1 : List Addr} {A1 : AH} {H H1 : Hp} {Q : VK} {vs : List Val} {xs : List V} (E1 : Ext r r1 H H1) (R1 : HRel G.K r1 A1 H1) (p : Reps G.K r1 H1 vs xs) (q : kA A1 (.lst vs) (kv G r H Q)) : ∀ a, H1 a = none → Q (.ref a) (upd H1 a (.lst xs)) := by
  unfold kA at q
  exact kv_lst R1 p (kv_up E1 q)
theorem mono_kA {A : AH} {o : Ob} {Q Q' : VQ} (h : ∀ v A', Q v A' → Q' v A') (q : kA A o Q) : kA A o Q' := by unfold kA at q ⊢; exact h _ _ q
theorem mono_lr1 {d : Den} (md : Mono d) : Mono (dLR1 d) := fun t A Q Q' E E' h k q => md _ _ _ _ _ _ (fun v A1 ⟨j, e, o, q⟩ => ⟨j, e, o, mono_kA h q⟩) k q
theorem mono_lr2 {d e : Den} (md : Mono d) (me : Mono e) : Mono (dLR2 d e) := fun t A Q Q' E E' h k q => md _ _ _ _ _ _ (fun v A1 q => me _ _ _ _ _ _ (fun w A2 ⟨i, j, e, e2, o, q⟩ => ⟨i, j, e, e2, o, mono_kA h q⟩) k q) k q
theorem se_lr1 {G : Gc} {X : Cx} {a : Expr} {d : Den} {p pos p2 pos2 : Pos} (hc : X.calm = true) (hg : Gl X "list") (hm : X.mg "list" = none) (hg2 : Gl X "range") (hm2 : X.mg "range" = none) (md : Mono d) (ha : SE G X a d) (hs : notStar a = true) :
    SE G X (.Call (.Name "list" p) [.Call (.Name "range" p2) [a] [] pos2] [] pos) (dLR1 d) := fun W tk =>
  (pe_listRg hc hg hm (prg_1 hg2 hm2 (ha W tk) (star_cons hs [] _)) rfl).wk fun s H Q ⟨r, A, t, R, S, h⟩ =>
    ⟨r, A, t, R, S, md _ _ _ _ _ _ (fun v A1 ⟨j, e, o, q⟩ r1 H1 x E1 R1 p1 => by
      subst e
      exact ⟨j, rep_int p1, o, kv_kA E1 R1 (reps_rg 0 j) q⟩) (fun _ _ h => h) h⟩
theorem se_lr2 {G : Gc} {X : Cx} {a b : Expr} {d e : Den} {p pos p2 pos2 : Pos} (hc : X.calm = true) (hg : Gl X "list") (hm : X.mg "list" = none) (hg2 : Gl X "range") (hm2 : X.mg "range" = none) (md : Mono d) (me : Mono e) (ha : SE G X a d) (hb : SE G X b e) (hs : notStar a = true) (hs2 : notStar b = true) :
    SE G X (.Call (.Name "list" p) [.Call (.Name "range" p2) [a, b] [] pos2] [] pos) (dLR2 d e) := fun W tk =>
  (pe_listRg hc hg hm (prg_2 hg2 hm2 (ha W tk) (hb W tk) (star_cons hs [b] _) (star_cons hs2 [] _) (by rw [star_cons hs2]; rfl)) rfl).wk fun s H Q ⟨r, A, t, R, S, h⟩ =>
    ⟨r, A, t, R, S, md _ _ _ _ _ _ (fun v A1 q r1 H1 x E1 R1 p1 => ⟨r1, A1, t, R1, S.ext R E1, me _ _ _ _ _ _ (fun w A2 ⟨i, j, e1, e2, o, q2⟩ r2 H2 y E2 R2 p2 => by
      subst e1; subst e2
      exact ⟨i, j, rep_int (Rep.ext R1 E2 _ _ p1), rep_int p2, o, kv_kA (E1.trans E2) R2 (reps_rg i j) q2⟩) (fun e A h => kx_up E1 h) q⟩) (fun _ _ h => h) h⟩
theorem snd_e {G : Gc} {n : Nat} (ih : Snd G n) (C : Ctx) (lev : Nat) (X : Cx) (e : Expr) (d : Den) (g : Good G C lev X) (h : comp (n + 1) C e = some d) : Mono d ∧ SE G X e d := by
  unfold comp at h
  split at h
  · -- Name
    split at h
    · rename_i hn
      obtain ⟨n1, n2, n3⟩ := okName_d hn
      split at h
      · rename_i hv
        simp only [Option.map_eq_some_iff] at h
        obtain ⟨i, hi, rfl⟩ := h
        exact ⟨mono_var i, se_var (by rw [g.N]; exact slot_ok hi) (g.vis hv) n1 n2⟩
      · split at h
        · rename_i hv
          simp only [Bool.and_eq_true] at hv
          simp only [Option.map_eq_some_iff] at h
          obtain ⟨T, hT, rfl⟩ := h
          have hm := tyFind_mem hT
          exact ⟨mono_lit _, se_lit (pe_bltn (g.gl hv.1) (g.blt _ (ty_blt hm)) (ty_boot hm) (v := .ty T) rfl n3 n1) fun r H => by simp only [Rep]⟩
        · cases h
    · cases h
  · simp only [Option.some.injEq] at h; subst h; exact ⟨mono_lit _, se_lit pe_int fun r H => by simp only [Rep]⟩
  · simp only [Option.some.injEq] at h; subst h; exact ⟨mono_lit _, se_lit pe_str fun r H => by simp only [Rep]⟩
  · simp only [Option.some.injEq] at h; subst h; exact ⟨mono_lit _, se_lit pe_bl fun r H => by simp only [Rep]⟩
  · simp only [Option.some.injEq] at h; subst h; exact ⟨mono_lit _, se_lit pe_non fun r H => by simp only [Rep]⟩
  · -- BinOp
    simp only [Option.bind_eq_some_iff, Option.map_eq_some_iff] at h
    obtain ⟨o, ho, da, ha, db, hb, rfl⟩ := h
    obtain ⟨rr, h1, h2⟩ := bin_ok g.K ho
    obtain ⟨ma, sa⟩ := ih.e _ _ _ _ _ g ha
    obtain ⟨mb, sb⟩ := ih.e _ _ _ _ _ g hb
    exact ⟨mono_op h2.w.mono ma mb, se_op h1 h2.w ma mb sa sb⟩
  · simp only [Option.map_eq_some_iff] at h
    obtain ⟨da, ha, rfl⟩ := h
    obtain ⟨ma, sa⟩ := ih.e _ _ _ _ _ g ha
    exact ⟨mono_un (negS (G := G)).w.mono ma, se_un un_neg negS.w ma sa⟩
  · simp only [Option.map_eq_some_iff] at h
    obtain ⟨da, ha, rfl⟩ := h
    obtain ⟨ma, sa⟩ := ih.e _ _ _ _ _ g ha
    exact ⟨mono_notv ma, se_not g.K ma sa⟩
  · -- Compare
    split at h
    · rename_i hs
      simp only [Option.bind_eq_some_iff, Option.map_eq_some_iff] at h
      obtain ⟨o, ho, da, ha, db, hb, rfl⟩ := h
      obtain ⟨rr, h1, h2⟩ := cmp_ok g.K g.hu ho
      obtain ⟨ma, sa⟩ := ih.e _ _ _ _ _ g ha
      obtain ⟨mb, sb⟩ := ih.e _ _ _ _ _ g hb
      exact ⟨mono_op h2.w.mono ma mb, se_cmp h1 h2.w ma mb sa sb (noMarks hs)⟩
    · cases h
  · obtain ⟨ma, sa⟩ := ih.e _ _ _ _ _ g h
    exact ⟨ma, se_one sa⟩
  · simp only [Option.bind_eq_some_iff, Option.map_eq_some_iff] at h
    obtain ⟨da, ha, db, hb, rfl⟩ := h
    obtain ⟨ma, sa⟩ := ih.e _ _ _ _ _ g ha
    obtain ⟨mb, sb⟩ := ih.e _ _ _ _ _ g hb
    rw [dAndB_eq]; exact ⟨mono_andv ma mb, se_and g.K ma mb sa sb⟩
  · simp only [Option.bind_eq_some_iff, Option.map_eq_some_iff] at h
    obtain ⟨da, ha, db, hb, rfl⟩ := h
    obtain ⟨ma, sa⟩ := ih.e _ _ _ _ _ g ha
    obtain ⟨mb, sb⟩ := ih.e _ _ _ _ _ g hb
    rw [dOrB_eq]; exact ⟨mono_orv ma mb, se_or g.K ma mb sa sb⟩
  · simp only [Option.bind_eq_some_iff, Option.map_eq_some_iff] at h
    obtain ⟨dc, hc, da, ha, db, hb, rfl⟩ := h
    obtain ⟨mc, sc⟩ := ih.t _ _ _ _ _ g hc
    obtain ⟨ma, sa⟩ := ih.e _ _ _ _ _ g ha
    obtain ⟨mb, sb⟩ := ih.e _ _ _ _ _ g hb
    rw [dIfB_eq]; exact ⟨mono_if mc ma mb, se_if mc sc sa sb ma mb⟩
  · split at h
    · rename_i hl
      simp only [Option.map_eq_some_iff] at h
      obtain ⟨da, ha, rfl⟩ := h
      obtain ⟨ma, la, sa, _⟩ := ih.a _ _ _ _ _ g ha
      exact ⟨mono_tup ma, se_tup ma la (of_decide_eq_true hl) sa⟩
    · cases h
  · split at h
    · rename_i hl
      simp only [Option.map_eq_some_iff] at h
      obtain ⟨da, ha, rfl⟩ := h
      obtain ⟨ma, la, sa, _⟩ := ih.a _ _ _ _ _ g ha
      rw [dLstB_eq]; exact ⟨mono_lst ma, se_lst ma la (of_decide_eq_true hl) sa⟩
    · cases h
  · simp only [Option.some.injEq] at h
    subst h
    split
    · rw [dNewTB_eq]; exact ⟨mono_newT, se_newT⟩
    · rw [dNewKB_eq]; exact ⟨mono_newK, se_newK⟩
  · -- slices
    simp only [Option.bind_eq_some_iff, Option.map_eq_some_iff] at h
    obtain ⟨da, ha, dl, hl, dh, hh, rfl⟩ := h
    obtain ⟨ma, sa⟩ := ih.e _ _ _ _ _ g ha
    obtain ⟨ml, sl⟩ := ih.o _ _ _ _ _ g hl
    obtain ⟨mh, sh⟩ := ih.o _ _ _ _ _ g hh
    exact ⟨mono_sl ma ml mh, se_sl g.K ma ml mh sa sl sh⟩
  · split at h
    · rename_i hs
      simp only [Option.bind_eq_some_iff, Option.map_eq_some_iff] at h
      obtain ⟨da, ha, di, hi, rfl⟩ := h
      obtain ⟨ma, sa⟩ := ih.e _ _ _ _ _ g ha
      obtain ⟨mi, si⟩ := ih.e _ _ _ _ _ g hi
      have hix := ix_all (X := X) (Nat.lt_of_le_of_lt (Nat.add_le_add_left (by decide : 1 ≤ 65) _) g.hu)
      rw [g.K] at hix
      exact ⟨mono_op (ixS (G := G)).w.mono ma mi, se_ix hix ixS.w ma mi sa si (plainIx_of hs)⟩
    · cases h
  · -- calls
    split at h
    · rename_i hc
      simp only [Bool.and_eq_true] at hc
      obtain ⟨⟨hn, hg⟩, hst⟩ := hc
      obtain ⟨n1, n2, n3⟩ := okName_d hn
      split at h
      · rename_i a' hl
        obtain ⟨p, pos, e1, rfl, hr, hs'⟩ := lrg_1 hl
        cases e1
        simp only [Option.map_eq_some_iff] at h
        obtain ⟨da, ha, rfl⟩ := h
        obtain ⟨ma, sa⟩ := ih.e _ _ _ _ _ g ha
        exact ⟨mono_lr1 ma, se_lr1 g.calm (g.gl hg) (g.blt _ (by simp [bltNames])) (g.gl hr) (g.blt _ (by simp [bltNames])) ma sa hs'⟩
      · rename_i a' b' hl
        obtain ⟨p, pos, e1, rfl, hr, hs', hs''⟩ := lrg_2 hl
        cases e1
        simp only [Option.bind_eq_some_iff, Option.map_eq_some_iff] at h
        obtain ⟨da, ha, db, hb, rfl⟩ := h
        obtain ⟨ma, sa⟩ := ih.e _ _ _ _ _ g ha
        obtain ⟨mb, sb⟩ := ih.e _ _ _ _ _ g hb
        exact ⟨mono_lr2 ma mb, se_lr2 g.calm (g.gl hg) (g.blt _ (by simp [bltNames])) (g.gl hr) (g.blt _ (by simp [bltNames])) ma mb sa sb hs' hs''⟩
      simp only [Option.bind_eq_some_iff] at h
      obtain ⟨da, ha, h⟩ := h
      obtain ⟨ma, la, sa, _⟩ := ih.a _ _ _ _ _ g ha
      simp only [List.all_cons, Bool.and_eq_true] at hst
      split at h
      · rename_i f hf
        simp only [Option.some.injEq] at h
        subst h
        obtain ⟨fm, rfl⟩ := fiFind_mem hf
        obtain ⟨⟨fa, fd, ps, hm, F, hk, hb⟩, mf⟩ := g.funs _ fm
        exact ⟨mono_call mf ma, se_call F (g.room.mono (g.levs _ fm)) (g.gl hg) hm hk hb mf ma sa n1 (star_cons hst.1 _ _) (plain_any hst.2 _ _)⟩
      · split at h
        · rename_i hb
          simp only [Option.map_eq_some_iff] at h
          obtain ⟨c, hcb, rfl⟩ := h
          have hx := cbFind_name hcb
          obtain ⟨rr, h1, h2⟩ := cb_ok (G := G) g.K g.calm g.hu c
          rw [← hx] at h1
          exact ⟨mono_cb h2.w.mono ma, se_cb h1 h2.w (g.gl hg) (g.blt _ (memS_iff hb)) ma sa n3 n1 (star_cons hst.1 _ _) (plain_any hst.2 _ _)⟩
        · cases h
    · cases h
  · -- methods
    split at h
    · rename_i hc
      simp only [Bool.and_eq_true] at hc
      obtain ⟨⟨⟨hb, hst⟩, hl⟩, hln⟩ := hc
      simp only [Option.bind_eq_some_iff, Option.map_eq_some_iff] at h
      obtain ⟨k, hk, d0, hd, da, ha, rfl⟩ := h
      obtain ⟨md, sd⟩ := ih.e _ _ _ _ _ g hd
      obtain ⟨ma, la, sa, _⟩ := ih.a _ _ _ _ _ g ha
      obtain ⟨mk0⟩ := me_ok (G := G) g.K g.hu k
      obtain ⟨mk⟩ := mk0.w0
      rw [← meFind_name hk] at mk
      have hst' := hst
      simp only [List.all_cons, Bool.and_eq_true] at hst'
      exact ⟨mono_me mk.ms.mono md ma, se_me g.K mk md ma sd sa (base_of hb _ _) (few_of hst (of_decide_eq_true hl) _ _) hln (star_cons hst'.1 _ _) (plain_any hst'.2 _ _)⟩
    · cases h
  · split at h
    · rename_i hc
      simp only [Bool.and_eq_true] at hc
      simp only [Option.bind_eq_some_iff, Option.map_eq_some_iff] at h
      obtain ⟨k, hk, d0, hd, rfl⟩ := h
      obtain ⟨md, sd⟩ := ih.e _ _ _ _ _ g hd
      obtain ⟨mk0⟩ := me_ok (G := G) g.K g.hu k
      obtain ⟨mk⟩ := mk0.w0
      rw [← meFind_name hk] at mk
      exact ⟨mono_me mk.ms.mono md mono_nil, se_me0 g.K mk md sd (base_of hc.1 _ _) hc.2⟩
    · cases h
  · split at h
    · simp only [Option.map_eq_some_iff] at h
      obtain ⟨d0, h, rfl⟩ := h
      obtain ⟨it, k, tt, d', rfl, L⟩ := ih.l _ _ _ _ _ _ _ _ _ g h
      rw [dLcB_eq]
      have mm := mono_lc (it := it) (tg := k) (tt := tt) (e := d') (vs := ownIx C.N ‹Scope›.names) L.mi L.mt L.me
      exact ⟨mono_dlk mm, se_lk mm (se_lc g.K g.calm g.nd L.mi L.mt L.me L.si L.ok L.sl L.hg L.ht L.he L.hs)⟩
    obtain ⟨it, k, tt, d', rfl, L⟩ := ih.l _ _ _ _ _ _ _ _ _ g h
    rw [dLcB_eq]; exact ⟨mono_lc L.mi L.mt L.me, se_lc g.K g.calm g.nd L.mi L.mt L.me L.si L.ok L.sl L.hg L.ht L.he L.hs⟩
  · cases h
section
variable {G : Gc} {n : Nat}
theorem snd_t (ih : Snd G n) (C : Ctx) (lev : Nat) (X : Cx) (e : Expr) (d : DenT) (g : Good G C lev X) (h : compT (n + 1) C e = some d) : MonoT d ∧ ST G X e d := by
  unfold compT at h
  split at h
  · simp only [Option.map_eq_some_iff] at h
    obtain ⟨da, ha, rfl⟩ := h
    obtain ⟨ma, sa⟩ := ih.t _ _ _ _ _ g ha
    exact ⟨mono_tnot ma, st_not ma sa⟩
  · obtain ⟨ma, sa⟩ := ih.w _ _ _ _ _ _ _ g h
    exact ⟨ma, st_bool sa⟩
  · split at h
    · rename_i hs
      simp only [Option.bind_eq_some_iff, Option.map_eq_some_iff] at h
      obtain ⟨o, ho, da, ha, db, hb, rfl⟩ := h
      obtain ⟨rr, h1, h2⟩ := cmp_ok g.K g.hu ho
      obtain ⟨ma, sa⟩ := ih.e _ _ _ _ _ g ha
      obtain ⟨mb, sb⟩ := ih.e _ _ _ _ _ g hb
      exact ⟨mono_tval (mono_op h2.w.mono ma mb), st_cmp h1 h2.w ma mb sa sb (noMarks hs)⟩
    · cases h
  · split at h
    · rename_i ht
      simp only [Option.map_eq_some_iff] at h
      obtain ⟨da, ha, rfl⟩ := h
      obtain ⟨ma, sa⟩ := ih.e _ _ _ _ _ g ha
      exact ⟨mono_ttru ma, st_tru g.K ma sa (isTrue_of ht _)⟩
    · cases h
theorem snd_w (ih : Snd G n) (C : Ctx) (lev : Nat) (X : Cx) (op : BoolOp) (es : List Expr) (pos : Pos) (d : DenT) (g : Good G C lev X) (h : compW (n + 1) C op es = some d) : MonoT d ∧ SW G X (.BoolOp op es pos) d := by
  unfold compW at h
  split at h
  · obtain ⟨ma, sa⟩ := ih.t _ _ _ _ _ g h
    cases op with
    | And => exact ⟨ma, sw_one_and sa⟩
    | Or => exact ⟨ma, sw_one_or sa⟩
  · simp only [Option.bind_eq_some_iff, Option.map_eq_some_iff] at h
    obtain ⟨da, ha, db, hb, rfl⟩ := h
    obtain ⟨ma, sa⟩ := ih.t _ _ _ _ _ g ha
    obtain ⟨mb, sb⟩ := ih.w _ _ _ _ _ pos _ g hb
    cases op with
    | And => simp only []; rw [tAndB_eq]; exact ⟨mono_tand ma mb, sw_and ma mb sa sb⟩
    | Or => simp only []; rw [tOrB_eq]; exact ⟨mono_tor ma mb, sw_or ma mb sa sb⟩
  · cases h
theorem snd_a (ih : Snd G n) (C : Ctx) (lev : Nat) (X : Cx) (es : List Expr) (d : DenA) (g : Good G C lev X) (h : compA (n + 1) C es = some d) : MonoA d ∧ LenA d es.length ∧ SA G X es d ∧ es.all notStar = true := by
  unfold compA at h
  split at h
  · simp only [Option.some.injEq] at h
    subst h
    exact ⟨mono_nil, len_nil, sa_nil, rfl⟩
  · split at h
    · rename_i hs
      simp only [Option.bind_eq_some_iff, Option.map_eq_some_iff] at h
      obtain ⟨da, ha, db, hb, rfl⟩ := h
      obtain ⟨ma, sa⟩ := ih.e _ _ _ _ _ g ha
      obtain ⟨mb, lb, sb, ab⟩ := ih.a _ _ _ _ _ g hb
      exact ⟨mono_cons ma mb, len_cons ma mb lb, sa_cons ma mb sa sb (star_cons hs _ _), by rw [List.all_cons, hs, ab]; rfl⟩
    · cases h
theorem snd_o (ih : Snd G n) (C : Ctx) (lev : Nat) (X : Cx) (e : Option Expr) (d : DenO) (g : Good G C lev X) (h : compO (n + 1) C e = some d) : MonoO d ∧ SO G X e d := by
  unfold compO at h
  split at h
  · simp only [Option.some.injEq] at h
    subst h
    exact ⟨mono_pno, so_none⟩
  · simp only [Option.map_eq_some_iff] at h
    obtain ⟨da, ha, rfl⟩ := h
    obtain ⟨ma, sa⟩ := ih.e _ _ _ _ _ g ha
    exact ⟨mono_pso ma, so_some ma sa⟩
theorem star1 {a : Expr} (h : notStar a = true) (env : PySem.Env) : starEach [a] env = [(false, eval a env)] := star_cons h [] env
theorem snd_i (ih : Snd G n) (C : Ctx) (lev : Nat) (X : Cx) (tg e : Expr) (d : DenI) (g : Good G C lev X) (h : compI (n + 1) C tg e = some d) : MonoI d ∧ SI G X tg e d := by
  unfold compI at h
  split at h
  · split at h
    · rename_i hc
      simp only [Bool.and_eq_true] at hc
      obtain ⟨⟨⟨hn, hg⟩, hi⟩, hst⟩ := hc
      split at h
      · simp only [List.all_cons, Bool.and_eq_true] at hst
        split at h
        · rename_i e1
          rw [strEq_iff] at e1; subst e1
          simp only [Option.map_eq_some_iff] at h
          obtain ⟨da, ha, rfl⟩ := h
          obtain ⟨ma, la, sa, _⟩ := ih.a _ _ _ _ _ g ha
          exact ⟨mono_irng1 ma, si_rng1 (g.gl hg) (g.blt _ (by simp [bltNames])) ma sa (star1 hst.1 _)⟩
        · split at h
          · rename_i e1
            rw [strEq_iff] at e1; subst e1
            simp only [Option.map_eq_some_iff] at h
            obtain ⟨da, ha, rfl⟩ := h
            obtain ⟨ma, sa⟩ := ih.e _ _ _ _ _ g ha
            exact ⟨mono_irev ma, si_rev g.K (g.gl hg) (g.blt _ (by simp [bltNames])) ma sa (star_cons hst.1 _ _)⟩
          · split at h
            · rename_i e1
              simp only [Bool.and_eq_true] at e1
              obtain ⟨e1, e2⟩ := e1
              rw [strEq_iff] at e1; subst e1
              simp only [Option.map_eq_some_iff] at h
              obtain ⟨da, ha, rfl⟩ := h
              obtain ⟨ma, la, sa, _⟩ := ih.a _ _ _ _ _ g ha
              cases tg <;> first | (exact ⟨mono_ienum ma, si_enum g.K (g.gl hg) (g.blt _ (by simp [bltNames])) ma sa (star1 hst.1 _)⟩) | (simp [isTup] at e2)
            · cases h
      · simp only [List.all_cons, Bool.and_eq_true] at hst
        split at h
        · rename_i e1
          rw [strEq_iff] at e1; subst e1
          simp only [Option.map_eq_some_iff] at h
          obtain ⟨da, ha, rfl⟩ := h
          obtain ⟨ma, la, sa, _⟩ := ih.a _ _ _ _ _ g ha
          exact ⟨mono_irng2 ma, si_rng2 (g.gl hg) (g.blt _ (by simp [bltNames])) ma sa (by rw [star_cons hst.1, star1 hst.2.1]) (star1 hst.2.1 _)⟩
        · split at h
          · rename_i e1
            simp only [Bool.and_eq_true] at e1
            obtain ⟨e1, e2⟩ := e1
            rw [strEq_iff] at e1; subst e1
            simp only [Option.map_eq_some_iff] at h
            obtain ⟨da, ha, rfl⟩ := h
            obtain ⟨ma, la, sa, _⟩ := ih.a _ _ _ _ _ g ha
            cases tg <;> first | (exact ⟨mono_izip ma, si_zip g.K (g.gl hg) (g.blt _ (by simp [bltNames])) ma sa (star_cons hst.1 _ _) (plain_any (by simp [hst.2.1]) _ _)⟩) | (simp [isTup] at e2)
          · cases h
      · simp only [List.all_cons, Bool.and_eq_true] at hst
        split at h
        · rename_i e1
          rw [strEq_iff] at e1; subst e1
          simp only [Option.map_eq_some_iff] at h
          obtain ⟨da, ha, rfl⟩ := h
          obtain ⟨ma, la, sa, _⟩ := ih.a _ _ _ _ _ g ha
          exact ⟨mono_irng3 ma, si_rng3 (g.gl hg) (g.blt _ (by simp [bltNames])) ma sa (star_cons hst.1 _ _) (plain_any (by simp [hst.2.1, hst.2.2.1]) _ _)⟩
        · cases h
      · cases h
    · simp only [Option.map_eq_some_iff] at h
      obtain ⟨da, ha, rfl⟩ := h
      obtain ⟨ma, sa⟩ := ih.e _ _ _ _ _ g ha
      exact ⟨mono_ival ma, si_val g.K ma sa⟩
  · simp only [Option.map_eq_some_iff] at h
    obtain ⟨da, ha, rfl⟩ := h
    obtain ⟨ma, sa⟩ := ih.e _ _ _ _ _ g ha
    exact ⟨mono_ival ma, si_val g.K ma sa⟩
theorem snd_l (ih : Snd G n) (C : Ctx) (lev : Nat) (X : Cx) (elt tg iter : Expr) (ifs : List Expr) (scope : Scope) (d : Den) (g : Good G C lev X) (h : compL (n + 1) C elt tg iter ifs scope = some d) :
    ∃ it k tt d', d = dLcB it k tt d' (ownIx C.N scope.names) ∧ LcD G X elt tg iter ifs scope (ownOf C.N scope.names) it k tt d' := by
  unfold compL at h
  simp only [Option.bind_eq_some_iff] at h
  obtain ⟨k, hk, h⟩ := h
  split at h
  · rename_i hc
    simp only [Bool.and_eq_true] at hc
    obtain ⟨⟨hb, hs⟩, hset⟩ := hc
    simp only [Option.bind_eq_some_iff, Option.map_eq_some_iff] at h
    obtain ⟨it, hit, tt, htt, d', hd, rfl⟩ := h
    obtain ⟨mi, si⟩ := ih.i _ _ _ _ _ _ g hit
    have gb := fun s H Ca cl fp => g.blk s H scope Ca cl fp
    have he : Mono d' ∧ ∀ (s : Shared) (H : Hp) (Ca : Addr) (cl : List (Str × Addr)) (fp : List Addr), SE G (X.blk s H scope (compEnvC scope cl Ca X.env) fp) elt d' :=
      ⟨(ih.e _ _ _ _ _ (gb X.s_0 X.H_0 0 [] []) hd).1, fun s H Ca cl fp => (ih.e _ _ _ _ _ (gb s H Ca cl fp) hd).2⟩
    have ht : MonoT tt ∧ ∀ (s : Shared) (H : Hp) (Ca : Addr) (cl : List (Str × Addr)) (fp : List Addr), STs G (X.blk s H scope (compEnvC scope cl Ca X.env) fp) ifs tt := by
      split at htt
      · simp only [Option.some.injEq] at htt
        subst htt
        exact ⟨mono_yes, fun s H Ca cl fp => sts_nil⟩
      · exact ⟨(ih.t _ _ _ _ _ (gb X.s_0 X.H_0 0 [] []) htt).1, fun s H Ca cl fp => sts_one (ih.t _ _ _ _ _ (gb s H Ca cl fp) htt).2⟩
      · cases htt
    refine ⟨it, k, tt, d', rfl, mi, ht.1, he.1, si, ?_, fun i hi => ?_, fun s H Ca cl fp => pgt_blk g hk, ht.2, he.2, noFold hset _⟩
    · rw [g.N, g.sc]
      exact blkOk_by hb
    · rw [List.all_eq_true] at hs
      exact natIn_mem (hs i hi)
  · cases h
theorem snd : ∀ n, Snd G n
  | 0 => ⟨fun _ _ _ _ _ _ h => (by unfold comp at h; cases h), fun _ _ _ _ _ _ _ _ _ _ h => (by unfold compL at h; cases h), fun _ _ _ _ _ _ h => (by unfold compT at h; cases h), fun _ _ _ _ _ _ _ _ h => (by unfold compW at h; cases h),
      fun _ _ _ _ _ _ h => (by unfold compA at h; cases h), fun _ _ _ _ _ _ h => (by unfold compO at h; cases h), fun _ _ _ _ _ _ _ h => (by unfold compI at h; cases h)⟩
  | n + 1 => ⟨snd_e (snd n), snd_l (snd n), snd_t (snd n), snd_w (snd n), snd_a (snd n), snd_o (snd n), snd_i (snd n)⟩
end
end EV

namespace EV
open PySem PySem.Spec PyProof.Rows L2 RZ RT

def isTL : Expr → Bool
  | .Tuple _ _ _ => true
  | .List _ _ => true
  | _ => false
theorem noStores {tg e : Expr} (h : (isTL tg && isTup e) = false) (env : PySem.Env) : swappedStores [tg] e env = pure none := by
  cases tg <;> first
    | rfl
    | (cases e <;> first | rfl | (simp [isTL, isTup] at h))
theorem asgSub_of {i : Expr} (h : notSl i = true) (o : Expr) (pos : Pos) (env : PySem.Env) : ∀ v, assign (.Subscript o i pos) env v = (do
      let ov ← holding [v] (eval o env)
      let iv ← holding [v, ov] (eval i env)
      standAt pos
      holding [v, ov, iv] (setItem ov iv v)
      release [v, ov, iv] []) := fun v => by
  cases i <;> first | rfl | cases h
def isName : Expr → Bool
  | .Name _ _ => true
  | _ => false
theorem noSwap_tg {tg : Expr} (h : isName tg = false) (e : Expr) (l : Nat) (env : PySem.Env) : swapsWith e (some tg) l env = pure false := by
  by_cases hc : notComp e = true
  · exact noSwap hc _ _ _
  · cases e <;> first | (exact absurd rfl hc) | (cases tg <;> first | rfl | cases h)
theorem noSwap_cell {x : Str} {p : Pos} (e : Expr) (l : Nat) (env : PySem.Env) (h : (env.kindOf x == some .local) = false) : swapsWith e (some (.Name x p)) l env = pure false := by
  by_cases hc : notComp e = true
  · exact noSwap hc _ _ _
  · cases e <;> first | (exact absurd rfl hc) | (unfold swapsWith; simp only [h]; simp)
theorem swapped2 {x y : Str} {px py pt : Pos} {kt k2 : Nat} {pt2 : Pos} {a b : Expr} {env : PySem.Env} (hbk : env.blockKind = .function) (hx : env.kindOf x = some .local) (hy : env.kindOf y = some .local) (hl : py.line = px.line) (hne : x ≠ y)
    (h1 : notStar a = true) (h2 : notStar b = true) (hf : [a, b].all (foldedForSure 8) = false) (hc : [a, b].all (constantsAlone 8) = false) :
    swappedStores [.Tuple [.Name x px, .Name y py] kt pt] (.Tuple [a, b] k2 pt2) env = pure (some [x, y]) := by
  have ed : [x, y].eraseDups.length = 2 := by
    have : (y == x) = false := by simpa using hne.symm
    simp [List.eraseDups_cons, this]
  unfold swappedStores
  simp only [List.length_cons, List.length_nil, hbk, hf, hc, List.filterMap_cons, List.filterMap_nil, hx, hy, Expr.pos, List.head?_cons, Option.map_some, Option.getD_some, hl, List.any_cons, List.any_nil]
  simp [ed]
  intro h
  exfalso
  rcases h with h | h
  · cases a <;> first | (cases h; done) | (cases h1; done)
  · cases b <;> first | (cases h; done) | (cases h2; done)
def kindF (sc : Scope) : Bool := match sc.kind with
  | .function => true
  | _ => false
mutual
def compG : Nat → Ctx → Expr → Option DenG
  | 0, _, _ => none
  | n + 1, C, e => match e with
    | .Name x _ => if locB C.sc x = true then (slot C.N x).map gNameB else none
    | .Tuple es _ _ => (compGs n C es).map fun g => EV.gTup es.length g
    | .Subscript o i _ => if notSl i = true then (comp n C o).bind fun d => (comp n C i).map fun di => EV.gSub d di (wT oSet) else none
    | _ => none
def compGs : Nat → Ctx → List Expr → Option DenGs
  | 0, _, _ => none
  | n + 1, C, es => match es with
    | [] => some gsNil
    | e :: es => if notStar e = true then (compG n C e).bind fun g => (compGs n C es).map fun gs => gsCons g gs else none
end
mutual
def compS : Nat → Ctx → Stmt → Option DenS
  | 0, _, _ => none
  | n + 1, C, st => match st with
    | .Assign [.Name y py] (.ListComp elt [⟨tg, iter, ifs, 0⟩] scope pos) _ =>
      if locOnly C.sc y = true then
        (if (kindF C.sc && (py.line == pos.line) && !(scope.names.any fun (n, k) => n == y && (k == .local || k == .cell))) = true then
          (slot C.N y).bind fun i => (compL n C elt tg iter ifs scope).map fun d => sAsg d (gNameB i) else none)
      else (compG n C (.Name y py)).bind fun g => (compL n C elt tg iter ifs scope).map fun d => sAsg d g
    | .Assign [.Tuple [.Name x px, .Name y py] _ _] (.Tuple [a, b] _ _) _ =>
      if (locOnly C.sc x && locOnly C.sc y && kindF C.sc && (py.line == px.line) && !(strEq x y) && notStar a && notStar b && !([a, b].all (foldedForSure 8)) && !([a, b].all (constantsAlone 8))) = true then
        (slot C.N x).bind fun i => (slot C.N y).bind fun j => (compA n C [a, b]).bind fun d => if (i == j) = true then none else some (sParB i j d) else none
    | .Assign [tg] e _ => if (notStar tg && (notComp e || !(isName tg)) && !(isTL tg && isTup e)) = true then (comp n C e).bind fun d => (compG n C tg).map fun g => sAsg d g else none
    | .AugAssign (.Name x _) .Add e _ => if locB C.sc x = true then (slot C.N x).bind fun i => (comp n C e).map fun d => sAugB i (wO (oInt (· + ·))) d else none
    | .AugAssign (.Name x _) .Sub e _ => if locB C.sc x = true then (slot C.N x).bind fun i => (comp n C e).map fun d => sAugB i (wO (oInt (· - ·))) d else none
    | .Expr e _ => if notComp e = true then (comp n C e).map sExpr else none
    | .Return (some e) _ => (comp n C e).map sRet
    | .Return none _ => some sRetN
    | .If c a b _ => (compT n C c).bind fun t => (compSs n C a).bind fun da => (compSs n C b).map fun db => sIfB t da db
    | .While c b [] _ => (compT n C c).bind fun t => (compSs n C b).map fun d => sWhileB t d
    | .For tg e b [] pos => if notSet e = true then (compI n C tg e).bind fun it => (compG n C tg).bind fun g => (compSs n C b).map fun d => if (C.dl.any fun p => p.1 == pos.line && p.2 == pos.col) = true then sLk (sForB it g d) else sForB it g d else none
    | .Pass _ => some sSkip
    | .Break _ => some sBreak
    | .Continue _ => some sCont
    | _ => none
def compSs : Nat → Ctx → List Stmt → Option DenS
  | 0, _, _ => none
  | n + 1, C, sts => match sts with
    | [] => some sSkip
    | s :: ss => (compS n C s).bind fun a => (compSs n C ss).map fun b => sSeqB a b
end
structure GoodS (G : Gc) (C : Ctx) (lev : Nat) (X : Cx) : Prop where
  g : Good G C lev X
  fn : ∀ x, X.fn x = true
  own : PassesOwn (model X.prog X.w) X.A X.env X.xe
section
variable {G : Gc} {C : Ctx} {lev : Nat} {X : Cx}
theorem locOnly_ok {sc : Scope} {x : Str} (h : locOnly sc x = true) : sc.names.lookup x = some .local := by
  unfold locOnly at h
  rw [lk_eq] at h
  split at h
  · assumption
  · cases h
theorem locOnly_no {sc : Scope} {x : Str} (h : ¬ locOnly sc x = true) : (sc.names.lookup x == some .local) = false := by
  unfold locOnly at h
  rw [lk_eq] at h
  split at h
  · exact absurd rfl h
  · rename_i hn
    cases e : sc.names.lookup x with
    | none => rfl
    | some k => cases k <;> first | rfl | exact absurd e hn
structure SndG (G : Gc) (n : Nat) : Prop where
  g : ∀ C lev X e d, GoodS G C lev X → compG n C e = some d → MonoG d ∧ SG G X e d
  gs : ∀ C lev X es d, GoodS G C lev X → compGs n C es = some d → MonoGs d ∧ SGs G X es d ∧ (assignEach es X.env).length = es.length ∧ (assignEach es X.env).findIdx? (·.1) = none
theorem sndG : ∀ n, SndG G n
  | 0 => ⟨fun _ _ _ _ _ _ h => (by unfold compG at h; cases h), fun _ _ _ _ _ _ h => (by unfold compGs at h; cases h)⟩
  | n + 1 => by
    have ih := sndG n
    refine ⟨fun C lev X e d g h => ?_, fun C lev X es d g h => ?_⟩
    · unfold compG at h
      split at h
      · split at h
        · rename_i hl
          simp only [Option.map_eq_some_iff] at h
          obtain ⟨i, hi, rfl⟩ := h
          rw [gNameB_eq]; exact ⟨mono_gname i, sg_name g.g.nd (by rw [g.g.N]; exact slot_ok hi) (g.g.loc hl) (.inl (g.fn _))⟩
        · cases h
      · simp only [Option.map_eq_some_iff] at h
        obtain ⟨gs, hgs, rfl⟩ := h
        obtain ⟨m, s, l, f⟩ := ih.gs _ _ _ _ _ g hgs
        exact ⟨mono_gtup _ m, sg_tup g.g.K g.g.calm m s l f⟩
      · split at h
        · rename_i hs
          simp only [Option.bind_eq_some_iff, Option.map_eq_some_iff] at h
          obtain ⟨da, ha, di, hi, rfl⟩ := h
          obtain ⟨ma, sa⟩ := (snd n).e _ _ _ _ _ g.g ha
          obtain ⟨mi, si⟩ := (snd n).e _ _ _ _ _ g.g hi
          exact ⟨mono_gsub ma mi (setS (G := G)).w.mono, sg_sub (dq := da) (set_all (Nat.lt_of_le_of_lt (Nat.add_le_add_left (by decide : 1 ≤ 65) _) g.g.hu)) setS.w ma mi sa si (asgSub_of hs _ _ _)⟩
        · cases h
      · cases h
    · unfold compGs at h
      split at h
      · simp only [Option.some.injEq] at h
        subst h
        exact ⟨mono_gsnil, sgs_nil, rfl, rfl⟩
      · split at h
        · rename_i hs
          simp only [Option.bind_eq_some_iff, Option.map_eq_some_iff] at h
          obtain ⟨d1, h1, d2, h2, rfl⟩ := h
          obtain ⟨m1, s1⟩ := ih.g _ _ _ _ _ g h1
          obtain ⟨m2, s2, l2, f2⟩ := ih.gs _ _ _ _ _ g h2
          refine ⟨mono_gscons m1 m2, sgs_cons m1 m2 s1 s2 (by rw [asg_cons hs]; rfl), ?_, ?_⟩
          · rw [asg_cons hs, List.length_cons, List.length_cons, l2]
          · rw [asg_cons hs, List.findIdx?_cons]
            simp [f2]
        · cases h
structure SndS (G : Gc) (n : Nat) : Prop where
  s : ∀ C lev X st d, GoodS G C lev X → compS n C st = some d → MonoS d ∧ SS G X st d
  ss : ∀ C lev X sts d, GoodS G C lev X → compSs n C sts = some d → MonoS d ∧ SSs G X sts d
theorem Good.kf (g : Good G C lev X) (h : kindF C.sc = true) : X.env.scope.kind = .function := by
  unfold kindF at h
  rw [g.sc]
  split at h
  · assumption
  · cases h
theorem sndS : ∀ n, SndS G n
  | 0 => ⟨fun _ _ _ _ _ _ h => (by unfold compS at h; cases h), fun _ _ _ _ _ _ h => (by unfold compSs at h; cases h)⟩
  | n + 1 => by
    have ih := sndS n
    refine ⟨fun C lev X st d g h => ?_, fun C lev X sts d g h => ?_⟩
    · unfold compS at h
      split at h
      · -- name = [..]
        split at h
        · rename_i hl
          split at h
          · rename_i hc
            simp only [Bool.and_eq_true, Bool.not_eq_true'] at hc
            obtain ⟨⟨hk, hln⟩, hany⟩ := hc
            simp only [Option.bind_eq_some_iff, Option.map_eq_some_iff] at h
            obtain ⟨i, hi, dl, hdl, rfl⟩ := h
            obtain ⟨it, k, tt, d', rfl, L⟩ := (snd n).l _ _ _ _ _ _ _ _ _ g.g hdl
            have hloc := locOnly_ok hl
            rw [← g.g.sc] at hloc
            rw [dLcB_eq, gNameB_eq]; exact ⟨mono_asg (mono_lc L.mi L.mt L.me) (mono_gname i), ss_setLc g.g.K g.g.calm g.g.nd (by rw [g.g.N]; exact slot_ok hi) hloc (sw_true (g.g.kf hk) hloc hln hany) L.mi L.mt L.me L.si L.ok L.sl L.hg L.ht L.he L.hs⟩
          · cases h
        · rename_i hl
          simp only [Option.bind_eq_some_iff, Option.map_eq_some_iff] at h
          obtain ⟨gd, hgd, dl, hdl, rfl⟩ := h
          obtain ⟨it, k, tt, d', rfl, L⟩ := (snd n).l _ _ _ _ _ _ _ _ _ g.g hdl
          obtain ⟨mg, sg⟩ := (sndG n).g _ _ _ _ _ g hgd
          have hcell := locOnly_no hl
          rw [dLcB_eq]; refine ⟨mono_asg (mono_lc L.mi L.mt L.me) mg, ss_asg (mono_lc L.mi L.mt L.me) mg (se_lc g.g.K g.g.calm g.g.nd L.mi L.mt L.me L.si L.ok L.sl L.hg L.ht L.he L.hs) sg ?_ rfl rfl⟩
          rw [← g.g.sc] at hcell
          unfold swapsWithSole
          exact noSwap_cell _ _ _ hcell
      · -- a, b = x, y
        split at h
        · rename_i hc
          simp only [Bool.and_eq_true, Bool.not_eq_true'] at hc
          obtain ⟨⟨⟨⟨⟨⟨⟨⟨hx, hy⟩, hk⟩, hln⟩, hne⟩, ha⟩, hb⟩, hf⟩, hcs⟩ := hc
          simp only [Option.bind_eq_some_iff] at h
          obtain ⟨i, hi, j, hj, da, hda, h⟩ := h
          split at h
          · cases h
          · rename_i hij
            simp only [Option.some.injEq] at h
            subst h
            obtain ⟨ma, la, sa, _⟩ := (snd n).a _ _ _ _ _ g.g hda
            have hlx := locOnly_ok hx
            have hly := locOnly_ok hy
            rw [← g.g.sc] at hlx hly
            have hkk := g.g.kf hk
            rw [sParB_eq]; refine ⟨mono_par ma, ss_par g.g.calm g.g.nd (by rw [g.g.N]; exact slot_ok hi) (by rw [g.g.N]; exact slot_ok hj) (by simpa using hij) hlx hly ma sa ?_ rfl⟩
            refine swapped2 (by unfold PySem.Env.blockKind; rw [hkk]; rfl) hlx hly (by simpa using hln) (fun e => ?_) ha hb hf hcs
            rw [strEq_iff.mpr e] at hne; cases hne
        · cases h
      · -- general
        split at h
        · rename_i hc
          simp only [Bool.and_eq_true, Bool.not_eq_true', Bool.or_eq_true] at hc
          obtain ⟨⟨hst, hcn⟩, htl⟩ := hc
          simp only [Option.bind_eq_some_iff, Option.map_eq_some_iff] at h
          obtain ⟨da, ha, gd, hgd, rfl⟩ := h
          obtain ⟨ma, sa⟩ := (snd n).e _ _ _ _ _ g.g ha
          obtain ⟨mg, sg⟩ := (sndG n).g _ _ _ _ _ g hgd
          refine ⟨mono_asg ma mg, ss_asg ma mg sa sg ?_ (noStores htl _) (by rw [asg_cons hst]; rfl)⟩
          rcases hcn with hcn | hcn
          · exact noSwap hcn _ _ _
          · exact noSwap_tg hcn _ _ _
        · cases h
      · split at h
        · rename_i hl
          simp only [Option.bind_eq_some_iff, Option.map_eq_some_iff] at h
          obtain ⟨i, hi, da, ha, rfl⟩ := h
          obtain ⟨ma, sa⟩ := (snd n).e _ _ _ _ _ g.g ha
          rw [sAugB_eq]; exact ⟨mono_aug (intS (G := G) _).w.mono ma, ss_aug g.g.nd (by rw [g.g.N]; exact slot_ok hi) (g.g.loc hl) (.inl (g.fn _)) ma sa ip_add (intS _).w⟩
        · cases h
      · split at h
        · rename_i hl
          simp only [Option.bind_eq_some_iff, Option.map_eq_some_iff] at h
          obtain ⟨i, hi, da, ha, rfl⟩ := h
          obtain ⟨ma, sa⟩ := (snd n).e _ _ _ _ _ g.g ha
          rw [sAugB_eq]; exact ⟨mono_aug (intS (G := G) _).w.mono ma, ss_aug g.g.nd (by rw [g.g.N]; exact slot_ok hi) (g.g.loc hl) (.inl (g.fn _)) ma sa ip_sub (intS _).w⟩
        · cases h
      · split at h
        · rename_i hn
          simp only [Option.map_eq_some_iff] at h
          obtain ⟨da, ha, rfl⟩ := h
          obtain ⟨ma, sa⟩ := (snd n).e _ _ _ _ _ g.g ha
          exact ⟨mono_expr ma, ss_expr ma sa (noSwap hn _ _ _)⟩
        · cases h
      · simp only [Option.map_eq_some_iff] at h
        obtain ⟨da, ha, rfl⟩ := h
        obtain ⟨ma, sa⟩ := (snd n).e _ _ _ _ _ g.g ha
        exact ⟨mono_ret ma, ss_ret ma sa⟩
      · simp only [Option.some.injEq] at h; subst h; exact ⟨mono_retN, ss_retN⟩
      · simp only [Option.bind_eq_some_iff, Option.map_eq_some_iff] at h
        obtain ⟨dc, hc, da, ha, db, hb, rfl⟩ := h
        obtain ⟨mc, sc⟩ := (snd n).t _ _ _ _ _ g.g hc
        obtain ⟨ma, sa⟩ := ih.ss _ _ _ _ _ g ha
        obtain ⟨mb, sb⟩ := ih.ss _ _ _ _ _ g hb
        rw [sIfB_eq]; exact ⟨mono_sif mc ma mb, ss_if mc ma mb sc sa sb⟩
      · simp only [Option.bind_eq_some_iff, Option.map_eq_some_iff] at h
        obtain ⟨dc, hc, da, ha, rfl⟩ := h
        obtain ⟨mc, sc⟩ := (snd n).t _ _ _ _ _ g.g hc
        obtain ⟨ma, sa⟩ := ih.ss _ _ _ _ _ g ha
        rw [sWhileB_eq]; exact ⟨mono_while mc ma, ss_while g.own mc ma sc sa⟩
      · split at h
        · rename_i hs
          simp only [Option.bind_eq_some_iff, Option.map_eq_some_iff] at h
          obtain ⟨it, hit, gd, hgd, da, ha, rfl⟩ := h
          obtain ⟨mi, si⟩ := (snd n).i _ _ _ _ _ _ g.g hit
          obtain ⟨mg, sg⟩ := (sndG n).g _ _ _ _ _ g hgd
          obtain ⟨ma, sa⟩ := ih.ss _ _ _ _ _ g ha
          rw [sForB_eq]
          split
          · exact ⟨mono_slk (mono_for mi mg ma), ss_lk (mono_for mi mg ma) (ss_for g.own g.g.calm mi mg ma si sg sa (noFold hs _))⟩
          exact ⟨mono_for mi mg ma, ss_for g.own g.g.calm mi mg ma si sg sa (noFold hs _)⟩
        · cases h
      · simp only [Option.some.injEq] at h; subst h; exact ⟨mono_skip, ss_pass⟩
      · simp only [Option.some.injEq] at h; subst h; exact ⟨mono_break, ss_break⟩
      · simp only [Option.some.injEq] at h; subst h; exact ⟨mono_cont, ss_cont⟩
      · cases h
    · unfold compSs at h
      split at h
      · simp only [Option.some.injEq] at h; subst h; exact ⟨mono_skip, ss_nil⟩
      · simp only [Option.bind_eq_some_iff, Option.map_eq_some_iff] at h
        obtain ⟨da, ha, db, hb, rfl⟩ := h
        obtain ⟨ma, sa⟩ := ih.s _ _ _ _ _ g ha
        obtain ⟨mb, sb⟩ := ih.ss _ _ _ _ _ g hb
        rw [sSeqB_eq]; exact ⟨mono_seq ma mb, ss_cons ma mb sa sb⟩
end
end EV

namespace EV
open PySem PySem.Spec PyProof.Rows L2 RZ RT

/-! ### defs -/
def fDen (nN np : Nat) (b : DenS) : FDen := fun vs A Q E => vs.length = np ∧ b (vs.map some ++ List.replicate (nN - np) none) A ⟨fun _ A' => Q .non A', Q, fun _ _ => False, fun _ _ => False, fun e _ A' => E e A'⟩
theorem mono_fden {nN np : Nat} {b : DenS} (mb : MonoS b) : MonoF (fDen nN np b) := fun a A Q Q' E E' h k ⟨l, q⟩ =>
  ⟨l, mb _ _ ⟨fun _ A' => Q .non A', Q, fun _ _ => False, fun _ _ => False, fun e _ A' => E e A'⟩ _ ⟨fun _ _ q => h _ _ q, fun _ _ q => h _ _ q, fun _ _ z => z, fun _ _ z => z, fun _ _ _ q => k _ _ q⟩ q⟩
/-- what the written part tells of a def -/
structure Has (K : PySem.W.Frag) (mg : Str → Option Value) (x : Str) (st : Stmt) (ps : List Str) : Prop where
  ex : ∃ f fd, mg x = some (.ref f) ∧ Fun K x x st f fd ∧ Binds K fd ps []
structure FOkM (P : Program) (w : World) (G : Gc) (mg : Str → Option Value) (base : Heap) (fi : FI) : Prop where
  ex : ∃ f fd ps, mg fi.name = some (.ref f) ∧ FnOk P w G.K mg base (L2.CX P w) fi.lev f fd ps (SpF G fi.fn) ∧ PySem.W.keepIn G.K (.ref f) = true ∧ Binds G.K fd ps []
  mono : MonoF fi.fn
section
variable {P : Program} {w : World} {G : Gc} {mg : Str → Option Value} {base : Heap}
theorem srel_start {r : List Addr} {H : Hp} {ws : List Val} {vs : List V} (p : Reps G.K r H ws vs) (N : List Str) {np : Nat} (hl : ws.length = np) :
    SRel G.K r H (ws.map some ++ List.replicate (N.length - np) none) (L2.start N vs) := by
  have e := p.length
  unfold L2.start
  rw [← e, hl]
  refine ⟨by simp [e], fun i v h => ?_⟩
  by_cases hi : i < ws.length
  · rw [List.getElem?_append_left (by simpa using hi), List.getElem?_map] at h
    cases q : ws[i]? with
    | none => rw [q] at h; cases h
    | some u =>
      rw [q] at h
      simp only [Option.map_some, Option.some.injEq] at h
      subst h
      obtain ⟨x, ex, px⟩ := p.get q
      refine ⟨x, ?_, px⟩
      rw [List.getElem?_append_left (by rw [List.length_map, ← e]; exact hi), List.getElem?_map, ex]
      rfl
  · rw [List.getElem?_append_right (by simpa using hi), List.getElem?_replicate] at h
    split at h <;> cases h
theorem fok_fn {x : Str} {st : Stmt} {f : Addr} {fd : FuncData} {N ps : List Str} {n lev : Nat} {C : Ctx} {d : DenS} (F : Fun G.K x x st f fd) (S : FnScope N ps (defScope st)) (hN : C.N = N) (hsc : C.sc = defScope st) (hlv : ∀ fi ∈ C.funs, fi.lev ≤ lev)
    (hfun : ∀ fi ∈ C.funs, FOkM P w G mg base fi) (hb : ∀ y ∈ bltNames, mg y = none) (hroom : Room lev callerA) (hd : compSs n C (defBody st) = some d) : FnOk P w G.K mg base (L2.CX P w) (lev + 1) f fd ps (SpF G (fDen N.length ps.length d)) ∧ MonoF (fDen N.length ps.length d) := by
  have good : ∀ X : Cx, X.prog = P → X.w = w → X.K = G.K → X.mg = mg → X.base = base → X.calm = true → X.N = N → X.env.scope = defScope st → Room lev X.A → (∀ y, X.fn y = true) → PassesOwn (model X.prog X.w) X.A X.env X.xe → GoodS G C lev X := by
    intro X h1 h2 h3 h4 h5 h6 h7 h8 h9 h10 h11
    refine ⟨⟨h3, h6, by rw [h7]; exact S.nd, by rw [h7, hN], by rw [h8, hsc], h9, hlv, fun y hy => by rw [h4]; exact hb y hy, fun fi hf => ?_⟩, h10, h11⟩
    obtain ⟨⟨f', fd', ps', e1, e2, e3, e4⟩, m⟩ := hfun fi hf
    subst h1; subst h2; subst h4; subst h5
    exact ⟨⟨f', fd', ps', e1, h3 ▸ e2, h3 ▸ e3, h3 ▸ e4⟩, m⟩
  have md : MonoS d := by
    exact ((sndS n).ss C lev { cxOf (L2.CX P w) P w G.K mg base N x (defScope st) f .none callerA [] {} (fun _ => none) E0 with A := callerA, xe := fun _ _ => False } _ d (good _ rfl rfl rfl rfl rfl rfl rfl rfl hroom (fun _ => rfl) PassesOwn.never) hd).1
  refine ⟨F.okX S (fun vs H Q E ⟨r, A, ws, R, p, l, _⟩ => ?_) (fun cdv A outer s H vs Q E hr ⟨r, Ah, ws, R, p, l, q⟩ => ?_), mono_fden md⟩
  · rw [← p.length, l]
  · have hx : PassesOwn (model (cxOf (L2.CX P w) P w G.K mg base N x (defScope st) f cdv A outer s H E).prog (cxOf (L2.CX P w) P w G.K mg base N x (defScope st) f cdv A outer s H E).w) (cxOf (L2.CX P w) P w G.K mg base N x (defScope st) f cdv A outer s H E).A (cxOf (L2.CX P w) P w G.K mg base N x (defScope st) f cdv A outer s H E).env (cxOf (L2.CX P w) P w G.K mg base N x (defScope st) f cdv A outer s H E).xe := passes_of rfl
    have tk : Takes (cxOf (L2.CX P w) P w G.K mg base N x (defScope st) f cdv A outer s H E) (fun cls d _ H => E cls d H) := takes_of rfl rfl rfl rfl
    have := ((sndS n).ss C lev _ _ d (good (cxOf (L2.CX P w) P w G.K mg base N x (defScope st) f cdv A outer s H E) rfl rfl rfl rfl rfl rfl rfl rfl hr (fun _ => rfl) hx) hd).2
    refine ⟨_, this _ tk, r, Ah, ws.map some ++ List.replicate (N.length - ps.length) none, R, srel_start p N l, ?_⟩
    refine md _ _ ⟨fun _ A' => kv G r H Q .non A', kv G r H Q, fun _ _ => False, fun _ _ => False, fun e _ A' => kf G r H E e A'⟩ _ ⟨fun t A' h r' H' s' E' R' S' => ?_, fun v A' h => h, fun _ _ z => z.elim, fun _ _ z => z.elim, fun e t A' h r' H' s' c dd E' R' S' x' => ?_⟩ q
    · exact h r' H' _ E' R' (by simp only [Rep])
    · exact h r' H' c dd E' R' x'
theorem fok {x : Str} {st : Stmt} {N ps : List Str} {n lev : Nat} {C : Ctx} {d : DenS} (F : Has G.K mg x st ps) (S : FnScope N ps (defScope st)) (hN : C.N = N) (hsc : C.sc = defScope st) (hlv : ∀ fi ∈ C.funs, fi.lev ≤ lev)
    (hfun : ∀ fi ∈ C.funs, FOkM P w G mg base fi) (hb : ∀ y ∈ bltNames, mg y = none) (hroom : Room lev callerA) (hd : compSs n C (defBody st) = some d) : FOkM P w G mg base ⟨x, lev + 1, fDen N.length ps.length d⟩ := by
  obtain ⟨f, fd, hmg, F, B⟩ := F.ex
  obtain ⟨h, m⟩ := fok_fn (P := P) (w := w) (mg := mg) (base := base) F S hN hsc hlv hfun hb hroom hd
  exact ⟨⟨f, fd, ps, hmg, h, F.kp, B⟩, m⟩
theorem FOkM.up {fi : FI} {lev : Nat} (h : FOkM P w G mg base fi) (hl : fi.lev ≤ lev) : FOkM P w G mg base ⟨fi.name, lev, fi.fn⟩ := by
  obtain ⟨⟨f, fd, ps, e, F, k, B⟩, m⟩ := h
  exact ⟨⟨f, fd, ps, e, F.mono hl, k, B⟩, m⟩
theorem has_mk {K : PySem.W.Frag} {x : Str} {st : Stmt} {ps : List Str} {f : Addr} {oc : Value} {od an : Option Addr} {osl : Array (Option Value)} {kV doc pm cdv ct : Value} (hm : mg x = some (.ref f)) (l : K.lookup f = some ⟨oc, od, .func (PySem.W.fnOf x x (defArgs st) (defBody st) (defScope st) .none kV doc pm an cdv ct), osl⟩)
    (c : PySem.W.codeIn K cdv x = true) (k : PySem.W.keepIn K (.ref f) = true) (h : ∀ (kV doc pm : Value) (an : Option Addr) (cdv ct : Value) (us : List Value), us.length = ps.length → bindArgs (PySem.W.fnOf x x (defArgs st) (defBody st) (defScope st) .none kV doc pm an cdv ct) ⟨us, []⟩ = pure (ps.zip us)) : Has K mg x st ps :=
  have F := fun_mk (st := st) l c k
  ⟨⟨f, _, hm, F, F.binds h⟩⟩
theorem Has.none {x : Str} {st : Stmt} {ps : List Str} {k : Nat} (F : Has G.K mg x st ps) : FOkM P w G mg base ⟨x, k, fun _ _ _ _ => False⟩ := by
  obtain ⟨f, fd, hmg, F, B⟩ := F.ex
  refine ⟨⟨f, fd, ps, hmg, ⟨fun vs H Q E ⟨_, _, _, _, _, z⟩ => z.elim, fun A outer s H args us vs Q E _ _ _ _ ⟨_, _, _, _, _, z⟩ => z.elim⟩, F.kp, B⟩, fun _ _ _ _ _ _ _ _ z => z⟩
end
end EV

namespace EV
open PySem PySem.Spec PyProof.Rows L2 RZ RT

/-! ### the law's own end -/
/-- what is to be shown in plain Lean -/
def Plain (f : FDen) (n : Nat) : Prop := ∀ ns : List Int, ns.length ≤ n → f [.wl (ns.map Val.int)] [] (fun v _ => v = .bl true) (fun _ _ => False)
theorem reps_intsI {K : PySem.W.Frag} {r : List Addr} {H : Hp} : ∀ ns : List Int, Reps K r H (ns.map Val.int) (ns.map V.int)
  | [] => by simp [Reps]
  | i :: ns => Reps.cons_iff.mpr ⟨_, _, rfl, by simp only [Rep], reps_intsI ns⟩
theorem sp_end {G : Gc} {f : FDen} {n : Nat} (mf : MonoF f) (h : Plain f n) (H : Hp) (a : Addr) (ns : List Int) (hl : ns.length ≤ n) (hO : Only H) (hS : SqL G.K H a (ns.map V.int)) : SpF G f [.ref a] H (fun v _ => v = .bl true) fun _ _ _ => False := by
  refine ⟨[], [], [.wl (ns.map Val.int)], ⟨rfl, List.nodup_nil, fun n a o h => by simp at h⟩, ?_, mf _ _ _ _ _ _ (fun v A' e r' H' x _ _ p => ?_) (fun _ _ z => z.elim) (h ns hl)⟩
  · refine Reps.cons_iff.mpr ⟨_, _, rfl, ?_, by simp [Reps]⟩
    simp only [Rep]
    refine ⟨a, _, rfl, ?_, reps_intsI ns⟩
    rcases hS with h | e
    · rcases h with e | ⟨o, e⟩
      · exfalso
        rcases hO a with z | ⟨o, xs, z⟩
        · rw [z] at e; cases e
        · rw [z] at e; cases e
      · exact .inl ⟨o, e⟩
    · exact .inr fun _ => .inr e
  · subst e
    exact rep_bl p
/-- the law's def: what it keeps, once its callees are known -/
structure LawOk (P : Program) (w : World) (G : Gc) (mg : Str → Option Value) (x : Str) (st : Stmt) (k : Nat) (f : FDen) : Prop where
  ok : ∀ (fa : Addr) (fd : FuncData) (base : Heap), Fun G.K x x st fa fd → FnOk P w G.K mg base (L2.CX P w) k fa fd ["script"] (SpF G f) ∧ MonoF f
theorem walk_ev {l : PySem.W.OpenLaw} {n k : Nat} {q : Program} {loose : List Str} {XP : (Str → Option Value) → Heap → Prop} {YP : World → Heap → Prop} {d : DefRec} {K : Params → PySem.W.Frag} {cn : World → Str → Value → Prop} {f : FDen}
    (hn : l.most = some n) (hn2 : n ≤ sizeLine) (hdf : d.params.defaults = []) (hr : Room k callerA)
    (hY : ∀ (w : World) (h : Heap), YP w h → (K w.params).In h)
    (F : ∀ (w : World) (mg : Str → Option Value) (fa : Addr) (h : Heap), (K w.params).In h → h.Ns mainGlobals mg → mg d.name = some (.ref fa) →
      ∃ fd : FuncData, (∀ (s : Shared) (u : Value), BindsTo s fd ⟨[u], []⟩ [("script", u)]) ∧
        ∀ base : Heap, (K w.params).In base → base.Ns mainGlobals mg → FnOk l.prog w (K w.params) mg base (L2.CX l.prog w) k fa fd ["script"] (SpF ⟨K w.params, cn w⟩ f) ∧ MonoF f)
    (hp : Plain f n) :
    PySem.W.WalkO q loose XP YP l.row.toRowW d [] (fun f vs => PySem.call f vs) := by
  refine L2.walk_of (l := l) (n := n) (k := k) (K := K) (x := "script") (CX := fun w => L2.CX l.prog w) (sp := fun w vs H Q E => MonoF f ∧ SpF ⟨K w.params, cn w⟩ f vs H Q E ∨ ¬ MonoF f ∧ vs.length = 1) hn hn2 hdf hr hY (fun w mg fa h KX G hmg => ?_) (fun w H a ns hl hO hS => ?_) (fun w H s e s' h => ?_)
  · obtain ⟨fd, hb, hF⟩ := F w mg fa h KX G hmg
    refine ⟨fd, hb, fun base KB GB => ?_⟩
    obtain ⟨h1, m⟩ := hF base KB GB
    exact h1.imp fun vs H Q E h => by
      rcases h with h | h
      · exact h.2
      · exact absurd m h.1
  · by_cases m : MonoF f
    · exact .inl ⟨m, sp_end (G := ⟨K w.params, cn w⟩) m hp H a ns hl hO hS⟩
    · exact .inr ⟨m, rfl⟩
  · obtain ⟨_, _, _, _, _, _, _, _, _, _, _, _, z⟩ := h
    exact z.elim
end EV

namespace EV
open PySem PySem.Spec PyProof.Rows L2 RZ RT

/-! ### plain tools: loops -/
def ForL (g : DenG) (b : DenS) (D : EndsA) : List Val → Lv → AH → Prop
  | [], t, A => D.nx t A
  | v :: vs, t, A => g v t A (fun t2 A2 => b t2 A2 (D.lp (ForL g b D vs)))
theorem forJ_of {J : Wk} {g : DenG} {b : DenS} {vs : List Val} {t : Lv} {A : AH} {D : EndsA} (hJ : ∀ i A, J i A = some vs[i]?) (h : ForL g b D vs t A) : sForJ J g b t A D := by
  unfold sForJ
  refine ⟨fun i m t A => i + m = vs.length ∧ ForL g b D (vs.drop i) t A, ⟨vs.length, by simp, by simpa using h⟩, fun i m t A ⟨e, h⟩ => ?_⟩
  rw [hJ]
  cases q : vs[i]? with
  | none =>
    have : vs.length ≤ i := List.getElem?_eq_none_iff.mp q
    rw [List.drop_eq_nil_of_le this] at h
    exact .inl ⟨rfl, h⟩
  | some v =>
    obtain ⟨hi, hv⟩ := List.getElem?_eq_some_iff.mp q
    rw [List.drop_eq_getElem_cons hi, hv] at h
    exact .inr ⟨v, rfl, ForL g b D (vs.drop (i + 1)), fun t' A' h' => ⟨m - 1, by omega, by omega, h'⟩, h⟩
/-- over a list of the heap: it stays as it is -/
def ForH (n : Nat) (xs : List Val) (g : DenG) (b : DenS) (D : EndsA) : List Val → Lv → AH → Prop
  | [], t, A => A[n]? = some (.lst xs) ∧ D.nx t A
  | v :: vs, t, A => A[n]? = some (.lst xs) ∧ g v t A (fun t2 A2 => b t2 A2 (D.lp (ForH n xs g b D vs)))
theorem ForH.at {n : Nat} {xs : List Val} {g : DenG} {b : DenS} {D : EndsA} {vs : List Val} {t : Lv} {A : AH} (h : ForH n xs g b D vs t A) : A[n]? = some (.lst xs) := by
  cases vs <;> exact h.1
theorem forJ_ref {n : Nat} {g : DenG} {b : DenS} {xs : List Val} {t : Lv} {A : AH} {D : EndsA} (h : ForH n xs g b D xs t A) : sForJ (wkL n) g b t A D := by
  unfold sForJ
  refine ⟨fun i m t A => i + m = xs.length ∧ ForH n xs g b D (xs.drop i) t A, ⟨xs.length, by simp, by simpa using h⟩, fun i m t A ⟨e, h⟩ => ?_⟩
  have hw : wkL n i A = some xs[i]? := by unfold wkL; rw [h.at]
  rw [hw]
  cases q : xs[i]? with
  | none =>
    have : xs.length ≤ i := List.getElem?_eq_none_iff.mp q
    rw [List.drop_eq_nil_of_le this] at h
    exact .inl ⟨rfl, h.2⟩
  | some v =>
    obtain ⟨hi, hv⟩ := List.getElem?_eq_some_iff.mp q
    rw [List.drop_eq_getElem_cons hi, hv] at h
    exact .inr ⟨v, rfl, ForH n xs g b D (xs.drop (i + 1)), fun t' A' h' => ⟨m - 1, by omega, by omega, h'⟩, h.2⟩
def rngL (lo c : Int) (n : Nat) : List Val := (List.range n).map fun i : Nat => .int (lo + (i : Int) * c)
theorem forJ_tup {vs : List Val} {g : DenG} {b : DenS} {t : Lv} {A : AH} {D : EndsA} (h : ForL g b D vs t A) : sForJ (wkT vs) g b t A D := forJ_of (fun _ _ => rfl) h
theorem rng_at (lo c : Int) (n i : Nat) : (rngL lo c n)[i]? = if i < n then some (.int (lo + (i : Int) * c)) else none := by
  unfold rngL
  rw [List.getElem?_map]
  by_cases h : i < n
  · rw [if_pos h, List.getElem?_range h]; rfl
  · rw [if_neg h, List.getElem?_eq_none (by simpa using h)]; rfl
theorem forJ_rng {lo c : Int} {n : Nat} {g : DenG} {b : DenS} {t : Lv} {A : AH} {D : EndsA} (h : ForL g b D (rngL lo c n) t A) : sForJ (wkR lo c n) g b t A D := forJ_of (fun i _ => by rw [rng_at]; rfl) h
/-- comprehensions -/
def LcL (tg : Tg) (tt : DenT) (e : Den) (t : Lv) (Q : List Val → AH → Prop) : List Val → List Val → AH → Prop
  | [], acc, A => Q acc A
  | v :: r, acc, A => ∃ t2, bindT tg v t = some t2 ∧ tt t2 A (fun b A3 => bI b (e t2 A3 (fun y A4 => acc.length < sizeLine ∧ LcL tg tt e t Q r (acc ++ [y]) A4) nox) (LcL tg tt e t Q r acc A3)) nox
theorem lcJ_of {J : Wk} {tg : Tg} {tt : DenT} {e : Den} {vs : List Nat} {xs : List Val} {t : Lv} {A : AH} {Q : VQ} (hJ : ∀ i A, J i A = some xs[i]?) (h : LcL tg tt e (wipeV t vs) (fun acc A => Q (.ref A.length) (A ++ [.lst acc])) xs [] A) : dLcJ J tg tt e vs t A Q := by
  unfold dLcJ
  refine ⟨fun i m acc A => i + m = xs.length ∧ LcL tg tt e (wipeV t vs) (fun acc A => Q (.ref A.length) (A ++ [.lst acc])) (xs.drop i) acc A, ⟨xs.length, by simp, by simpa using h⟩, fun i m acc A ⟨em, h⟩ => ?_⟩
  rw [hJ]
  cases q : xs[i]? with
  | none =>
    have : xs.length ≤ i := List.getElem?_eq_none_iff.mp q
    rw [List.drop_eq_nil_of_le this] at h
    exact .inl ⟨rfl, h⟩
  | some v =>
    obtain ⟨hi, hv⟩ := List.getElem?_eq_some_iff.mp q
    rw [List.drop_eq_getElem_cons hi, hv] at h
    obtain ⟨t2, e2, h⟩ := h
    rw [bI_eq] at h
    exact .inr ⟨v, t2, rfl, e2, fun acc A => LcL tg tt e (wipeV t vs) (fun acc A => Q (.ref A.length) (A ++ [.lst acc])) (xs.drop (i + 1)) acc A, fun t' A' h' => ⟨m - 1, by omega, by omega, h'⟩, h⟩
theorem lcJ_tup {xs : List Val} {tg : Tg} {tt : DenT} {e : Den} {vs : List Nat} {t : Lv} {A : AH} {Q : VQ} (h : LcL tg tt e (wipeV t vs) (fun acc A => Q (.ref A.length) (A ++ [.lst acc])) xs [] A) : dLcJ (wkT xs) tg tt e vs t A Q := lcJ_of (fun _ _ => rfl) h
theorem lcJ_rng {lo c : Int} {n : Nat} {tg : Tg} {tt : DenT} {e : Den} {vs : List Nat} {t : Lv} {A : AH} {Q : VQ} (h : LcL tg tt e (wipeV t vs) (fun acc A => Q (.ref A.length) (A ++ [.lst acc])) (rngL lo c n) [] A) : dLcJ (wkR lo c n) tg tt e vs t A Q := lcJ_of (fun i _ => by rw [rng_at]; rfl) h
/-- over a list of the heap -/
def LcH (n : Nat) (xs : List Val) (tg : Tg) (tt : DenT) (e : Den) (t : Lv) (Q : List Val → AH → Prop) : List Val → List Val → AH → Prop
  | [], acc, A => A[n]? = some (.lst xs) ∧ Q acc A
  | v :: r, acc, A => A[n]? = some (.lst xs) ∧ ∃ t2, bindT tg v t = some t2 ∧ tt t2 A (fun b A3 => bI b (e t2 A3 (fun y A4 => acc.length < sizeLine ∧ LcH n xs tg tt e t Q r (acc ++ [y]) A4) nox) (LcH n xs tg tt e t Q r acc A3)) nox
theorem LcH.at {n : Nat} {xs : List Val} {tg : Tg} {tt : DenT} {e : Den} {t : Lv} {Q : List Val → AH → Prop} {r acc : List Val} {A : AH} (h : LcH n xs tg tt e t Q r acc A) : A[n]? = some (.lst xs) := by
  cases r <;> exact h.1
theorem lcJ_ref {n : Nat} {xs : List Val} {tg : Tg} {tt : DenT} {e : Den} {vs : List Nat} {t : Lv} {A : AH} {Q : VQ} (h : LcH n xs tg tt e (wipeV t vs) (fun acc A => Q (.ref A.length) (A ++ [.lst acc])) xs [] A) : dLcJ (wkL n) tg tt e vs t A Q := by
  unfold dLcJ
  refine ⟨fun i m acc A => i + m = xs.length ∧ LcH n xs tg tt e (wipeV t vs) (fun acc A => Q (.ref A.length) (A ++ [.lst acc])) (xs.drop i) acc A, ⟨xs.length, by simp, by simpa using h⟩, fun i m acc A ⟨em, h⟩ => ?_⟩
  have hw : wkL n i A = some xs[i]? := by unfold wkL; rw [h.at]
  rw [hw]
  cases q : xs[i]? with
  | none =>
    have : xs.length ≤ i := List.getElem?_eq_none_iff.mp q
    rw [List.drop_eq_nil_of_le this] at h
    exact .inl ⟨rfl, h.2⟩
  | some v =>
    obtain ⟨hi, hv⟩ := List.getElem?_eq_some_iff.mp q
    rw [List.drop_eq_getElem_cons hi, hv] at h
    obtain ⟨_, t2, e2, h⟩ := h
    rw [bI_eq] at h
    exact .inr ⟨v, t2, rfl, e2, fun acc A => LcH n xs tg tt e (wipeV t vs) (fun acc A => Q (.ref A.length) (A ++ [.lst acc])) (xs.drop (i + 1)) acc A, fun t' A' h' => ⟨m - 1, by omega, by omega, h'⟩, h⟩

/-! ### pure tests and pure values -/
def EvT (tt : DenT) (t : Lv) (A : AH) (b : Bool) : Prop := ∀ (J : AH) (Q : Bool → AH → Prop) (E : XQ), (∀ J', Q b (A ++ J')) → tt t (A ++ J) Q E
def EvE (e : Den) (t : Lv) (A : AH) (v : Val) : Prop := ∀ (J : AH) (Q : VQ) (E : XQ), (∀ J', Q v (A ++ J')) → e t (A ++ J) Q E
theorem lcL_pure {tg : Tg} {tt : DenT} {e : Den} {t : Lv} {Q : List Val → AH → Prop} {A : AH} {f : Val → Bool} {y : Val → Val} : ∀ {xs acc : List Val} {J : AH},
    (∀ v ∈ xs, ∃ t2, bindT tg v t = some t2 ∧ EvT tt t2 A (f v) ∧ (f v = true → EvE e t2 A (y v))) → acc.length + xs.length ≤ sizeLine → (∀ J', Q (acc ++ (xs.filter f).map y) (A ++ J')) → LcL tg tt e t Q xs acc (A ++ J)
  | [], acc, J, _, _, h => by simpa [LcL] using h J
  | v :: xs, acc, J, hx, hl, h => by
    obtain ⟨t2, e2, ht, he⟩ := hx v List.mem_cons_self
    have hx' : ∀ w ∈ xs, _ := fun w hw => hx w (List.mem_cons_of_mem _ hw)
    simp only [List.length_cons] at hl
    unfold LcL
    refine ⟨t2, e2, ht _ _ _ fun J' => bI_in (fun hf => ?_) (fun hf => ?_)⟩
    · refine he hf _ _ _ fun J'' => ⟨by omega, lcL_pure hx' (by simp only [List.length_append, List.length_cons, List.length_nil]; omega) fun J3 => ?_⟩
      have := h J3
      rw [List.filter_cons_of_pos hf, List.map_cons] at this
      simpa using this
    · refine lcL_pure hx' (by omega) fun J3 => ?_
      have := h J3
      rw [List.filter_cons_of_neg (by simp [hf])] at this
      exact this
end EV

namespace EV
open PySem PySem.Spec PyProof.Rows L2 RZ RT

/-! ### steps -/
section
variable {A : AH} {Q : VQ}
theorem lstAt_of {n : Nat} {xs : List Val} (h : A[n]? = some (.lst xs)) : lstAt A n = some xs := by unfold lstAt; rw [h]
theorem s_kA {o : Ob} {n : Nat} {A' : AH} (hn : A.length = n) (hA : A ++ [o] = A') (q : Q (.ref n) A') : kA A o Q := by unfold kA; rw [hn, hA]; exact q
theorem s_kT {t t' : Lv} {P : Lv → Prop} (ht : t = t') (q : P t') : kT t P := by unfold kT; rw [ht]; exact q
theorem s_addI {i j : Int} (q : Q (.int (i + j)) A) : wO oAdd (.int i) (.int j) A Q := by rw [wO_eq]; exact q
theorem s_addT {xs ys : List Val} (h : xs.length + ys.length ≤ sizeLine) (q : Q (.tup (xs ++ ys)) A) : wO oAdd (.tup xs) (.tup ys) A Q := by rw [wO_eq]; exact ⟨h, q⟩
theorem s_addS {x y : Str} (h : x.length + y.length ≤ sizeLine) (q : Q (.str (x ++ y)) A) : wO oAdd (.str x) (.str y) A Q := by rw [wO_eq]; exact ⟨h, q⟩
theorem s_addL {n m : Nat} {xs ys : List Val} (h1 : A[n]? = some (.lst xs)) (h2 : A[m]? = some (.lst ys)) (h : xs.length + ys.length ≤ sizeLine) (q : kA A (.lst (xs ++ ys)) Q) : wO oAdd (.ref n) (.ref m) A Q := by unfold kA at q; rw [wO_eq]; exact ⟨xs, ys, h1, h2, h, q⟩
theorem s_int {f : Int → Int → Int} {i j : Int} (q : Q (.int (f i j)) A) : wO (oInt f) (.int i) (.int j) A Q := by rw [wO_eq]; exact q
theorem s_intC {C : Int → Int → Prop} {f : Int → Int → Int} {i j : Int} (h : C i j) (q : Q (.int (f i j)) A) : wO (oIntC C f) (.int i) (.int j) A Q := by rw [wO_eq]; exact ⟨h, q⟩
theorem s_mulI {i j : Int} (h : CMul i j) (q : Q (.int (i * j)) A) : wO oMul (.int i) (.int j) A Q := by rw [wO_eq]; exact ⟨h, q⟩
theorem s_mulL {n : Nat} {k : Int} {xs : List Val} (h1 : A[n]? = some (.lst xs)) (h2 : -(2 ^ 63) ≤ k ∧ k < 2 ^ 63 ∧ xs.length * k.toNat ≤ sizeLine) (q : kA A (.lst (List.replicate k.toNat xs).flatten) Q) : wO oMul (.ref n) (.int k) A Q := by unfold kA at q; rw [wO_eq]; exact ⟨xs, h1, h2.1, h2.2.1, h2.2.2, q⟩
theorem s_neg {i : Int} (q : Q (.int (-i)) A) : wU oNeg (.int i) A Q := by rw [wU_eq]; exact q
theorem s_ord {f : Int → Int → Bool} {i j : Int} (q : Q (.bl (f i j)) A) : wO (oOrd f) (.int i) (.int j) A Q := by rw [wO_eq]; exact q
theorem s_isN {neg : Bool} {x : Val} {r' : Bool} (hr : xor neg (isNonV x) = r') (q : Q (.bl r') A) : wO (oIs neg) x .non A Q := by subst hr; rw [wO_eq]; exact q
theorem s_isB {neg b c : Bool} {r' : Bool} (hr : xor neg (decide (b = c)) = r') (q : Q (.bl r') A) : wO (oIs neg) (.bl b) (.bl c) A Q := by subst hr; rw [wO_eq]; exact ⟨b, rfl, q⟩
theorem s_eqI {neg : Bool} {i j : Int} {r' : Bool} (hr : xor neg (decide (i = j)) = r') (q : Q (.bl r') A) : wO (oEq neg) (.int i) (.int j) A Q := by
  subst hr
  rw [wO_eq]; exact ⟨rfl, rfl, by simp only [eqV, Bool.beq_eq_decide_eq]; exact q⟩
theorem s_eqB {neg : Bool} {i j : Bool} {r' : Bool} (hr : xor neg (decide (i = j)) = r') (q : Q (.bl r') A) : wO (oEq neg) (.bl i) (.bl j) A Q := by
  subst hr
  rw [wO_eq]; exact ⟨rfl, rfl, by simp only [eqV, Bool.beq_eq_decide_eq]; exact q⟩
theorem s_eqS {neg : Bool} {i j : Str} {r' : Bool} (hr : xor neg (decide (i = j)) = r') (q : Q (.bl r') A) : wO (oEq neg) (.str i) (.str j) A Q := by subst hr; rw [wO_eq]; exact q
theorem s_eqT {neg : Bool} {xs ys : List Val} (h1 : okVs 59 xs = true) (h2 : okVs 59 ys = true) {r' : Bool} (hr : xor neg (eqVs xs ys) = r') (q : Q (.bl r') A) : wO (oEq neg) (.tup xs) (.tup ys) A Q := by
  subst hr
  rw [wO_eq]; exact ⟨by simp only [okV]; exact h1, by simp only [okV]; exact h2, by simp only [eqV]; exact q⟩
theorem s_eqL {neg : Bool} {n m : Nat} {xs ys : List Val} (e1 : A[n]? = some (.lst xs)) (e2 : A[m]? = some (.lst ys)) (h1 : okVs 60 xs = true) (h2 : okVs 60 ys = true) {r' : Bool} (hr : xor neg (eqVs xs ys) = r') (q : Q (.bl r') A) : wO (oEq neg) (.ref n) (.ref m) A Q := by
  subst hr
  rw [wO_eq]; exact ⟨xs, ys, lstAt_of e1, lstAt_of e2, h1, h2, q⟩
theorem s_ixT {xs : List Val} {i : Int} {v : Val} (h : atI xs i = some v) (q : Q v A) : wO oIx (.tup xs) (.int i) A Q := by rw [wO_eq]; exact ⟨i, v, rfl, h, q⟩
theorem s_ixL {n : Nat} {xs : List Val} {i : Int} {v : Val} (h1 : A[n]? = some (.lst xs)) (h : atI xs i = some v) (q : Q v A) : wO oIx (.ref n) (.int i) A Q := by rw [wO_eq]; exact .inl ⟨xs, i, v, lstAt_of h1, rfl, h, q⟩
theorem s_ixK {n : Nat} {kvs : List (Key × Val)} {i : Int} {v : Val} (h1 : A[n]? = some (.dk kvs)) (h : dOf kvs (.inl i) = some v) (q : Q v A) : wO oIx (.ref n) (.int i) A Q := by rw [wO_eq]; exact .inr ⟨v, by simp only [dAt, h1, keyO, Option.map_some, h], q⟩
theorem s_ixZ {n : Nat} {kvs : List (Key × Val)} {g : L2.HO} {x : Val} {k : Key} {v : Val} (h1 : A[n]? = some (.dz kvs g)) (hk : keyO x = some k) (h : dOf kvs k = some v) (q : Q v A) : wO oIx (.ref n) x A Q := by rw [wO_eq]; exact .inr ⟨v, by simp only [dAt, h1, hk, Option.map_some, h], q⟩
theorem s_ixS {n : Nat} {kvs : List (Key × Val)} {i : Str} {v : Val} (h1 : A[n]? = some (.dk kvs)) (h : dOf kvs (.inr i) = some v) (q : Q v A) : wO oIx (.ref n) (.str i) A Q := by rw [wO_eq]; exact .inr ⟨v, by simp only [dAt, h1, keyO, Option.map_some, h], q⟩
theorem s_ixD {n : Nat} {kvs : List (List Key × Val)} {ks : List Val} {k : List Key} {v : Val} (h1 : A[n]? = some (.dt kvs)) (hk : keysO ks = some k) (h : dOf kvs k = some v) (q : Q v A) : wO oIx (.ref n) (.tup ks) A Q := by rw [wO_eq]; exact .inr ⟨v, by simp only [dAt, h1, hk, Option.map_some, h], q⟩
theorem s_setL {n : Nat} {xs xs' : List Val} {k : Int} {j : Nat} {v : Val} {A' : AH} {Q : AH → Prop} (h1 : A[n]? = some (.lst xs)) (h : ixN xs.length k = some j) (hx : xs.set j v = xs') (hA : A.set n (.lst xs') = A') (q : Q A') : wT oSet (.ref n) (.int k) v A Q := by subst hx; subst hA; rw [wT_eq]; exact .inl ⟨xs, k, j, h1, rfl, h, q⟩
theorem s_setK {n : Nat} {kvs : List (Key × Val)} {x v : Val} {k : Key} {A' : AH} {Q : AH → Prop} (h1 : A[n]? = some (.dk kvs)) (hk : keyO x = some k) (h : kvs.length < sizeLine) (hA : A.set n (.dk (dPut kvs k v)) = A') (q : Q A') : wT oSet (.ref n) x v A Q := by subst hA; rw [wT_eq]; exact .inr (.inl ⟨kvs, k, h1, hk, h, q⟩)
theorem s_setD {n : Nat} {kvs : List (List Key × Val)} {ks : List Val} {v : Val} {k : List Key} {A' : AH} {Q : AH → Prop} (h1 : A[n]? = some (.dt kvs)) (hk : keysO ks = some k) (h : kvs.length < sizeLine) (hA : A.set n (.dt (dPut kvs k v)) = A') (q : Q A') : wT oSet (.ref n) (.tup ks) v A Q := by subst hA; rw [wT_eq]; exact .inr (.inr ⟨kvs, ks, k, h1, rfl, hk, h, q⟩)
theorem s_lenT {xs : List Val} (q : Q (.int xs.length) A) : wN oLen [.tup xs] A Q := by rw [wN_eq]; exact ⟨_, _, rfl, rfl, q⟩
theorem s_lenL {n : Nat} {xs : List Val} (h : A[n]? = some (.lst xs)) (q : Q (.int xs.length) A) : wN oLen [.ref n] A Q := by rw [wN_eq]; exact ⟨_, _, rfl, by simp only [lenO, h], q⟩
theorem s_lenK {n : Nat} {xs : List (Key × Val)} (h : A[n]? = some (.dk xs)) (q : Q (.int xs.length) A) : wN oLen [.ref n] A Q := by rw [wN_eq]; exact ⟨_, _, rfl, by simp only [lenO, h], q⟩
theorem s_list {v : Val} {xs : List Val} (h : seqO A v = some xs) (q : kA A (.lst xs) Q) : wN oList [v] A Q := by unfold kA at q; rw [wN_eq]; exact ⟨_, _, rfl, h, q⟩
theorem seqO_ref {n : Nat} {xs : List Val} (h : A[n]? = some (.lst xs)) : seqO A (.ref n) = some xs := by simp only [seqO, lstAt, h]
theorem s_tupT {xs : List Val} (q : Q (.tup xs) A) : wN oTuple [.tup xs] A Q := by rw [wN_eq]; exact q
theorem s_tupL {n : Nat} {xs : List Val} (h : A[n]? = some (.lst xs)) (q : Q (.tup xs) A) : wN oTuple [.ref n] A Q := by rw [wN_eq]; exact ⟨xs, lstAt_of h, q⟩
theorem s_intc {i : Int} (q : Q (.int i) A) : wN oIntC1 [.int i] A Q := by rw [wN_eq]; exact q
theorem s_sum {n : Nat} {l : List Int} (h : A[n]? = some (.lst (l.map .int))) (q : Q (.int l.sum) A) : wN oSum [.ref n] A Q := by rw [wN_eq]; exact ⟨_, l, rfl, by simp only [lstInts, lstAt_of h, Option.bind_some, intsOf_map], q⟩
theorem s_max2 {i j : Int} (q : Q (.int (if j > i then j else i)) A) : wN oMax [.int i, .int j] A Q := by rw [wN_eq]; exact .inr (.inl ⟨i, j, rfl, q⟩)
theorem s_min2 {i j : Int} (q : Q (.int (if j < i then j else i)) A) : wN oMin [.int i, .int j] A Q := by rw [wN_eq]; exact .inr (.inl ⟨i, j, rfl, q⟩)
theorem s_maxL {n : Nat} {l : List Int} (h : A[n]? = some (.lst (l.map .int))) (h0 : 0 < l.length) (q : ∀ m, m ∈ l → (∀ y, y ∈ l → y ≤ m) → Q (.int m) A) : wN oMax [.ref n] A Q := by rw [wN_eq]; exact .inl ⟨_, l, rfl, by simp only [lstInts, lstAt_of h, Option.bind_some, intsOf_map], h0, q⟩
theorem s_minL {n : Nat} {l : List Int} (h : A[n]? = some (.lst (l.map .int))) (h0 : 0 < l.length) (q : ∀ m, m ∈ l → (∀ y, y ∈ l → m ≤ y) → Q (.int m) A) : wN oMin [.ref n] A Q := by rw [wN_eq]; exact .inl ⟨_, l, rfl, by simp only [lstInts, lstAt_of h, Option.bind_some, intsOf_map], h0, q⟩
theorem s_maxT {l : List Int} (h0 : 0 < l.length) (q : ∀ m, m ∈ l → (∀ y, y ∈ l → y ≤ m) → Q (.int m) A) : wN oMax [.tup (l.map .int)] A Q := by rw [wN_eq]; exact .inr (.inr ⟨_, l, rfl, intsOf_map l, h0, q⟩)
theorem s_minT {l : List Int} (h0 : 0 < l.length) (q : ∀ m, m ∈ l → (∀ y, y ∈ l → m ≤ y) → Q (.int m) A) : wN oMin [.tup (l.map .int)] A Q := by rw [wN_eq]; exact .inr (.inr ⟨_, l, rfl, intsOf_map l, h0, q⟩)
theorem s_all {n : Nat} {bs : List Bool} (h : A[n]? = some (.lst (bs.map .bl))) (q : Q (.bl (bs.all id)) A) : wN oAll [.ref n] A Q := by rw [wN_eq]; exact ⟨n, bs, rfl, by simp only [lstAt_of h, Option.bind_some, boolsOf_map], q⟩
theorem s_any {n : Nat} {bs : List Bool} (h : A[n]? = some (.lst (bs.map .bl))) (q : Q (.bl (bs.any id)) A) : wN oAny [.ref n] A Q := by rw [wN_eq]; exact ⟨n, bs, rfl, by simp only [lstAt_of h, Option.bind_some, boolsOf_map], q⟩
theorem s_str {i : Int} (h : i.natAbs.log2 < 1920) (q : Q (.str (toString i)) A) : wN oStr [.int i] A Q := by rw [wN_eq]; exact ⟨h, q⟩
theorem s_sortI {n : Nat} {l : List Int} (h : A[n]? = some (.lst (l.map .int))) (q : ∀ l' : List Int, l'.Perm l → l'.Pairwise (· ≤ ·) → kA A (.lst (l'.map Val.int)) Q) : wN oSorted [.ref n] A Q := by
  rw [wN_eq]; exact ⟨_, rfl, .inl ⟨l, by simp only [lstInts, lstAt_of h, Option.bind_some, intsOf_map], fun l' h1 h2 => by have := q l' h1 h2; unfold kA at this; exact this⟩⟩
theorem s_sortT {n : Nat} {l : List (List Int)} (h : A[n]? = some (.lst (l.map tupI))) (q : ∀ l' : List (List Int), l'.Perm l → l'.Pairwise (fun x y => HT.lexLt y x = false) → kA A (.lst (l'.map tupI)) Q) : wN oSorted [.ref n] A Q := by
  rw [wN_eq]; exact ⟨_, rfl, .inr (.inl ⟨l, by simp only [lstTups, lstAt_of h, Option.bind_some, tupsOf_map], fun l' h1 h2 => by have := q l' h1 h2; unfold kA at this; exact this⟩)⟩
theorem s_sortK {n : Nat} {kvs : List (Key × Val)} {l : List Int} (h : A[n]? = some (.dk kvs)) (hk : kvs.map (·.1) = l.map Sum.inl) (hl : l.length < 64) (q : ∀ l' : List Int, l'.Perm l → l'.Pairwise (· ≤ ·) → kA A (.lst (l'.map Val.int)) Q) : wN oSorted [.ref n] A Q := by
  rw [wN_eq]
  refine ⟨_, rfl, .inr (.inr (.inl ⟨l, ?_, hl, fun l' h1 h2 => by have := q l' h1 h2; unfold kA at this; exact this⟩))⟩
  simp only [keyInts, h]
  clear h q hl
  induction kvs generalizing l with
  | nil => cases l with
    | nil => rfl
    | cons a l => simp at hk
  | cons kv kvs ih =>
    cases l with
    | nil => simp at hk
    | cons a l =>
      simp only [List.map_cons, List.cons.injEq] at hk
      rw [List.mapM_cons, ih hk.2, hk.1]; rfl
theorem s_isi {v : Val} {T a : String} {k : Bool} (h1 : tyO A v = some a) (h2 : isiB a T = some k) (q : Q (.bl k) A) : wN oIsi [v, .ty T] A Q := by rw [wN_eq]; exact ⟨v, T, a, k, rfl, h1, h2, q⟩
theorem s_app {n : Nat} {v : Val} {xs : List Val} {A' : AH} (h : A[n]? = some (.lst xs)) (hs : xs.length < sizeLine) (hA : A.set n (.lst (xs ++ [v])) = A') (q : Q .non A') : wM mAppend (.ref n) [v] A Q := by subst hA; rw [wM_eq]; exact ⟨n, xs, v, rfl, rfl, h, hs, q⟩
theorem tyL_of {n : Nat} {xs : List Val} (h : A[n]? = some (.lst xs)) : tyL (.ref n) A := ⟨n, xs, rfl, lstAt_of h⟩
theorem s_inT {neg : Bool} {x : Val} {ys : List Val} (h1 : okV 60 x = true) (h2 : okVs 60 ys = true) {r' : Bool} (hr : xor neg (ys.any fun z => eqV z x) = r') (q : Q (.bl r') A) : wO (oIn neg) x (.tup ys) A Q := by subst hr; rw [wO_eq]; exact ⟨h1, h2, q⟩
theorem s_inL {neg : Bool} {x : Val} {n : Nat} {ys : List Val} (h : A[n]? = some (.lst ys)) (h1 : okV 60 x = true) (h2 : okVs 60 ys = true) {r' : Bool} (hr : xor neg (ys.any fun z => eqV z x) = r') (q : Q (.bl r') A) : wO (oIn neg) x (.ref n) A Q := by subst hr; rw [wO_eq]; exact .inl ⟨ys, lstAt_of h, h1, h2, q⟩
theorem s_inK {neg : Bool} {x : Val} {n : Nat} {kvs : List (Key × Val)} {k : Key} (h : A[n]? = some (.dk kvs)) (hk : keyO x = some k) {r' : Bool} (hr : xor neg (dOf kvs k).isSome = r') (q : Q (.bl r') A) : wO (oIn neg) x (.ref n) A Q := by
  subst hr
  rw [wO_eq]; exact .inr ⟨_, by simp only [dAt, h, hk, Option.map_some], q⟩
theorem s_inZ {neg : Bool} {x : Val} {n : Nat} {kvs : List (Key × Val)} {g : L2.HO} {k : Key} (h : A[n]? = some (.dz kvs g)) (hk : keyO x = some k) {r' : Bool} (hr : xor neg (dOf kvs k).isSome = r') (q : Q (.bl r') A) : wO (oIn neg) x (.ref n) A Q := by
  subst hr
  rw [wO_eq]; exact .inr ⟨_, by simp only [dAt, h, hk, Option.map_some], q⟩
theorem s_inD {neg : Bool} {ks : List Val} {n : Nat} {kvs : List (List Key × Val)} {k : List Key} (h : A[n]? = some (.dt kvs)) (hk : keysO ks = some k) {r' : Bool} (hr : xor neg (dOf kvs k).isSome = r') (q : Q (.bl r') A) : wO (oIn neg) (.tup ks) (.ref n) A Q := by
  subst hr
  rw [wO_eq]; exact .inr ⟨_, by simp only [dAt, h, hk, Option.map_some], q⟩
theorem s_if {k : Bool} {a b : Prop} (h1 : k = true → a) (h2 : k = false → b) : if k = true then a else b := by
  cases k with
  | true => exact h1 rfl
  | false => exact h2 rfl
end
end EV

namespace EV
open PySem PySem.Spec PyProof.Rows L2 RZ RT

theorem bI_tt {k : Bool} {a b : Prop} (h : k = true) (q : a) : bI k a b := by subst h; rw [bI_t]; exact q
theorem bI_ff {k : Bool} {a b : Prop} (h : k = false) (q : b) : bI k a b := by subst h; rw [bI_f]; exact q
theorem bI_d {p : Prop} [Decidable p] {a b : Prop} (h1 : p → a) (h2 : ¬ p → b) : bI (decide p) a b := bI_in (fun h => h1 (of_decide_eq_true h)) (fun h => h2 (of_decide_eq_false h))
theorem bI_nd {p : Prop} [Decidable p] {a b : Prop} (h1 : ¬ p → a) (h2 : p → b) : bI (!decide p) a b := bI_in (fun h => h1 (by simpa using h)) (fun h => h2 (by simpa using h))
theorem truB_lst {A : AH} {n : Nat} {xs : List Val} (h : A[n]? = some (.lst xs)) : truB A (.ref n) = some (!xs.isEmpty) := by simp only [truB, h]
/-! ### heaps that grow behind A -/
theorem at_app {A L : AH} {k : Nat} : (A ++ L)[A.length + k]? = L[k]? := by rw [List.getElem?_append_right (by omega)]; congr 1; omega
theorem at_app0 {A L : AH} : (A ++ L)[A.length]? = L[0]? := at_app (k := 0)
theorem set_app {A L : AH} {k : Nat} {o : Ob} : (A ++ L).set (A.length + k) o = A ++ L.set k o := by
  rw [List.set_append_right _ _ (by omega)]; congr 2; omega
theorem set_app0 {A L : AH} {o : Ob} : (A ++ L).set A.length o = A ++ L.set 0 o := set_app (k := 0)
theorem at_old {A L : AH} {n : Nat} {o : Ob} (h : A[n]? = some o) : (A ++ L)[n]? = some o := by
  rw [List.getElem?_append_left (List.getElem?_eq_some_iff.mp h).1]; exact h
theorem set_old {A L : AH} {n : Nat} {o o' : Ob} (h : A[n]? = some o) : (A ++ L).set n o' = A.set n o' ++ L := by
  rw [List.set_append_left _ _ (List.getElem?_eq_some_iff.mp h).1]
theorem lt_of_at {A : AH} {n : Nat} {o : Ob} (h : A[n]? = some o) : n < A.length := (List.getElem?_eq_some_iff.mp h).1
theorem fd_in {nN np : Nat} {d : DenS} {vs : List Val} {t : Lv} {A : AH} {Q : VQ} {E : XQ} (h1 : vs.length = np) (ht : vs.map some ++ List.replicate (nN - np) none = t)
    (h : d t A (.fn Q E)) : fDen nN np d vs A Q E := by subst ht; exact ⟨h1, h⟩
/-- the draws' own list -/
structure Drw where
  xs : List Int
  i : Nat
  x : Int
  s : Int
  c : Int
def DS (s : Drw) : AH := [.lst (s.xs.map .int), .lst [.ref 0, .int s.i, .int s.x, .int s.s, .int s.c]]
theorem ds_len (s : Drw) : (DS s).length = 2 := rfl
theorem ds_at {s : Drw} {L : AH} {k : Nat} : (DS s ++ L)[2 + k]? = L[k]? := at_app (A := DS s)
theorem ds_at0 {s : Drw} {L : AH} : (DS s ++ L)[2]? = L[0]? := at_app0 (A := DS s)
theorem ds_set {s : Drw} {L : AH} {k : Nat} {o : Ob} : (DS s ++ L).set (2 + k) o = DS s ++ L.set k o := set_app (A := DS s)
theorem atI_nat' {α : Type} {xs : List α} {j : Nat} {v : α} (h : xs[j]? = some v) : atI xs (j : Int) = some v := by
  unfold atI ixN
  have := (List.getElem?_eq_some_iff.mp h).1
  rw [if_pos (by omega), if_pos (by omega)]
  simpa using h
end EV

namespace EV
open PySem PySem.Spec PyProof.Rows L2 RZ RT

/-! ### loops by an invariant -/
section
variable {g : DenG} {b : DenS} {t : Lv} {A : AH} {D : EndsA}
theorem for_of {J : Wk} {n : Nat} {I : Nat → Lv → AH → Prop} (h0 : I 0 t A)
    (hs : ∀ i t A, i < n → I i t A → ∃ v, J i A = some (some v) ∧ g v t A (fun t2 A2 => b t2 A2 (D.lp (I (i + 1)))))
    (he : ∀ t A, I n t A → J n A = some none ∧ D.nx t A) : sForJ J g b t A D := by
  unfold sForJ
  refine ⟨fun i m t A => i + m = n ∧ I i t A, ⟨n, by omega, h0⟩, fun i m t A ⟨e, h⟩ => ?_⟩
  by_cases hi : i < n
  · obtain ⟨v, ev, hv⟩ := hs i t A hi h
    exact .inr ⟨v, ev, I (i + 1), fun t' A' h' => ⟨m - 1, by omega, by omega, h'⟩, hv⟩
  · have : i = n := by omega
    subst this
    exact .inl (he t A h)
theorem for_ints {lo j : Int} {n : Nat} (I : Nat → Lv → AH → Prop) (hn : j = n) (h0 : I 0 t A)
    (hs : ∀ i t A, i < n → I i t A → g (.int (lo + (i : Int))) t A (fun t2 A2 => b t2 A2 (D.lp (I (i + 1)))))
    (he : ∀ t A, I n t A → D.nx t A) : sForJ (wkR lo 1 j.toNat) g b t A D := by
  subst hn
  refine for_of (n := n) (I := I) h0 (fun i t A hi h => ⟨_, ?_, hs i t A hi h⟩) (fun t A h => ⟨?_, he t A h⟩)
  · unfold wkR; rw [if_pos (by simpa using hi), Int.mul_one]
  · unfold wkR; rw [if_neg (by simp)]
theorem for_int0 {j : Int} {n : Nat} (I : Nat → Lv → AH → Prop) (hn : j = n) (h0 : I 0 t A)
    (hs : ∀ i t A, i < n → I i t A → g (.int (i : Int)) t A (fun t2 A2 => b t2 A2 (D.lp (I (i + 1)))))
    (he : ∀ t A, I n t A → D.nx t A) : sForJ (wkR 0 1 j.toNat) g b t A D :=
  for_ints I hn h0 (fun i t A hi h => by rw [Int.zero_add]; exact hs i t A hi h) he
theorem for_map {α : Type} {xs : List α} {f : α → Val} (I : List α → Lv → AH → Prop) (h0 : I [] t A)
    (hs : ∀ pre x post t A, xs = pre ++ x :: post → I pre t A → g (f x) t A (fun t2 A2 => b t2 A2 (D.lp (I (pre ++ [x])))))
    (he : ∀ t A, I xs t A → D.nx t A) : sForJ (wkT (xs.map f)) g b t A D := by
  refine for_of (n := xs.length) (I := fun i => I (xs.take i)) (by simpa using h0) (fun i t A hi h => ⟨f xs[i], ?_, ?_⟩) (fun t A h => ⟨?_, he t A (by simpa using h)⟩)
  · unfold wkT; rw [List.getElem?_map, List.getElem?_eq_getElem hi]; rfl
  · have e : xs.take (i + 1) = xs.take i ++ [xs[i]] := by rw [List.take_add_one, List.getElem?_eq_getElem hi]; rfl
    rw [e]
    exact hs (xs.take i) xs[i] (xs.drop (i + 1)) t A (by rw [← List.drop_eq_getElem_cons hi, List.take_append_drop]) h
  · unfold wkT; rw [List.getElem?_eq_none (by simp)]
theorem for_ref {α : Type} {n : Nat} {xs : List α} {f : α → Val} (I : List α → Lv → AH → Prop) (h0 : I [] t A)
    (hl : ∀ pre t A, I pre t A → A[n]? = some (.lst (xs.map f)))
    (hs : ∀ pre x post t A, xs = pre ++ x :: post → I pre t A → g (f x) t A (fun t2 A2 => b t2 A2 (D.lp (I (pre ++ [x])))))
    (he : ∀ t A, I xs t A → D.nx t A) : sForJ (wkL n) g b t A D := by
  refine for_of (n := xs.length) (I := fun i => I (xs.take i)) (by simpa using h0) (fun i t A hi h => ⟨f xs[i], ?_, ?_⟩) (fun t A h => ⟨?_, he t A (by simpa using h)⟩)
  · unfold wkL; rw [hl _ _ _ h]; dsimp only; rw [List.getElem?_map, List.getElem?_eq_getElem hi]; rfl
  · have e : xs.take (i + 1) = xs.take i ++ [xs[i]] := by rw [List.take_add_one, List.getElem?_eq_getElem hi]; rfl
    rw [e]
    exact hs (xs.take i) xs[i] (xs.drop (i + 1)) t A (by rw [← List.drop_eq_getElem_cons hi, List.take_append_drop]) h
  · unfold wkL; rw [hl _ _ _ h]; dsimp only; rw [List.getElem?_eq_none (by simp)]
end
section
variable {tg : Tg} {tt : DenT} {e : Den} {vs : List Nat} {t : Lv} {A : AH} {Q : VQ}
theorem lc_of {J : Wk} {n : Nat} {I : Nat → List Val → AH → Prop} (h0 : I 0 [] A)
    (hs : ∀ i acc A, i < n → I i acc A → ∃ v t2, J i A = some (some v) ∧ bindT tg v (wipeV t vs) = some t2 ∧ tt t2 A (fun b A3 => bI b (e t2 A3 (fun y A4 => acc.length < sizeLine ∧ I (i + 1) (acc ++ [y]) A4) nox) (I (i + 1) acc A3)) nox)
    (he : ∀ acc A, I n acc A → J n A = some none ∧ kA A (.lst acc) Q) : dLcJ J tg tt e vs t A Q := by
  unfold dLcJ
  refine ⟨fun i m acc A => i + m = n ∧ I i acc A, ⟨n, by omega, h0⟩, fun i m acc A ⟨em, h⟩ => ?_⟩
  by_cases hi : i < n
  · obtain ⟨v, t2, ev, eb, hv⟩ := hs i acc A hi h
    rw [bI_eq] at hv
    exact .inr ⟨v, t2, ev, eb, I (i + 1), fun t' A' h' => ⟨m - 1, by omega, by omega, h'⟩, hv⟩
  · have : i = n := by omega
    subst this
    have := he acc A h
    unfold kA at this
    exact .inl this
theorem lc_ints {lo j : Int} {n : Nat} (I : Nat → List Val → AH → Prop) (hn : j = n) (h0 : I 0 [] A)
    (hs : ∀ i acc A, i < n → I i acc A → ∃ t2, bindT tg (.int (lo + (i : Int))) (wipeV t vs) = some t2 ∧ tt t2 A (fun b A3 => bI b (e t2 A3 (fun y A4 => acc.length < sizeLine ∧ I (i + 1) (acc ++ [y]) A4) nox) (I (i + 1) acc A3)) nox)
    (he : ∀ acc A, I n acc A → kA A (.lst acc) Q) : dLcJ (wkR lo 1 j.toNat) tg tt e vs t A Q := by
  subst hn
  refine lc_of (n := n) (I := I) h0 (fun i acc A hi h => ?_) (fun acc A h => ⟨?_, he acc A h⟩)
  · obtain ⟨t2, e2, h2⟩ := hs i acc A hi h
    exact ⟨_, t2, by unfold wkR; rw [if_pos (by simpa using hi), Int.mul_one], e2, h2⟩
  · unfold wkR; rw [if_neg (by simp)]
theorem lc_int0 {j : Int} {n : Nat} (I : Nat → List Val → AH → Prop) (hn : j = n) (h0 : I 0 [] A)
    (hs : ∀ i acc A, i < n → I i acc A → ∃ t2, bindT tg (.int (i : Int)) (wipeV t vs) = some t2 ∧ tt t2 A (fun b A3 => bI b (e t2 A3 (fun y A4 => acc.length < sizeLine ∧ I (i + 1) (acc ++ [y]) A4) nox) (I (i + 1) acc A3)) nox)
    (he : ∀ acc A, I n acc A → kA A (.lst acc) Q) : dLcJ (wkR 0 1 j.toNat) tg tt e vs t A Q :=
  lc_ints I hn h0 (fun i acc A hi h => by rw [Int.zero_add]; exact hs i acc A hi h) he
theorem lc_map {α : Type} {xs : List α} {f : α → Val} (I : List α → List Val → AH → Prop) (h0 : I [] [] A)
    (hs : ∀ pre x post acc A, xs = pre ++ x :: post → I pre acc A → ∃ t2, bindT tg (f x) (wipeV t vs) = some t2 ∧ tt t2 A (fun b A3 => bI b (e t2 A3 (fun y A4 => acc.length < sizeLine ∧ I (pre ++ [x]) (acc ++ [y]) A4) nox) (I (pre ++ [x]) acc A3)) nox)
    (he : ∀ acc A, I xs acc A → kA A (.lst acc) Q) : dLcJ (wkT (xs.map f)) tg tt e vs t A Q := by
  refine lc_of (n := xs.length) (I := fun i => I (xs.take i)) (by simpa using h0) (fun i acc A hi h => ?_) (fun acc A h => ⟨?_, he acc A (by simpa using h)⟩)
  · have e : xs.take (i + 1) = xs.take i ++ [xs[i]] := by rw [List.take_add_one, List.getElem?_eq_getElem hi]; rfl
    rw [e]
    obtain ⟨t2, e2, h2⟩ := hs (xs.take i) xs[i] (xs.drop (i + 1)) acc A (by rw [← List.drop_eq_getElem_cons hi, List.take_append_drop]) h
    exact ⟨f xs[i], t2, by unfold wkT; rw [List.getElem?_map, List.getElem?_eq_getElem hi]; rfl, e2, h2⟩
  · unfold wkT; rw [List.getElem?_eq_none (by simp)]
theorem lc_ref {α : Type} {n : Nat} {xs : List α} {f : α → Val} (I : List α → List Val → AH → Prop) (h0 : I [] [] A)
    (hl : ∀ pre acc A, I pre acc A → A[n]? = some (.lst (xs.map f)))
    (hs : ∀ pre x post acc A, xs = pre ++ x :: post → I pre acc A → ∃ t2, bindT tg (f x) (wipeV t vs) = some t2 ∧ tt t2 A (fun b A3 => bI b (e t2 A3 (fun y A4 => acc.length < sizeLine ∧ I (pre ++ [x]) (acc ++ [y]) A4) nox) (I (pre ++ [x]) acc A3)) nox)
    (he : ∀ acc A, I xs acc A → kA A (.lst acc) Q) : dLcJ (wkL n) tg tt e vs t A Q := by
  refine lc_of (n := xs.length) (I := fun i => I (xs.take i)) (by simpa using h0) (fun i acc A hi h => ?_) (fun acc A h => ⟨?_, he acc A (by simpa using h)⟩)
  · have e : xs.take (i + 1) = xs.take i ++ [xs[i]] := by rw [List.take_add_one, List.getElem?_eq_getElem hi]; rfl
    rw [e]
    obtain ⟨t2, e2, h2⟩ := hs (xs.take i) xs[i] (xs.drop (i + 1)) acc A (by rw [← List.drop_eq_getElem_cons hi, List.take_append_drop]) h
    exact ⟨f xs[i], t2, by unfold wkL; rw [hl _ _ _ h]; dsimp only; rw [List.getElem?_map, List.getElem?_eq_getElem hi]; rfl, e2, h2⟩
  · unfold wkL; rw [hl _ _ _ h]; dsimp only; rw [List.getElem?_eq_none (by simp)]
end
/-- over a locked dict's keys -/
theorem for_keys {g : DenG} {b : DenS} {t : Lv} {A : AH} {D : EndsA} {n : Nat} {kvs : List (Key × Val)} {z : L2.HO} (I : List (Key × Val) → Lv → AH → Prop) (h0 : I [] t A)
    (hl : ∀ pre t A, I pre t A → A[n]? = some (.dz kvs z))
    (hs : ∀ pre x post t A, kvs = pre ++ x :: post → I pre t A → g (keyV x.1) t A (fun t2 A2 => b t2 A2 (D.lp (I (pre ++ [x])))))
    (he : ∀ t A, I kvs t A → D.nx t A) : sForJ (wkK n z) g b t A D := by
  refine for_of (n := kvs.length) (I := fun i => I (kvs.take i)) (by simpa using h0) (fun i t A hi h => ⟨keyV kvs[i].1, ?_, ?_⟩) (fun t A h => ⟨?_, he t A (by simpa using h)⟩)
  · unfold wkK; rw [hl _ _ _ h]; dsimp only; rw [if_pos rfl, List.getElem?_map, List.getElem?_eq_getElem hi]; rfl
  · have e : kvs.take (i + 1) = kvs.take i ++ [kvs[i]] := by rw [List.take_add_one, List.getElem?_eq_getElem hi]; rfl
    rw [e]
    exact hs (kvs.take i) kvs[i] (kvs.drop (i + 1)) t A (by rw [← List.drop_eq_getElem_cons hi, List.take_append_drop]) h
  · unfold wkK; rw [hl _ _ _ h]; dsimp only; rw [if_pos rfl, List.getElem?_eq_none (by simp)]
theorem lc_keys {tg : Tg} {tt : DenT} {e : Den} {vs : List Nat} {t : Lv} {A : AH} {Q : VQ} {n : Nat} {kvs : List (Key × Val)} {z : L2.HO} (I : List (Key × Val) → List Val → AH → Prop) (h0 : I [] [] A)
    (hl : ∀ pre acc A, I pre acc A → A[n]? = some (.dz kvs z))
    (hs : ∀ pre x post acc A, kvs = pre ++ x :: post → I pre acc A → ∃ t2, bindT tg (keyV x.1) (wipeV t vs) = some t2 ∧ tt t2 A (fun b A3 => bI b (e t2 A3 (fun y A4 => acc.length < sizeLine ∧ I (pre ++ [x]) (acc ++ [y]) A4) nox) (I (pre ++ [x]) acc A3)) nox)
    (he : ∀ acc A, I kvs acc A → kA A (.lst acc) Q) : dLcJ (wkK n z) tg tt e vs t A Q := by
  refine lc_of (n := kvs.length) (I := fun i => I (kvs.take i)) (by simpa using h0) (fun i acc A hi h => ?_) (fun acc A h => ⟨?_, he acc A (by simpa using h)⟩)
  · have e : kvs.take (i + 1) = kvs.take i ++ [kvs[i]] := by rw [List.take_add_one, List.getElem?_eq_getElem hi]; rfl
    rw [e]
    obtain ⟨t2, e2, h2⟩ := hs (kvs.take i) kvs[i] (kvs.drop (i + 1)) acc A (by rw [← List.drop_eq_getElem_cons hi, List.take_append_drop]) h
    exact ⟨keyV kvs[i].1, t2, by unfold wkK; rw [hl _ _ _ h]; dsimp only; rw [if_pos rfl, List.getElem?_map, List.getElem?_eq_getElem hi]; rfl, e2, h2⟩
  · unfold wkK; rw [hl _ _ _ h]; dsimp only; rw [if_pos rfl, List.getElem?_eq_none (by simp)]
/-! ### dicts, equal values -/
theorem dOf_put {κ : Type} [DecidableEq κ] (l : List (κ × Val)) (k k' : κ) (v : Val) : dOf (dPut l k v) k' = if k = k' then some v else dOf l k' := by
  unfold dPut dOf
  by_cases h : (l.any fun kv => decide (kv.1 = k)) = true
  · rw [if_pos h]
    induction l with
    | nil => simp at h
    | cons x l ih =>
      by_cases hx : x.1 = k
      · rw [List.map_cons, if_pos hx]
        by_cases hk : k = k'
        · rw [if_pos hk, List.find?_cons_of_pos (by simp [hx, hk])]; rfl
        · rw [if_neg hk, List.find?_cons_of_neg (by simp [hx, hk]), List.find?_cons_of_neg (by simp [hx, hk])]
          by_cases ha : (l.any fun kv => decide (kv.1 = k)) = true
          · have := ih ha; rw [if_neg hk] at this; exact this
          · have e : l.map (fun kv => if kv.1 = k then (kv.1, v) else kv) = l := by
              refine (List.map_congr_left fun y hy => ?_).trans (List.map_id l)
              rw [if_neg (fun z => ha (List.any_eq_true.mpr ⟨y, hy, by simpa using z⟩))]; rfl
            rw [e]
      · have ha : (l.any fun kv => decide (kv.1 = k)) = true := by simpa [hx] using h
        rw [List.map_cons, if_neg hx]
        by_cases hk : x.1 = k'
        · rw [List.find?_cons_of_pos (by simp [hk]), List.find?_cons_of_pos (by simp [hk]), if_neg (by rw [← hk]; exact fun z => hx z.symm)]
        · rw [List.find?_cons_of_neg (by simp [hk]), List.find?_cons_of_neg (by simp [hk])]
          exact ih ha
  · rw [if_neg h, List.find?_append]
    by_cases hk : k = k'
    · subst hk
      rw [if_pos rfl]
      have : l.find? (fun kv => decide (kv.1 = k)) = none := by
        rw [List.find?_eq_none]
        intro y hy z
        exact h (List.any_eq_true.mpr ⟨y, hy, z⟩)
      rw [this]; simp
    · rw [if_neg hk]
      have : [(k, v)].find? (fun kv => decide (kv.1 = k')) = none := by simp [hk]
      rw [this, Option.or_none]
theorem dPut_len {κ : Type} [DecidableEq κ] (l : List (κ × Val)) (k : κ) (v : Val) : (dPut l k v).length ≤ l.length + 1 := by
  unfold dPut
  split <;> simp
mutual
theorem eqV_refl : ∀ (n : Nat) (v : Val), okV n v = true → eqV v v = true
  | _, .non, _ => by simp [eqV]
  | _, .bl _, _ => by simp [eqV]
  | _, .int _, _ => by simp [eqV]
  | _, .str _, _ => by simp [eqV]
  | 0, .tup _, h => by simp [okV] at h
  | n + 1, .tup xs, h => by simp only [okV] at h; simp only [eqV]; exact eqVs_refl n xs h
  | n, .wt _, h => by cases n <;> simp [okV] at h
  | n, .ref _, h => by cases n <;> simp [okV] at h
  | n, .ty _, h => by cases n <;> simp [okV] at h
  | n, .wl _, h => by cases n <;> simp [okV] at h
theorem eqVs_refl : ∀ (n : Nat) (xs : List Val), okVs n xs = true → eqVs xs xs = true
  | _, [], _ => by simp [eqVs]
  | n, x :: xs, h => by
    simp only [okVs, Bool.and_eq_true] at h
    simp only [eqVs, Bool.and_eq_true]
    exact ⟨eqV_refl n x h.1, eqVs_refl n xs h.2⟩
end
theorem okVs_at : ∀ {n : Nat} {xs : List Val} {i : Nat} {v : Val}, okVs n xs = true → xs[i]? = some v → okV n v = true
  | n, x :: xs, 0, v, h, e => by
    simp only [okVs, Bool.and_eq_true] at h
    simp at e; subst e; exact h.1
  | n, x :: xs, i + 1, v, h, e => by
    simp only [okVs, Bool.and_eq_true] at h
    exact okVs_at h.2 (by simpa using e)
  | n, [], i, v, h, e => by simp at e
theorem okVs_map {α : Type} {n : Nat} {f : α → Val} : ∀ {xs : List α}, (∀ x ∈ xs, okV n (f x) = true) → okVs n (xs.map f) = true
  | [], _ => by simp [okVs]
  | x :: xs, h => by
    simp only [List.map_cons, okVs, Bool.and_eq_true]
    exact ⟨h x List.mem_cons_self, okVs_map fun y hy => h y (List.mem_cons_of_mem _ hy)⟩
mutual
/-- plain data for _law_exact: nested less than n deep, tuples not too long -/
def exV : Nat → Val → Bool
  | _, .non => true
  | _, .bl _ => true
  | _, .int _ => true
  | _, .str _ => true
  | n + 1, .tup xs => decide (xs.length < 1000000000) && exVs n xs
  | _, _ => false
def exVs : Nat → List Val → Bool
  | _, [] => true
  | n, x :: xs => exV n x && exVs n xs
end
theorem exVs_at : ∀ {n : Nat} {xs : List Val} {i : Nat} {v : Val}, exVs n xs = true → xs[i]? = some v → exV n v = true
  | n, x :: xs, 0, v, h, e => by
    simp only [exVs, Bool.and_eq_true] at h
    simp at e; subst e; exact h.1
  | n, x :: xs, i + 1, v, h, e => by
    simp only [exVs, Bool.and_eq_true] at h
    exact exVs_at h.2 (by simpa using e)
  | n, [], i, v, h, e => by simp at e
theorem exVs_map {α : Type} {n : Nat} {f : α → Val} : ∀ {xs : List α}, (∀ x ∈ xs, exV n (f x) = true) → exVs n (xs.map f) = true
  | [], _ => by simp [exVs]
  | x :: xs, h => by
    simp only [List.map_cons, exVs, Bool.and_eq_true]
    exact ⟨h x List.mem_cons_self, exVs_map fun y hy => h y (List.mem_cons_of_mem _ hy)⟩
theorem exV_tup {n : Nat} {xs : List Val} (h : exVs n xs = true) (hl : xs.length < 1000000000) : exV (n + 1) (.tup xs) = true := by
  simp only [exV, Bool.and_eq_true, decide_eq_true_eq]; exact ⟨hl, h⟩
/-- general = of plain values that are not both texts -/
theorem s_eqV {A : AH} {Q : VQ} {neg : Bool} {x y : Val} (h1 : okV 60 x = true) (h2 : okV 60 y = true) {r' : Bool} (hr : xor neg (eqV x y) = r') (q : Q (.bl r') A) : wO (oEq neg) x y A Q := by
  subst hr
  rw [wO_eq]
  unfold oEq
  split
  · simp only [eqV] at q
    rw [Bool.beq_eq_decide_eq] at q; exact q
  · simp [okV] at h1
  · exact ⟨h1, h2, q⟩
/-! ### index, in: lists of ints -/
theorem okVs_ints (n : Nat) (l : List Int) : okVs n (l.map Val.int) = true := okVs_map fun x _ => by cases n <;> rfl
theorem any_ints (l : List Int) (i : Int) : ((l.map Val.int).any fun z => EV.eqV z (.int i)) = decide (i ∈ l) := by
  induction l with
  | nil => simp
  | cons a l ih =>
    rw [List.map_cons, List.any_cons, ih]
    simp only [EV.eqV, List.mem_cons]
    by_cases h : a = i
    · subst h; simp
    · have h' : ¬ i = a := fun z => h z.symm
      simp [h, h']
theorem s_idxI {A : AH} {Q : VQ} {n : Nat} {l : List Int} {i : Int} (h : A[n]? = some (.lst (l.map .int))) (hm : i ∈ l) (q : ∀ j : Nat, l[j]? = some i → (∀ m, m < j → l[m]? ≠ some i) → Q (.int j) A) : wM mIndex (.ref n) [.int i] A Q := by
  rw [wM_eq]
  have key : ∀ (l : List Int), i ∈ l → ∃ j : Nat, l[j]? = some i ∧ ∀ m, m < j → l[m]? ≠ some i := by
    intro l
    induction l with
    | nil => intro z; cases z
    | cons a l ih =>
      intro z
      by_cases e : a = i
      · exact ⟨0, by simp [e], fun m hm => by omega⟩
      · obtain ⟨j, h1, h2⟩ := ih (by rcases List.mem_cons.mp z with z | z; exact absurd z.symm e; exact z)
        refine ⟨j + 1, by simpa using h1, fun m hm => ?_⟩
        cases m with
        | zero => simp [e]
        | succ m => simpa using h2 m (by omega)
  obtain ⟨j, h1, h2⟩ := key l hm
  refine ⟨n, l.map .int, .int i, j, .int i, rfl, rfl, lstAt_of h, rfl, okVs_ints 60 l, by rw [List.getElem?_map, h1]; rfl, by simp [EV.eqV], fun m z' hmj e => ?_, q j h1 h2⟩
  rw [List.getElem?_map] at e
  cases e2 : l[m]? with
  | none => rw [e2] at e; cases e
  | some a =>
    rw [e2] at e
    have e : Val.int a = z' := by simpa using e
    subst e
    have := h2 m hmj
    rw [e2] at this
    simp only [EV.eqV, beq_eq_false_iff_ne]
    exact fun z => this (by rw [z])
end EV

namespace FM
open PySem PySem.Spec PyProof.Rows L2 EV

/-! ### trees: what a value reads as -/
inductive T where
  | non | bl (b : Bool) | int (i : Int) | str (x : Str) | tup (xs : List T) | lst (xs : List T)
  | dk (ks : List Key) (xs : List T) | dt (ks : List (List Key)) (xs : List T) | dz (ks : List Key) (xs : List T) | ty (n : String) | wl (xs : List T) | tok
  deriving Inhabited
inductive Res (α : Type) where
  | ok (a : α) (s : Drw) | ex (e : Exc) (s : Drw) | no
def M (α : Type) := Drw → Res α
section
variable {α β γ : Type}
def mret (a : α) : M α := fun s => .ok a s
def bnd (m : M α) (f : α → M β) : M β := fun s => match m s with
  | .ok a s' => f a s'
  | .ex e s' => .ex e s'
  | .no => .no
def stuck : M α := fun _ => .no
def ofO : Option α → M α
  | some a => mret a
  | none => stuck
theorem bnd_ret (a : α) (f : α → M β) : bnd (mret a) f = f a := rfl
theorem ret_bnd (m : M α) : bnd m mret = m := by
  funext s; unfold bnd mret; cases m s <;> rfl
theorem bnd_assoc (m : M α) (f : α → M β) (g : β → M γ) : bnd (bnd m f) g = bnd m fun a => bnd (f a) g := by
  funext s; unfold bnd; cases m s <;> rfl
theorem bnd_stuck (f : α → M β) : bnd stuck f = stuck := rfl
theorem ofO_some (a : α) : ofO (some a) = mret a := rfl
theorem ofO_none : ofO (none : Option α) = stuck := rfl
end

mutual
def rd (F : Nat → Prop) (A : AH) : T → Val → Prop
  | .non, v => v = .non
  | .bl b, v => v = .bl b
  | .int i, v => v = .int i
  | .str x, v => v = .str x
  | .ty n, v => v = .ty n
  | .tok, v => v = .ref 1
  | .dz _ _, _ => False
  | .tup ts, v => ∃ vs, v = .tup vs ∧ rds F A ts vs
  | .wl ts, v => ∃ vs, v = .wl vs ∧ rds F A ts vs
  | .lst ts, v => ∃ n, v = .ref n ∧ F n ∧ ∃ vs, A[n]? = some (.lst vs) ∧ rds F A ts vs
  | .dk ks ts, v => ∃ n, v = .ref n ∧ F n ∧ ∃ kvs, A[n]? = some (.dk kvs) ∧ kvs.map (·.1) = ks ∧ rds F A ts (kvs.map (·.2))
  | .dt ks ts, v => ∃ n, v = .ref n ∧ F n ∧ ∃ kvs, A[n]? = some (.dt kvs) ∧ kvs.map (·.1) = ks ∧ rds F A ts (kvs.map (·.2))
def rds (F : Nat → Prop) (A : AH) : List T → List Val → Prop
  | [], vs => vs = []
  | x :: xs, vs => ∃ v r, vs = v :: r ∧ rd F A x v ∧ rds F A xs r
end
def cell (F : Nat → Prop) (A : AH) (x : T) (n : Nat) : Prop := match x with
  | .lst ts => ∃ vs, A[n]? = some (.lst vs) ∧ rds F A ts vs
  | .dk ks ts => ∃ kvs, A[n]? = some (.dk kvs) ∧ kvs.map (·.1) = ks ∧ rds F A ts (kvs.map (·.2))
  | .dt ks ts => ∃ kvs, A[n]? = some (.dt kvs) ∧ kvs.map (·.1) = ks ∧ rds F A ts (kvs.map (·.2))
  | _ => False
/-- the same, but where the thing itself lies is told by p -/
def rdT (p : Nat → Prop) (F : Nat → Prop) (A : AH) (x : T) (v : Val) : Prop := match x with
  | .lst ts => ∃ n, v = .ref n ∧ p n ∧ cell F A (.lst ts) n
  | .dk ks ts => ∃ n, v = .ref n ∧ p n ∧ cell F A (.dk ks ts) n
  | .dt ks ts => ∃ n, v = .ref n ∧ p n ∧ cell F A (.dt ks ts) n
  | x => rd F A x v
theorem rd_iff {F : Nat → Prop} {A : AH} {x : T} {v : Val} : rd F A x v ↔ rdT F F A x v := by
  cases x <;> simp only [rdT, rd, cell]
def isC : T → Bool
  | .lst _ => true
  | .dk _ _ => true
  | .dt _ _ => true
  | _ => false
theorem rdT_c {p F : Nat → Prop} {A : AH} {x : T} {v : Val} (hx : isC x = true) : rdT p F A x v ↔ ∃ n, v = .ref n ∧ p n ∧ cell F A x n := by
  cases x <;> first | (simp [isC] at hx; done) | rfl
theorem rdT_p {p F : Nat → Prop} {A : AH} {x : T} {v : Val} (hx : isC x = false) : rdT p F A x v ↔ rd F A x v := by
  cases x <;> first | (simp [isC] at hx; done) | rfl
theorem rdT.imp {p q F : Nat → Prop} {A : AH} {x : T} {v : Val} (h : rdT p F A x v) (k : ∀ n, v = .ref n → p n → q n) : rdT q F A x v := by
  cases hx : isC x with
  | true => rw [rdT_c hx] at h ⊢; obtain ⟨n, e, hp, hc⟩ := h; exact ⟨n, e, k n e hp, hc⟩
  | false => rw [rdT_p hx] at h ⊢; exact h
section
variable {F F' : Nat → Prop} {A A' : AH}
mutual
theorem rd_mono (hF : ∀ n, F n → F' n) (hA : ∀ n, F n → A'[n]? = A[n]?) : ∀ (x : T) (v : Val), rd F A x v → rd F' A' x v
  | .non, _, h => by simpa only [rd] using h
  | .bl _, _, h => by simpa only [rd] using h
  | .int _, _, h => by simpa only [rd] using h
  | .str _, _, h => by simpa only [rd] using h
  | .ty _, _, h => by simpa only [rd] using h
  | .tok, _, h => by simpa only [rd] using h
  | .dz _ _, _, h => by simp only [rd] at h
  | .tup ts, v, h => by
    simp only [rd] at h ⊢
    obtain ⟨vs, e, h⟩ := h
    exact ⟨vs, e, rds_mono hF hA ts vs h⟩
  | .wl ts, v, h => by
    simp only [rd] at h ⊢
    obtain ⟨vs, e, h⟩ := h
    exact ⟨vs, e, rds_mono hF hA ts vs h⟩
  | .lst ts, v, h => by
    simp only [rd] at h ⊢
    obtain ⟨n, e, hn, vs, ea, h⟩ := h
    exact ⟨n, e, hF n hn, vs, (hA n hn).trans ea, rds_mono hF hA ts vs h⟩
  | .dk ks ts, v, h => by
    simp only [rd] at h ⊢
    obtain ⟨n, e, hn, vs, ea, ek, h⟩ := h
    exact ⟨n, e, hF n hn, vs, (hA n hn).trans ea, ek, rds_mono hF hA ts _ h⟩
  | .dt ks ts, v, h => by
    simp only [rd] at h ⊢
    obtain ⟨n, e, hn, vs, ea, ek, h⟩ := h
    exact ⟨n, e, hF n hn, vs, (hA n hn).trans ea, ek, rds_mono hF hA ts _ h⟩
theorem rds_mono (hF : ∀ n, F n → F' n) (hA : ∀ n, F n → A'[n]? = A[n]?) : ∀ (xs : List T) (vs : List Val), rds F A xs vs → rds F' A' xs vs
  | [], _, h => by simpa only [rds] using h
  | x :: xs, vs, h => by
    simp only [rds] at h ⊢
    obtain ⟨v, r, e, h1, h2⟩ := h
    exact ⟨v, r, e, rd_mono hF hA x v h1, rds_mono hF hA xs r h2⟩
end
theorem cell_mono (hF : ∀ n, F n → F' n) (hA : ∀ n, F n → A'[n]? = A[n]?) {x : T} {n : Nat} (hn : A'[n]? = A[n]?) (h : cell F A x n) : cell F' A' x n := by
  cases x <;> simp only [cell] at h ⊢
  · obtain ⟨vs, ea, h⟩ := h
    exact ⟨vs, hn.trans ea, rds_mono hF hA _ _ h⟩
  · obtain ⟨vs, ea, ek, h⟩ := h
    exact ⟨vs, hn.trans ea, ek, rds_mono hF hA _ _ h⟩
  · obtain ⟨vs, ea, ek, h⟩ := h
    exact ⟨vs, hn.trans ea, ek, rds_mono hF hA _ _ h⟩
theorem rdT_mono {p q : Nat → Prop} (hF : ∀ n, F n → F' n) (hA : ∀ n, F n → A'[n]? = A[n]?) {x : T} {v : Val} (hp : ∀ n, v = .ref n → p n → n < A.length → q n ∧ A'[n]? = A[n]?) (h : rdT p F A x v) : rdT q F' A' x v := by
  cases hx : isC x with
  | true =>
    rw [rdT_c hx] at h ⊢
    obtain ⟨n, e, hn, hc⟩ := h
    have hl : n < A.length := by
      rcases Nat.lt_or_ge n A.length with z | z
      · exact z
      · have e := List.getElem?_eq_none z
        cases x <;> simp only [cell, e] at hc
        · obtain ⟨_, z, _⟩ := hc; cases z
        · obtain ⟨_, z, _⟩ := hc; cases z
        · obtain ⟨_, z, _⟩ := hc; cases z
    obtain ⟨h1, h2⟩ := hp n e hn hl
    exact ⟨n, e, h1, cell_mono hF hA h2 hc⟩
  | false =>
    rw [rdT_p hx] at h ⊢
    exact rd_mono hF hA _ _ h
end
theorem cell_lt {F : Nat → Prop} {A : AH} {x : T} {n : Nat} (hc : cell F A x n) : n < A.length := by
  rcases Nat.lt_or_ge n A.length with z | z
  · exact z
  · have e := List.getElem?_eq_none z
    cases x <;> simp only [cell, e] at hc
    · obtain ⟨_, z, _⟩ := hc; cases z
    · obtain ⟨_, z, _⟩ := hc; cases z
    · obtain ⟨_, z, _⟩ := hc; cases z
/-! lists of trees -/
section
variable {F : Nat → Prop} {A : AH}
theorem rds_nil {vs : List Val} : rds F A [] vs ↔ vs = [] := by simp only [rds]
theorem rds_cons {x : T} {xs : List T} {vs : List Val} : rds F A (x :: xs) vs ↔ ∃ v r, vs = v :: r ∧ rd F A x v ∧ rds F A xs r := by simp only [rds]
theorem rds_len : ∀ {xs : List T} {vs : List Val}, rds F A xs vs → vs.length = xs.length
  | [], _, h => by rw [rds_nil] at h; subst h; rfl
  | x :: xs, _, h => by
    obtain ⟨v, r, rfl, _, h⟩ := rds_cons.mp h
    simp [rds_len h]
theorem rds_at : ∀ {xs : List T} {vs : List Val} {i : Nat} {x : T}, rds F A xs vs → xs[i]? = some x → ∃ v, vs[i]? = some v ∧ rd F A x v
  | [], _, _, _, _, e => by simp at e
  | x :: xs, _, 0, _, h, e => by
    obtain ⟨v, r, rfl, h1, h⟩ := rds_cons.mp h
    simp at e; subst e; exact ⟨v, by simp, h1⟩
  | x :: xs, _, i + 1, _, h, e => by
    obtain ⟨v, r, rfl, h1, h⟩ := rds_cons.mp h
    obtain ⟨w, e', h'⟩ := rds_at h (by simpa using e)
    exact ⟨w, by simpa using e', h'⟩
theorem rds_app : ∀ {xs ys : List T} {vs ws : List Val}, rds F A xs vs → rds F A ys ws → rds F A (xs ++ ys) (vs ++ ws)
  | [], _, _, _, h, k => by rw [rds_nil] at h; subst h; exact k
  | x :: xs, _, _, _, h, k => by
    obtain ⟨v, r, rfl, h1, h⟩ := rds_cons.mp h
    exact rds_cons.mpr ⟨_, _, rfl, h1, rds_app h k⟩
theorem rds_one {x : T} {v : Val} (h : rd F A x v) : rds F A [x] [v] := rds_cons.mpr ⟨v, [], rfl, h, rds_nil.mpr rfl⟩
theorem rds_take : ∀ {xs : List T} {vs : List Val} (n : Nat), rds F A xs vs → rds F A (xs.take n) (vs.take n)
  | _, _, 0, _ => by simp [rds]
  | [], _, n + 1, h => by rw [rds_nil] at h; subst h; simp [rds]
  | x :: xs, _, n + 1, h => by
    obtain ⟨v, r, rfl, h1, h⟩ := rds_cons.mp h
    exact rds_cons.mpr ⟨_, _, rfl, h1, rds_take n h⟩
theorem rds_drop : ∀ {xs : List T} {vs : List Val} (n : Nat), rds F A xs vs → rds F A (xs.drop n) (vs.drop n)
  | _, _, 0, h => h
  | [], _, n + 1, h => by rw [rds_nil] at h; subst h; simp [rds]
  | x :: xs, _, n + 1, h => by
    obtain ⟨v, r, rfl, h1, h⟩ := rds_cons.mp h
    exact rds_drop n h
theorem rds_rev : ∀ {xs : List T} {vs : List Val}, rds F A xs vs → rds F A xs.reverse vs.reverse
  | [], _, h => by rw [rds_nil] at h; subst h; simp [rds]
  | x :: xs, _, h => by
    obtain ⟨v, r, rfl, h1, h⟩ := rds_cons.mp h
    rw [List.reverse_cons, List.reverse_cons]
    exact rds_app (rds_rev h) (rds_one h1)
theorem rds_set : ∀ {xs : List T} {vs : List Val} (i : Nat) {x : T} {v : Val}, rds F A xs vs → rd F A x v → rds F A (xs.set i x) (vs.set i v)
  | [], _, _, _, _, h, _ => by rw [rds_nil] at h; subst h; simp [rds]
  | x :: xs, _, 0, _, _, h, k => by
    obtain ⟨v, r, rfl, h1, h⟩ := rds_cons.mp h
    exact rds_cons.mpr ⟨_, _, rfl, k, h⟩
  | x :: xs, _, i + 1, _, _, h, k => by
    obtain ⟨v, r, rfl, h1, h⟩ := rds_cons.mp h
    exact rds_cons.mpr ⟨_, _, rfl, h1, rds_set i h k⟩
theorem rds_rep {xs : List T} {vs : List Val} (h : rds F A xs vs) : ∀ n : Nat, rds F A (List.replicate n xs).flatten (List.replicate n vs).flatten
  | 0 => by simp [rds]
  | n + 1 => by
    rw [List.replicate_succ, List.replicate_succ, List.flatten_cons, List.flatten_cons]
    exact rds_app h (rds_rep h n)
theorem rds_map {α : Type} {f : α → T} {g : α → Val} : ∀ {xs : List α}, (∀ x ∈ xs, rd F A (f x) (g x)) → rds F A (xs.map f) (xs.map g)
  | [], _ => by simp [rds]
  | x :: xs, h => rds_cons.mpr ⟨_, _, rfl, h x List.mem_cons_self, rds_map fun y hy => h y (List.mem_cons_of_mem _ hy)⟩
theorem rds_ints (l : List Int) : rds F A (l.map T.int) (l.map Val.int) := rds_map fun x _ => by simp only [rd]
end

/-! ### the heap's state -/
structure Inv (A : AH) (F : Nat → Prop) (s : Drw) : Prop where
  fz : ∀ n, F n → 2 ≤ n ∧ n < A.length
  ds : ∃ R, A = DS s ++ R
theorem Inv.two {A : AH} {F : Nat → Prop} {s : Drw} (h : Inv A F s) : 2 ≤ A.length := by
  obtain ⟨R, e⟩ := h.ds; rw [e]; simp [ds_len]
structure Stp (b : Nat) (F : Nat → Prop) (A : AH) (F' : Nat → Prop) (A' : AH) : Prop where
  sub : ∀ n, F n → F' n
  new : ∀ n, F' n → F n ∨ b ≤ n
  keep : ∀ n, 2 ≤ n → n < A.length → F n ∨ n < b → A'[n]? = A[n]?
  len : A.length ≤ A'.length
theorem Stp.refl {b : Nat} {F : Nat → Prop} {A : AH} : Stp b F A F A := ⟨fun _ h => h, fun _ h => .inl h, fun _ _ _ _ => rfl, Nat.le_refl _⟩
theorem Stp.trans {b : Nat} {F F1 F2 : Nat → Prop} {A A1 A2 : AH} (h : Stp b F A F1 A1) (k : Stp b F1 A1 F2 A2) : Stp b F A F2 A2 :=
  ⟨fun n z => k.sub n (h.sub n z), fun n z => by
    rcases k.new n z with z | z
    · exact h.new n z
    · exact .inr z, fun n h2 hl z => by
    have := h.len
    rw [k.keep n h2 (by omega) (by rcases z with z | z; exact .inl (h.sub n z); exact .inr z), h.keep n h2 hl z], Nat.le_trans h.len k.len⟩
/-- an expression's step lies above all that was -/
theorem Stp.low {a b : Nat} {F F1 : Nat → Prop} {A A1 : AH} {s : Drw} (I : Inv A F s) (h : Stp a F A F1 A1) (hb : b ≤ a) (ha : a = A.length) : Stp b F A F1 A1 :=
  ⟨h.sub, fun n z => by rcases h.new n z with z | z; exact .inl z; exact .inr (Nat.le_trans hb z), fun n h2 hl _ => h.keep n h2 hl (.inr (by omega)), h.len⟩
theorem Stp.tr {F F1 F2 : Nat → Prop} {A A1 A2 : AH} {s : Drw} (I1 : Inv A1 F1 s) (h : Stp A.length F A F1 A1) (k : Stp A1.length F1 A1 F2 A2) : Stp A.length F A F2 A2 :=
  h.trans (k.low I1 h.len rfl)
theorem rd_stp {b : Nat} {F F' : Nat → Prop} {A A' : AH} {s : Drw} (I : Inv A F s) (h : Stp b F A F' A') {x : T} {v : Val} (r : rd F A x v) : rd F' A' x v :=
  rd_mono h.sub (fun n z => h.keep n (I.fz n z).1 (I.fz n z).2 (.inl z)) x v r
theorem rds_stp {b : Nat} {F F' : Nat → Prop} {A A' : AH} {s : Drw} (I : Inv A F s) (h : Stp b F A F' A') {x : List T} {v : List Val} (r : rds F A x v) : rds F' A' x v :=
  rds_mono h.sub (fun n z => h.keep n (I.fz n z).1 (I.fz n z).2 (.inl z)) x v r

/-! ### kinds of results -/
def dzR (F : Nat → Prop) (A : AH) (x : T) (v : Val) : Prop := ∃ ks ts n kvs g, x = .dz ks ts ∧ v = .ref n ∧ 2 ≤ n ∧ A[n]? = some (.dz kvs g) ∧ kvs.map (·.1) = ks ∧ rds F A ts (kvs.map (·.2))
def roR (F : Nat → Prop) (A : AH) (x : T) (v : Val) : Prop := rdT (fun n => 2 ≤ n) F A x v ∨ dzR F A x v
inductive Kd where
  | fz | fr | ro
def Kd.rel (k : Kd) (a : Nat) (F : Nat → Prop) (A : AH) (x : T) (v : Val) : Prop := match k with
  | .fz => rd F A x v
  | .fr => rdT (fun n => a ≤ n ∧ ¬ F n) F A x v
  | .ro => roR F A x v
theorem Kd.low {k : Kd} {a b : Nat} {F : Nat → Prop} {A : AH} {x : T} {v : Val} (h : b ≤ a) (r : k.rel a F A x v) : k.rel b F A x v := by
  cases k
  · exact r
  · exact rdT.imp r fun n _ z => ⟨by omega, z.2⟩
  · exact r
/-- what is wanted behind: R tells how the result reads -/
abbrev Rl (α β : Type) := Nat → (Nat → Prop) → AH → α → β → Prop
def PX {α β : Type} (R : Rl α β) (F : Nat → Prop) (A : AH) (r : Res α) (Q : β → AH → Prop) (E : XQ) : Prop := match r with
  | .ok x s' => ∀ v A' F', Stp A.length F A F' A' → Inv A' F' s' → R A.length F' A' x v → Q v A'
  | .ex e s' => ∀ A' F', Stp A.length F A F' A' → Inv A' F' s' → E e A'
  | .no => False
def LowR {α β : Type} (R : Rl α β) : Prop := ∀ a b F A x v, b ≤ a → R a F A x v → R b F A x v
theorem PX.up {α β : Type} {R : Rl α β} (hR : LowR R) {F F1 : Nat → Prop} {A A1 : AH} {s : Drw} {r : Res α} {Q : β → AH → Prop} {E : XQ} (I1 : Inv A1 F1 s) (h : Stp A.length F A F1 A1) (p : PX R F A r Q E) : PX R F1 A1 r Q E := by
  cases r with
  | ok x s' => exact fun v A' F' k I r => p v A' F' (h.tr I1 k) I (hR _ _ _ _ _ _ h.len r)
  | ex e s' => exact fun A' F' k I => p A' F' (h.tr I1 k) I
  | no => exact p
theorem PX.bind {α β γ δ : Type} {R : Rl α β} {R1 : Rl γ δ} (hR : LowR R) {m : M γ} {f : γ → M α} {s : Drw} {F : Nat → Prop} {A : AH} {Q : β → AH → Prop} {E : XQ} (h : PX R F A (bnd m f s) Q E) {Q1 : δ → AH → Prop}
    (k : ∀ x s1 v A1 F1, Stp A.length F A F1 A1 → Inv A1 F1 s1 → R1 A.length F1 A1 x v → PX R F1 A1 (f x s1) Q E → Q1 v A1) : PX R1 F A (m s) Q1 E := by
  unfold bnd at h
  cases e : m s with
  | ok x s1 => rw [e] at h; exact fun v A1 F1 St I r => k x s1 v A1 F1 St I r (h.up hR I St)
  | ex e1 s1 => rw [e] at h; exact h
  | no => rw [e] at h; exact h
theorem PX.imp {α β : Type} {R R1 : Rl α β} {r : Res α} {F : Nat → Prop} {A : AH} {Q Q1 : β → AH → Prop} {E : XQ} (h : PX R F A r Q E) (k : ∀ x s1 v A1 F1, Stp A.length F A F1 A1 → Inv A1 F1 s1 → R1 A.length F1 A1 x v → (∀ v A' F', Stp A.length F A F' A' → Inv A' F' s1 → R A.length F' A' x v → Q v A') → Q1 v A1) : PX R1 F A r Q1 E := by
  cases r with
  | ok x s1 => exact fun v A1 F1 St I r => k x s1 v A1 F1 St I r h
  | ex e s1 => exact h
  | no => exact h
theorem lowK (k : Kd) : LowR k.rel := fun a b F A x v h r => Kd.low h r

/-! ### slots -/
inductive Sl where
  | un | fz (x : T) | ow (x : T) | lk (n : Nat) (kvs : List (Key × Val)) (g : L2.HO) (ks : List Key) (ts : List T)
abbrev Gam := List Sl
def gat : Gam → Nat → Sl
  | [], _ => .un
  | x :: _, 0 => x
  | _ :: g, i + 1 => gat g i
def gset : Gam → Nat → Sl → Gam
  | [], _, _ => []
  | _ :: g, 0, y => y :: g
  | x :: g, i + 1, y => x :: gset g i y
theorem gset_len : ∀ (g : Gam) (i : Nat) (y : Sl), (gset g i y).length = g.length
  | [], _, _ => rfl
  | _ :: g, 0, y => rfl
  | x :: g, i + 1, y => by simp [gset, gset_len g i y]
theorem gat_set : ∀ (g : Gam) (i j : Nat) (y : Sl), gat (gset g i y) j = if i = j ∧ j < g.length then y else gat g j
  | [], _, _, _ => by simp [gset, gat]
  | x :: g, 0, 0, y => by simp [gset, gat]
  | x :: g, 0, j + 1, y => by simp [gset, gat]
  | x :: g, i + 1, 0, y => by simp [gset, gat]
  | x :: g, i + 1, j + 1, y => by simp [gset, gat, gat_set g i j y]
def own (b : Nat) (F : Nat → Prop) (n : Nat) : Prop := 2 ≤ n ∧ b ≤ n ∧ ¬ F n
structure GRel (b : Nat) (F : Nat → Prop) (A : AH) (t : Lv) (Γ : Gam) : Prop where
  len : t.length = Γ.length
  fz : ∀ i x, gat Γ i = .fz x → ∃ v, t[i]? = some (some v) ∧ rd F A x v
  ow : ∀ i x, gat Γ i = .ow x → ∃ v, t[i]? = some (some v) ∧ rdT (own b F) F A x v
  dj : ∀ i j x y n, gat Γ i = .ow x → gat Γ j = .ow y → t[i]? = some (some (.ref n)) → t[j]? = some (some (.ref n)) → own b F n → i = j
  lk : ∀ i n kvs g ks ts, gat Γ i = .lk n kvs g ks ts → t[i]? = some (some (.ref n)) ∧ own b F n ∧ A[n]? = some (.dz kvs g) ∧ kvs.map (·.1) = ks ∧ rds F A ts (kvs.map (·.2))
theorem gat_lt : ∀ {g : Gam} {i : Nat}, gat g i ≠ .un → i < g.length
  | [], _, h => absurd rfl h
  | _ :: g, 0, _ => by simp
  | _ :: g, i + 1, h => by have := gat_lt (g := g) (i := i) h; simp; omega
section
variable {b : Nat} {F F' : Nat → Prop} {A A' : AH} {t : Lv} {Γ : Gam} {s s' : Drw}
/-- an expression's step -/
theorem GRel.stp (I : Inv A F s) (h : Stp A.length F A F' A') (hb : b ≤ A.length) (g : GRel b F A t Γ) : GRel b F' A' t Γ := by
  have hz : ∀ n, n < A.length → own b F n → own b F' n := fun n hl z => ⟨z.1, z.2.1, fun q => by
      rcases h.new n q with q | q
      · exact z.2.2 q
      · omega⟩
  refine ⟨g.len, fun i x e => ?_, fun i x e => ?_, fun i j x y n e1 e2 t1 t2 o => ?_, fun i n kvs g' ks ts e => ?_⟩
  · obtain ⟨v, e1, r⟩ := g.fz i x e
    exact ⟨v, e1, rd_stp I h r⟩
  · obtain ⟨v, e1, r⟩ := g.ow i x e
    refine ⟨v, e1, rdT_mono h.sub (fun n z => h.keep n (I.fz n z).1 (I.fz n z).2 (.inl z)) (fun n _ z hl => ?_) r⟩
    exact ⟨hz n hl z, h.keep n z.1 hl (.inr hl)⟩
  · obtain ⟨v, q1, r⟩ := g.ow i x e1
    rw [t1] at q1; cases q1
    cases hx : isC x with
    | true =>
      rw [rdT_c hx] at r
      obtain ⟨m, em, om, hc⟩ := r
      cases em
      exact g.dj i j x y n e1 e2 t1 t2 om
    | false =>
      exfalso
      rw [rdT_p hx] at r
      cases x <;> first | (simp [isC] at hx; done) | skip
      all_goals simp only [rd] at r
      all_goals first | (cases r; done) | exact r.elim | skip
      · obtain ⟨_, e, _⟩ := r; cases e
      · obtain ⟨_, e, _⟩ := r; cases e
      · cases r; exact absurd o.1 (by decide)
  · obtain ⟨e1, h2, e2, e3, r⟩ := g.lk i n kvs g' ks ts e
    have hl : n < A.length := (List.getElem?_eq_some_iff.mp e2).1
    exact ⟨e1, hz n hl h2, (h.keep n h2.1 hl (.inr hl)).trans e2, e3, rds_mono h.sub (fun n z => h.keep n (I.fz n z).1 (I.fz n z).2 (.inl z)) _ _ r⟩
theorem at_set {i j : Nat} {v : Val} : (t.set i (some v))[j]? = if i = j ∧ j < t.length then some (some v) else t[j]? := by
  rw [List.getElem?_set]
  by_cases h : i = j
  · subst h
    by_cases hl : i < t.length
    · simp [hl]
    · simp [hl]
  · simp [h]
theorem GRel.setF (g : GRel b F A t Γ) (i : Nat) {x : T} {v : Val} (r : rd F A x v) : GRel b F A (t.set i (some v)) (gset Γ i (.fz x)) := by
  refine ⟨by rw [List.length_set, gset_len]; exact g.len, fun j y e => ?_, fun j y e => ?_, fun j k y z n e1 e2 t1 t2 o => ?_, fun j n kvs g' ks ts e => ?_⟩
  · rw [gat_set] at e
    rw [at_set, g.len]
    split at e
    · rename_i h; cases e; rw [if_pos h]; exact ⟨v, rfl, r⟩
    · rename_i h; rw [if_neg h]; exact g.fz j y e
  · rw [gat_set] at e
    rw [at_set, g.len]
    split at e
    · cases e
    · rename_i h; rw [if_neg h]; exact g.ow j y e
  · rw [gat_set] at e1 e2
    rw [at_set, g.len] at t1 t2
    split at e1
    · cases e1
    · rename_i h1
      split at e2
      · cases e2
      · rename_i h2
        rw [if_neg h1] at t1
        rw [if_neg h2] at t2
        exact g.dj j k y z n e1 e2 t1 t2 o
  · rw [gat_set] at e
    rw [at_set, g.len]
    split at e
    · cases e
    · rename_i h; rw [if_neg h]; exact g.lk j n kvs g' ks ts e
theorem GRel.setU (g : GRel b F A t Γ) (i : Nat) (v : Option Val) : GRel b F A (t.set i v) (gset Γ i .un) := by
  have key : ∀ j, ¬ (i = j ∧ j < Γ.length) → (t.set i v)[j]? = t[j]? := fun j h => by
    rw [List.getElem?_set]
    by_cases hi : i = j
    · subst hi
      have : ¬ i < t.length := fun z => h ⟨rfl, by rw [← g.len]; exact z⟩
      simp [this]
    · simp [hi]
  refine ⟨by rw [List.length_set, gset_len]; exact g.len, fun j y e => ?_, fun j y e => ?_, fun j k y z n e1 e2 t1 t2 o => ?_, fun j n kvs g' ks ts e => ?_⟩
  · rw [gat_set] at e
    split at e
    · cases e
    · rename_i h; rw [key j h]; exact g.fz j y e
  · rw [gat_set] at e
    split at e
    · cases e
    · rename_i h; rw [key j h]; exact g.ow j y e
  · rw [gat_set] at e1 e2
    split at e1
    · cases e1
    · rename_i h1
      split at e2
      · cases e2
      · rename_i h2
        rw [key j h1] at t1
        rw [key k h2] at t2
        exact g.dj j k y z n e1 e2 t1 t2 o
  · rw [gat_set] at e
    split at e
    · cases e
    · rename_i h; rw [key j h]; exact g.lk j n kvs g' ks ts e
/-- a fresh thing, above a -/
theorem GRel.setO (I : Inv A F s) {a : Nat} (hb : b ≤ a) (h2 : 2 ≤ a) (g : GRel b F A t Γ) (hn : ∀ j x n, gat Γ j = .ow x → t[j]? = some (some (.ref n)) → own b F n → n < a) (i : Nat) {x : T} {v : Val} (r : Kd.rel .fr a F A x v) : GRel b F A (t.set i (some v)) (gset Γ i (.ow x)) := by
  have r' : rdT (own b F) F A x v := rdT.imp r fun n _ z => ⟨by omega, by omega, z.2⟩
  have key : ∀ n, v = .ref n → own b F n → a ≤ n := fun n e o => by
    cases hx : isC x with
    | true =>
      have r := (rdT_c hx).mp r
      obtain ⟨m, em, om, hc⟩ := r
      rw [e] at em; cases em; exact om.1
    | false =>
      exfalso
      have r := (rdT_p hx).mp r
      subst e
      cases x <;> first | (simp [isC] at hx; done) | skip
      all_goals simp only [rd] at r
      all_goals first | (cases r; done) | exact r.elim | skip
      · obtain ⟨_, e, _⟩ := r; cases e
      · obtain ⟨_, e, _⟩ := r; cases e
      · cases r; exact absurd o.1 (by decide)
  refine ⟨by rw [List.length_set, gset_len]; exact g.len, fun j y e => ?_, fun j y e => ?_, fun j k y z n e1 e2 t1 t2 o => ?_, fun j n kvs g' ks ts e => ?_⟩
  · rw [gat_set] at e
    rw [at_set, g.len]
    split at e
    · cases e
    · rename_i h; rw [if_neg h]; exact g.fz j y e
  · rw [gat_set] at e
    rw [at_set, g.len]
    split at e
    · rename_i h; cases e; rw [if_pos h]; exact ⟨v, rfl, r'⟩
    · rename_i h; rw [if_neg h]; exact g.ow j y e
  · rw [gat_set] at e1 e2
    rw [at_set, g.len] at t1 t2
    split at e1
    · rename_i h1
      rw [if_pos h1] at t1
      simp only [Option.some.injEq] at t1
      have := key n t1 o
      split at e2
      · rename_i h2; exact h1.1.symm.trans h2.1
      · rename_i h2
        rw [if_neg h2] at t2
        have := hn k z n e2 t2 o
        omega
    · rename_i h1
      rw [if_neg h1] at t1
      split at e2
      · rename_i h2
        rw [if_pos h2] at t2
        simp only [Option.some.injEq] at t2
        have := key n t2 o
        have := hn j y n e1 t1 o
        omega
      · rename_i h2
        rw [if_neg h2] at t2
        exact g.dj j k y z n e1 e2 t1 t2 o
  · rw [gat_set] at e
    rw [at_set, g.len]
    split at e
    · cases e
    · rename_i h; rw [if_neg h]; exact g.lk j n kvs g' ks ts e
/-- owned things lie below the end -/
theorem GRel.owlt (g : GRel b F A t Γ) {j : Nat} {x : T} {n : Nat} (e : gat Γ j = .ow x) (et : t[j]? = some (some (.ref n))) (o : own b F n) : n < A.length := by
  obtain ⟨v, e1, r⟩ := g.ow j x e
  rw [et] at e1; cases e1
  cases hx : isC x with
  | true =>
    rw [rdT_c hx] at r
    obtain ⟨m, em, om, hc⟩ := r
    cases em
    exact cell_lt hc
  | false =>
    exfalso
    rw [rdT_p hx] at r
    cases x <;> first | (simp [isC] at hx; done) | skip
    all_goals simp only [rd] at r
    all_goals first | (cases r; done) | exact r.elim | skip
    · obtain ⟨_, e, _⟩ := r; cases e
    · obtain ⟨_, e, _⟩ := r; cases e
    · cases r; exact absurd o.1 (by decide)
end
end FM

namespace FM
open PySem PySem.Spec PyProof.Rows L2 EV

/-! ### expressions -/
structure At (b : Nat) (F : Nat → Prop) (A : AH) (t : Lv) (Γ : Gam) (s : Drw) : Prop where
  I : Inv A F s
  hb : b ≤ A.length
  g : GRel b F A t Γ
theorem At.stp {b : Nat} {F F' : Nat → Prop} {A A' : AH} {t : Lv} {Γ : Gam} {s s' : Drw} (h : At b F A t Γ s) (I' : Inv A' F' s') (st : Stp A.length F A F' A') : At b F' A' t Γ s' :=
  ⟨I', Nat.le_trans h.hb st.len, h.g.stp h.I st h.hb⟩
def RX (k : Kd) (Γ : Gam) (d : Den) (m : M T) : Prop := ∀ b F A t s, At b F A t Γ s → ∀ Q E, PX k.rel F A (m s) Q E → d t A Q E
/-- lists of results -/
def Kd.rels (k : Kd) (a : Nat) (F : Nat → Prop) (A : AH) : List T → List Val → Prop
  | [], vs => vs = []
  | x :: xs, vs => ∃ v r, vs = v :: r ∧ k.rel a F A x v ∧ Kd.rels k a F A xs r
theorem lowKs (k : Kd) : LowR (Kd.rels k) := fun a b F A x v h r => by
  induction x generalizing v with
  | nil => exact r
  | cons x xs ih => obtain ⟨v, r, e, h1, h2⟩ := r; exact ⟨v, r, e, Kd.low h h1, ih _ h2⟩
theorem rels_fz {a : Nat} {F : Nat → Prop} {A : AH} : ∀ {xs : List T} {vs : List Val}, Kd.rels .fz a F A xs vs ↔ rds F A xs vs
  | [], vs => by simp only [Kd.rels, rds]
  | x :: xs, vs => by
    simp only [Kd.rels, rds, Kd.rel]
    constructor
    · rintro ⟨v, r, e, h1, h2⟩; exact ⟨v, r, e, h1, rels_fz.mp h2⟩
    · rintro ⟨v, r, e, h1, h2⟩; exact ⟨v, r, e, h1, rels_fz.mpr h2⟩
def RA (k : Kd) (Γ : Gam) (d : DenA) (m : M (List T)) : Prop := ∀ b F A t s, At b F A t Γ s → ∀ Q E, PX k.rels F A (m s) Q E → d t A Q E
def eqR {α : Type} : Rl α α := fun _ _ _ x y => x = y
theorem lowE {α : Type} : LowR (eqR (α := α)) := fun _ _ _ _ _ _ _ h => h
def RT (Γ : Gam) (d : DenT) (m : M Bool) : Prop := ∀ b F A t s, At b F A t Γ s → ∀ Q E, PX eqR F A (m s) Q E → d t A Q E
def RO (Γ : Gam) (d : DenO) (m : M (Option Int)) : Prop := ∀ b F A t s, At b F A t Γ s → ∀ Q E, PX eqR F A (m s) Q E → d t A Q E

section
variable {Γ : Gam}
theorem ro_of {F : Nat → Prop} {A : AH} {x : T} {v : Val} {s : Drw} (I : Inv A F s) (h : rd F A x v) : roR F A x v :=
  .inl (rdT.imp (rd_iff.mp h) fun n _ z => (I.fz n z).1)
theorem rx_ro {d : Den} {m : M T} (h : RX .fz Γ d m) : RX .ro Γ d m := fun b F A t s a Q E p => h b F A t s a Q E (p.imp fun x s1 v A1 F1 st I r k => k v A1 F1 st I (ro_of I r))
/-- a fresh thing laid to the others -/
theorem fz_fr {a : Nat} {F : Nat → Prop} {A : AH} {x : T} {v : Val} {s : Drw} (I : Inv A F s) (h2 : 2 ≤ a) (h : Kd.rel .fr a F A x v) : ∃ F', (∀ n, F n → F' n) ∧ (∀ n, F' n → F n ∨ a ≤ n) ∧ Inv A F' s ∧ rd F' A x v := by
  cases hx : isC x with
  | true =>
    obtain ⟨n, e, ⟨h1, h3⟩, hc⟩ := (rdT_c hx).mp h
    refine ⟨fun m => F m ∨ m = n, fun m z => .inl z, fun m z => by rcases z with z | z; exact .inl z; exact .inr (by omega), ⟨fun m z => ?_, I.ds⟩, rd_iff.mpr ((rdT_c hx).mpr ⟨n, e, .inr rfl, cell_mono (fun m z => .inl z) (fun m z => rfl) rfl hc⟩)⟩
    rcases z with z | z
    · exact I.fz m z
    · subst z; exact ⟨by omega, cell_lt hc⟩
  | false => exact ⟨F, fun m z => z, fun m z => .inl z, I, (rdT_p hx).mp h⟩
theorem rx_fr {d : Den} {m : M T} (h : RX .fr Γ d m) : RX .fz Γ d m := fun b F A t s a Q E p => h b F A t s a Q E (p.imp fun x s1 v A1 F1 st I r k => by
  obtain ⟨F2, h1, h2, I2, r2⟩ := fz_fr I a.I.two r
  exact k v A1 F2 ⟨fun n z => h1 n (st.sub n z), fun n z => (h2 n z).elim (st.new n) .inr, st.keep, st.len⟩ I2 r2)
theorem rx_var {i : Nat} {x : T} (h : gat Γ i = .fz x) : RX .fz Γ (dVar i) (mret x) := fun b F A t s a Q E p => by
  obtain ⟨v, e, r⟩ := a.g.fz i x h
  exact ⟨v, e, p v A F .refl a.I r⟩
theorem rx_varO {i : Nat} {x : T} (h : gat Γ i = .ow x) : RX .ro Γ (dVar i) (mret x) := fun b F A t s a Q E p => by
  obtain ⟨v, e, r⟩ := a.g.ow i x h
  exact ⟨v, e, p v A F .refl a.I (.inl (rdT.imp r fun n _ z => z.1))⟩
theorem rx_varL {i n : Nat} {kvs : List (Key × Val)} {g : L2.HO} {ks : List Key} {ts : List T} (h : gat Γ i = .lk n kvs g ks ts) : RX .ro Γ (dVar i) (mret (.dz ks ts)) := fun b F A t s a Q E p => by
  obtain ⟨e, h2, e2, e3, r⟩ := a.g.lk i n kvs g ks ts h
  exact ⟨_, e, p _ A F .refl a.I (.inr ⟨ks, ts, n, kvs, g, rfl, rfl, h2.1, e2, e3, r⟩)⟩
/-- plain constants -/
def litT : Val → Option T
  | .non => some .non
  | .bl b => some (.bl b)
  | .int i => some (.int i)
  | .str x => some (.str x)
  | .ty n => some (.ty n)
  | _ => none
theorem rx_lit {v : Val} {x : T} (h : litT v = some x) : RX .fz Γ (dLit v) (mret x) := fun b F A t s a Q E p => by
  refine p v A F .refl a.I ?_
  cases v <;> simp only [litT, Option.some.injEq, reduceCtorEq] at h <;> subst h <;> simp only [Kd.rel, rd]

/-! operations -/
def S2 (k : Kd) (o : Op2) (f : T → T → Option T) : Prop := ∀ F A s x y z v w, Inv A F s → roR F A x v → roR F A y w → f x y = some z → ∀ Q : VQ, (∀ u A' F', Stp A.length F A F' A' → Inv A' F' s → k.rel A.length F' A' z u → Q u A') → o v w A Q
def S1 (k : Kd) (o : Op1) (f : T → Option T) : Prop := ∀ F A s x z v, Inv A F s → roR F A x v → f x = some z → ∀ Q : VQ, (∀ u A' F', Stp A.length F A F' A' → Inv A' F' s → k.rel A.length F' A' z u → Q u A') → o v A Q
theorem ro_stp {F F' : Nat → Prop} {A A' : AH} {x : T} {v : Val} {s : Drw} (I : Inv A F s) (h : Stp A.length F A F' A') (r : roR F A x v) : roR F' A' x v := by
  rcases r with r | ⟨ks, ts, n, kvs, g, e1, e2, h2, e3, e4, r⟩
  · exact .inl (rdT_mono h.sub (fun n z => h.keep n (I.fz n z).1 (I.fz n z).2 (.inl z)) (fun n _ z hl => ⟨z, h.keep n z hl (.inr hl)⟩) r)
  · have hl : n < A.length := (List.getElem?_eq_some_iff.mp e3).1
    exact .inr ⟨ks, ts, n, kvs, g, e1, e2, h2, (h.keep n h2 hl (.inr hl)).trans e3, e4, rds_stp I h r⟩
theorem rx_op {k : Kd} {o : Op2} {f : T → T → Option T} {da db : Den} {ma mb : M T} (ho : S2 k o f) (ha : RX .ro Γ da ma) (hb : RX .ro Γ db mb) : RX k Γ (dOp (wO o) da db) (bnd ma fun x => bnd mb fun y => ofO (f x y)) := fun b F A t s a Q E p => by
  rw [wO_eq]
  refine ha b F A t s a _ _ (p.bind (lowK k) fun x s1 v A1 F1 st1 I1 r1 p1 => ?_)
  refine hb b F1 A1 t s1 (a.stp I1 st1) _ _ (p1.bind (lowK k) fun y s2 w A2 F2 st2 I2 r2 p2 => ?_)
  cases e : f x y with
  | none => rw [e] at p2; exact p2.elim
  | some z => rw [e] at p2; exact ho F2 A2 s2 x y z v w I2 (ro_stp I1 st2 r1) r2 e Q p2
theorem rx_un {k : Kd} {o : Op1} {f : T → Option T} {da : Den} {ma : M T} (ho : S1 k o f) (ha : RX .ro Γ da ma) : RX k Γ (dUn (wU o) da) (bnd ma fun x => ofO (f x)) := fun b F A t s a Q E p => by
  rw [wU_eq]
  refine ha b F A t s a _ _ (p.bind (lowK k) fun x s1 v A1 F1 st1 I1 r1 p1 => ?_)
  cases e : f x with
  | none => rw [e] at p1; exact p1.elim
  | some z => rw [e] at p1; exact ho F1 A1 s1 x z v I1 r1 e Q p1
/-! lists of arguments -/
theorem ra_nil {k : Kd} : RA k Γ aNil (mret []) := fun b F A t s a Q E p => p [] A F .refl a.I rfl
theorem rels_stp {k : Kd} {F F' : Nat → Prop} {A A' : AH} {s : Drw} (hk : k = .fz ∨ k = .ro) (I : Inv A F s) (h : Stp A.length F A F' A') {x : T} {v : Val} {a a' : Nat} (r : k.rel a F A x v) : k.rel a' F' A' x v := by
  rcases hk with rfl | rfl
  · exact rd_stp I h r
  · exact ro_stp I h r
theorem relsUp {k : Kd} (hk : k = .fz ∨ k = .ro) {a a' : Nat} {F : Nat → Prop} {A : AH} : ∀ {xs : List T} {vs : List Val}, Kd.rels k a F A xs vs → Kd.rels k a' F A xs vs
  | [], _, h => h
  | x :: xs, _, ⟨v, r, e, h1, h2⟩ => ⟨v, r, e, by rcases hk with rfl | rfl <;> exact h1, relsUp hk h2⟩
theorem ra_cons {k : Kd} {d : Den} {da : DenA} {m : M T} {ma : M (List T)} (hk : k = .fz ∨ k = .ro) (h : RX k Γ d m) (ha : RA k Γ da ma) : RA k Γ (aCons d da) (bnd m fun x => bnd ma fun xs => mret (x :: xs)) := fun b F A t s a Q E p => by
  refine h b F A t s a _ _ (p.bind (lowKs k) fun x s1 v A1 F1 st1 I1 r1 p1 => ?_)
  refine ha b F1 A1 t s1 (a.stp I1 st1) _ _ (p1.bind (lowKs k) fun y s2 w A2 F2 st2 I2 r2 p2 => ?_)
  exact p2 (v :: w) A2 F2 .refl I2 ⟨v, w, rfl, rels_stp hk I1 st2 r1, relsUp hk r2⟩
theorem ra_consF {d : Den} {da : DenA} {m : M T} {ma : M (List T)} (h : RX .fz Γ d m) (ha : RA .fz Γ da ma) : RA .fz Γ (aCons d da) (bnd m fun x => bnd ma fun xs => mret (x :: xs)) := ra_cons (.inl rfl) h ha
theorem ra_consO {d : Den} {da : DenA} {m : M T} {ma : M (List T)} (h : RX .ro Γ d m) (ha : RA .ro Γ da ma) : RA .ro Γ (aCons d da) (bnd m fun x => bnd ma fun xs => mret (x :: xs)) := ra_cons (.inr rfl) h ha
theorem rx_tup {da : DenA} {ma : M (List T)} (ha : RA .fz Γ da ma) : RX .fz Γ (dTup da) (bnd ma fun xs => mret (.tup xs)) := fun b F A t s a Q E p =>
  ha b F A t s a _ _ (p.bind (lowK .fz) fun xs s1 vs A1 F1 st1 I1 r1 p1 => p1 _ A1 F1 .refl I1 (by simp only [Kd.rel, rd]; exact ⟨vs, rfl, rels_fz.mp r1⟩))
/-- a new cell -/
theorem new_cell {F : Nat → Prop} {A : AH} {s : Drw} {o : Ob} (I : Inv A F s) : Stp A.length F A F (A ++ [o]) ∧ Inv (A ++ [o]) F s :=
  ⟨⟨fun n z => z, fun n z => .inl z, fun n h2 hl _ => by rw [List.getElem?_append_left hl], by simp⟩, ⟨fun n z => ⟨(I.fz n z).1, by have := (I.fz n z).2; simp; omega⟩, by obtain ⟨R, e⟩ := I.ds; exact ⟨R ++ [o], by rw [e, List.append_assoc]⟩⟩⟩
theorem new_fr {F : Nat → Prop} {A : AH} {s : Drw} {o : Ob} {x : T} (I : Inv A F s) (hx : isC x = true) (hc : ∀ A', Stp A.length F A F A' → A'[A.length]? = some o → cell F A' x A.length) : Kd.rel .fr A.length F (A ++ [o]) x (.ref A.length) := by
  have e : (A ++ [o])[A.length]? = some o := by rw [List.getElem?_append_right (Nat.le_refl _)]; simp
  refine (rdT_c hx).mpr ⟨A.length, rfl, ⟨Nat.le_refl _, fun z => absurd (I.fz _ z).2 (Nat.lt_irrefl _)⟩, hc _ (new_cell I).1 e⟩
theorem new_lst {F : Nat → Prop} {A : AH} {s : Drw} {ts : List T} {vs : List Val} (I : Inv A F s) (h : rds F A ts vs) : Kd.rel .fr A.length F (A ++ [.lst vs]) (.lst ts) (.ref A.length) :=
  new_fr I rfl (fun A' st e => ⟨vs, e, rds_stp I st h⟩)
theorem rx_lst {da : DenA} {ma : M (List T)} (ha : RA .fz Γ da ma) : RX .fr Γ (dLstB da) (bnd ma fun xs => mret (.lst xs)) := fun b F A t s a Q E p => by
  rw [dLstB_eq]
  refine ha b F A t s a _ _ (p.bind (lowK .fr) fun xs s1 vs A1 F1 st1 I1 r1 p1 => ?_)
  obtain ⟨st, I2⟩ := new_cell (o := .lst vs) I1
  exact p1 _ _ F1 st I2 (new_lst I1 (rels_fz.mp r1))
theorem rx_newK : RX .fr Γ dNewKB (mret (.dk [] [])) := fun b F A t s a Q E p => by
  rw [dNewKB_eq]
  obtain ⟨st, I2⟩ := new_cell (o := .dk []) a.I
  exact p _ _ F st I2 (new_fr a.I rfl (fun A' st e => ⟨[], e, rfl, by simp [rds]⟩))
theorem rx_newT : RX .fr Γ dNewTB (mret (.dt [] [])) := fun b F A t s a Q E p => by
  rw [dNewTB_eq]
  obtain ⟨st, I2⟩ := new_cell (o := .dt []) a.I
  exact p _ _ F st I2 (new_fr a.I rfl (fun A' st e => ⟨[], e, rfl, by simp [rds]⟩))
/-! tests -/
def blT : T → Option Bool
  | .bl b => some b
  | _ => none
theorem rt_val {d : Den} {m : M T} (h : RX .fz Γ d m) : RT Γ (tVal d) (bnd m fun x => ofO (blT x)) := fun b F A t s a Q E p => by
  refine h b F A t s a _ _ (p.bind lowE fun x s1 v A1 F1 st1 I1 r1 p1 => ?_)
  cases x <;> first | exact p1.elim | skip
  rename_i k
  simp only [Kd.rel, rd] at r1
  exact ⟨k, r1, p1 _ A1 F1 .refl I1 rfl⟩
theorem rt_not {d : DenT} {m : M Bool} (h : RT Γ d m) : RT Γ (EV.tNot d) (bnd m fun b => mret (!b)) := fun b F A t s a Q E p => by
  refine h b F A t s a _ _ (p.bind lowE fun x s1 v A1 F1 st1 I1 r1 p1 => ?_)
  cases r1
  exact p1 _ A1 F1 .refl I1 rfl
theorem rt_and {d e : DenT} {m n : M Bool} (h : RT Γ d m) (k : RT Γ e n) : RT Γ (tAndB d e) (bnd m fun b => if b = true then n else mret false) := fun b F A t s a Q E p => by
  refine h b F A t s a _ _ (p.bind lowE fun x s1 v A1 F1 st1 I1 r1 p1 => ?_)
  cases r1
  cases x with
  | true => rw [bI_t]; exact k b F1 A1 t s1 (a.stp I1 st1) _ _ p1
  | false => rw [bI_f]; exact p1 _ A1 F1 .refl I1 rfl
theorem rt_or {d e : DenT} {m n : M Bool} (h : RT Γ d m) (k : RT Γ e n) : RT Γ (tOrB d e) (bnd m fun b => if b = true then mret true else n) := fun b F A t s a Q E p => by
  refine h b F A t s a _ _ (p.bind lowE fun x s1 v A1 F1 st1 I1 r1 p1 => ?_)
  cases r1
  cases x with
  | true => rw [bI_t]; exact p1 _ A1 F1 .refl I1 rfl
  | false => rw [bI_f]; exact k b F1 A1 t s1 (a.stp I1 st1) _ _ p1
theorem rt_yes : RT Γ tYesV (mret true) := fun b F A t s a Q E p => p _ A F .refl a.I rfl
/-- truth -/
def truT : T → Option Bool
  | .non => some false
  | .bl b => some b
  | .int i => some (i != 0)
  | .str y => if y.length ≤ sizeLine then some ((y.length : Int) != 0) else none
  | .tup xs => some (!xs.isEmpty)
  | .lst xs => some (!xs.isEmpty)
  | .dk ks _ => some (!ks.isEmpty)
  | _ => none
theorem isE {F : Nat → Prop} {A : AH} {ts : List T} {vs : List Val} (h : rds F A ts vs) : vs.isEmpty = ts.isEmpty := by
  have := rds_len h
  cases ts <;> cases vs <;> first | rfl | simp at this
theorem tru_ok {F : Nat → Prop} {A : AH} {x : T} {v : Val} {k : Bool} (r : roR F A x v) (h : truT x = some k) : truB A v = some k := by
  rcases r with r | ⟨ks, ts, n, kvs, g, rfl, _⟩
  · cases x with
    | non => simp only [rdT, rd] at r; subst r; exact h
    | bl b => simp only [rdT, rd] at r; subst r; exact h
    | int i => simp only [rdT, rd] at r; subst r; exact h
    | str y => simp only [rdT, rd] at r; subst r; exact h
    | tup ts => simp only [rdT, rd] at r; obtain ⟨vs, rfl, r⟩ := r; simp only [truB, isE r]; exact h
    | lst ts => obtain ⟨n, rfl, _, vs, e, r⟩ := r; simp only [truB, e, isE r]; exact h
    | dk ks ts =>
      obtain ⟨n, rfl, _, vs, e, ek, r⟩ := r
      simp only [truB, e]
      simp only [truT] at h
      rw [← h, ← ek]
      cases vs <;> rfl
    | _ => simp [truT] at h
  · simp [truT] at h
theorem rt_tru {d : Den} {m : M T} (h : RX .ro Γ d m) : RT Γ (tTru d) (bnd m fun x => ofO (truT x)) := fun b F A t s a Q E p => by
  refine h b F A t s a _ _ (p.bind lowE fun x s1 v A1 F1 st1 I1 r1 p1 => ?_)
  cases e : truT x with
  | none => rw [e] at p1; exact p1.elim
  | some k => rw [e] at p1; exact ⟨k, tru_ok r1 e, p1 _ A1 F1 .refl I1 rfl⟩
/-! and, or, not, if as values -/
theorem rx_not {d : Den} {m : M T} (h : RX .ro Γ d m) : RX .fz Γ (dNotV d) (bnd m fun x => ofO ((truT x).map fun b => .bl (!b))) := fun b F A t s a Q E p => by
  refine h b F A t s a _ _ (p.bind (lowK .fz) fun x s1 v A1 F1 st1 I1 r1 p1 => ?_)
  cases e : truT x with
  | none => rw [e] at p1; exact p1.elim
  | some k => rw [e] at p1; exact ⟨k, tru_ok r1 e, p1 _ A1 F1 .refl I1 (by simp only [Kd.rel, rd])⟩
theorem rx_and {d e : Den} {m n : M T} (h : RX .fz Γ d m) (k : RX .fz Γ e n) : RX .fz Γ (dAndB d e) (bnd m fun x => bnd (ofO (truT x)) fun b => if b = true then n else mret x) := fun b F A t s a Q E p => by
  refine h b F A t s a _ _ (p.bind (lowK .fz) fun x s1 v A1 F1 st1 I1 r1 p1 => ?_)
  cases e : truT x with
  | none => rw [e] at p1; exact p1.elim
  | some c =>
    rw [e] at p1
    refine ⟨c, tru_ok (ro_of I1 r1) e, ?_⟩
    cases c with
    | true => rw [bI_t]; exact k b F1 A1 t s1 (a.stp I1 st1) _ _ p1
    | false => rw [bI_f]; exact p1 _ A1 F1 .refl I1 r1
theorem rx_or {d e : Den} {m n : M T} (h : RX .fz Γ d m) (k : RX .fz Γ e n) : RX .fz Γ (dOrB d e) (bnd m fun x => bnd (ofO (truT x)) fun b => if b = true then mret x else n) := fun b F A t s a Q E p => by
  refine h b F A t s a _ _ (p.bind (lowK .fz) fun x s1 v A1 F1 st1 I1 r1 p1 => ?_)
  cases e : truT x with
  | none => rw [e] at p1; exact p1.elim
  | some c =>
    rw [e] at p1
    refine ⟨c, tru_ok (ro_of I1 r1) e, ?_⟩
    cases c with
    | false => rw [bI_f]; exact k b F1 A1 t s1 (a.stp I1 st1) _ _ p1
    | true => rw [bI_t]; exact p1 _ A1 F1 .refl I1 r1
theorem rx_if {k : Kd} {c : DenT} {d e : Den} {mc : M Bool} {m n : M T} (h : RT Γ c mc) (h1 : RX k Γ d m) (h2 : RX k Γ e n) : RX k Γ (dIfB c d e) (bnd mc fun b => if b = true then m else n) := fun b F A t s a Q E p => by
  refine h b F A t s a _ _ (p.bind (lowK k) fun x s1 v A1 F1 st1 I1 r1 p1 => ?_)
  cases r1
  cases x with
  | true => rw [bI_t]; exact h1 b F1 A1 t s1 (a.stp I1 st1) _ _ p1
  | false => rw [bI_f]; exact h2 b F1 A1 t s1 (a.stp I1 st1) _ _ p1
/-! slices -/
theorem ro_no : RO Γ pNo (mret none) := fun b F A t s a Q E p => p _ A F .refl a.I rfl
def intO : T → Option Int
  | .int i => some i
  | _ => none
theorem ro_so {d : Den} {m : M T} (h : RX .fz Γ d m) : RO Γ (pSo d) (bnd m fun x => bnd (ofO (intO x)) fun i => mret (some i)) := fun b F A t s a Q E p => by
  refine h b F A t s a _ _ (p.bind lowE fun x s1 v A1 F1 st1 I1 r1 p1 => ?_)
  cases x <;> first | exact p1.elim | skip
  rename_i i
  simp only [Kd.rel, rd] at r1
  exact ⟨i, r1, p1 _ A1 F1 .refl I1 rfl⟩
def cutT {α : Type} (xs : List α) (lo hi : Option Int) : List α := (xs.drop (HT.sIx xs.length 0 lo)).take (HT.sIx xs.length xs.length hi - HT.sIx xs.length 0 lo)
def slT (x : T) (lo hi : Option Int) : Option T := match x with
  | .tup xs => some (.tup (cutT xs lo hi))
  | .lst xs => some (.lst (cutT xs lo hi))
  | _ => none
theorem cut_rds {F : Nat → Prop} {A : AH} {ts : List T} {vs : List Val} {lo hi : Option Int} (h : rds F A ts vs) : rds F A (cutT ts lo hi) (cutL vs lo hi) := by
  unfold cutT cutL
  rw [rds_len h]
  exact rds_take _ (rds_drop _ h)
theorem rx_sl {d : Den} {lo hi : DenO} {m : M T} {ml mh : M (Option Int)} (h : RX .ro Γ d m) (h1 : RO Γ lo ml) (h2 : RO Γ hi mh) : RX .fr Γ (dSl d lo hi) (bnd m fun x => bnd ml fun a => bnd mh fun b => ofO (slT x a b)) := fun b F A t s a Q E p => by
  refine h b F A t s a _ _ (p.bind (lowK .fr) fun x s1 v A1 F1 st1 I1 r1 p1 => ?_)
  have a1 := a.stp I1 st1
  refine h1 b F1 A1 t s1 a1 _ _ (p1.bind (lowK .fr) fun i s2 i' A2 F2 st2 I2 r2 p2 => ?_)
  cases r2
  have a2 := a1.stp I2 st2
  refine h2 b F2 A2 t s2 a2 _ _ (p2.bind (lowK .fr) fun j s3 j' A3 F3 st3 I3 r3 p3 => ?_)
  cases r3
  have r := ro_stp I2 st3 (ro_stp I1 st2 r1)
  rcases r with r | ⟨ks, ts, n, kvs, g, rfl, _⟩
  · cases x <;> first | exact p3.elim | skip
    · simp only [rdT, rd] at r
      obtain ⟨vs, rfl, r⟩ := r
      refine p3 (.tup (cutL vs i j)) A3 F3 .refl I3 ?_
      show rdT (fun n => A3.length ≤ n ∧ ¬ F3 n) F3 A3 (.tup (cutT _ i j)) (.tup (cutL vs i j))
      rw [rdT_p rfl]; simp only [rd]; exact ⟨_, rfl, cut_rds r⟩
    · obtain ⟨n, rfl, h2, vs, e, r⟩ := r
      obtain ⟨st, I4⟩ := new_cell (o := .lst (cutL vs i j)) I3
      exact ⟨vs, lstAt_of e, p3 _ _ F3 st I4 (new_lst I3 (cut_rds r))⟩
  · exact p3.elim
end
end FM

namespace FM
open PySem PySem.Spec PyProof.Rows L2 EV

/-! ### calls -/
/-- what a def does -/
def RF (fn : FDen) (m : List T → M T) : Prop := ∀ F A s xs vs, Inv A F s → rds F A xs vs → ∀ Q E, PX (Kd.rel .fz) F A (m xs s) Q E → fn vs A Q E
section
variable {Γ : Gam}
theorem rx_call {fn : FDen} {m : List T → M T} {da : DenA} {ma : M (List T)} (hf : RF fn m) (ha : RA .fz Γ da ma) : RX .fz Γ (dCall fn da) (bnd ma m) := fun b F A t s a Q E p => by
  refine ha b F A t s a _ _ (p.bind (lowK .fz) fun xs s1 vs A1 F1 st1 I1 r1 p1 => ?_)
  exact hf F1 A1 s1 xs vs I1 (rels_fz.mp r1) Q E p1
def SN (k : Kd) (o : OpN) (f : List T → Option T) : Prop := ∀ F A s xs z vs, Inv A F s → Kd.rels .ro 0 F A xs vs → f xs = some z → ∀ Q : VQ, (∀ u A' F', Stp A.length F A F' A' → Inv A' F' s → k.rel A.length F' A' z u → Q u A') → o vs A Q
theorem rx_cb {k : Kd} {o : OpN} {f : List T → Option T} {da : DenA} {ma : M (List T)} (ho : SN k o f) (ha : RA .ro Γ da ma) : RX k Γ (dCB (wN o) da) (bnd ma fun xs => ofO (f xs)) := fun b F A t s a Q E p => by
  rw [wN_eq]
  refine ha b F A t s a _ _ (p.bind (lowK k) fun xs s1 vs A1 F1 st1 I1 r1 p1 => ?_)
  cases e : f xs with
  | none => rw [e] at p1; exact p1.elim
  | some z => rw [e] at p1; exact ho F1 A1 s1 xs z vs I1 (relsUp (.inr rfl) r1) e Q p1
end

/-! ### operations by trees -/
def toV : T → Val
  | .non => .non
  | .bl b => .bl b
  | .int i => .int i
  | .str x => .str x
  | .tup xs => .tup (toVs xs)
  | _ => .ref 0
where toVs : List T → List Val
  | [] => []
  | x :: xs => toV x :: toVs xs
mutual
/-- plain data, not too deep -/
def okT : Nat → T → Bool
  | _, .non => true
  | _, .bl _ => true
  | _, .int _ => true
  | _, .str x => PyData.strOk x
  | 0, .tup _ => false
  | n + 1, .tup xs => okTs n xs
  | _, _ => false
def okTs : Nat → List T → Bool
  | _, [] => true
  | n, x :: xs => okT n x && okTs n xs
end
mutual
def eqT : T → T → Bool
  | .non, .non => true
  | .bl a, .bl b => a == b
  | .bl a, .int j => (if a then 1 else 0) == j
  | .int i, .bl b => i == (if b then 1 else 0)
  | .int i, .int j => i == j
  | .str x, .str y => x == y
  | .tup xs, .tup ys => eqTs xs ys
  | _, _ => false
def eqTs : List T → List T → Bool
  | [], [] => true
  | x :: xs, y :: ys => eqT x y && eqTs xs ys
  | _, _ => false
end
section
variable {F : Nat → Prop} {A : AH}
mutual
theorem rd_okT : ∀ (n : Nat) (x : T) (v : Val), rd F A x v → okT n x = true → okV n v = true
  | n, .non, v, r, h => by simp only [rd] at r; subst r; cases n <;> rfl
  | n, .bl _, v, r, h => by simp only [rd] at r; subst r; cases n <;> rfl
  | n, .int _, v, r, h => by simp only [rd] at r; subst r; cases n <;> rfl
  | n, .str _, v, r, h => by simp only [rd] at r; subst r; cases n <;> simpa only [okT, okV] using h
  | 0, .tup _, v, r, h => by simp [okT] at h
  | n + 1, .tup xs, v, r, h => by
    simp only [rd] at r
    obtain ⟨vs, rfl, r⟩ := r
    simp only [okT] at h
    simp only [okV]
    exact rds_okT n xs vs r h
  | n, .lst _, v, r, h => by cases n <;> simp [okT] at h
  | n, .dk _ _, v, r, h => by cases n <;> simp [okT] at h
  | n, .dt _ _, v, r, h => by cases n <;> simp [okT] at h
  | n, .dz _ _, v, r, h => by cases n <;> simp [okT] at h
  | n, .ty _, v, r, h => by cases n <;> simp [okT] at h
  | n, .wl _, v, r, h => by cases n <;> simp [okT] at h
  | n, .tok, v, r, h => by cases n <;> simp [okT] at h
theorem rds_okT : ∀ (n : Nat) (xs : List T) (vs : List Val), rds F A xs vs → okTs n xs = true → okVs n vs = true
  | n, [], vs, r, _ => by rw [rds_nil] at r; subst r; simp [okVs]
  | n, x :: xs, vs, r, h => by
    obtain ⟨v, r', rfl, r1, r2⟩ := rds_cons.mp r
    simp only [okTs, Bool.and_eq_true] at h
    simp only [okVs, Bool.and_eq_true]
    exact ⟨rd_okT n x v r1 h.1, rds_okT n xs r' r2 h.2⟩
end
mutual
theorem rd_eqT : ∀ (n : Nat) (x : T) (v : Val), rd F A x v → okT n x = true → ∀ (m : Nat) (y : T) (w : Val), rd F A y w → okT m y = true → EV.eqV v w = eqT x y
  | n, .non, v, r, h => fun m y w r2 h2 => by
    simp only [rd] at r; subst r
    cases y <;> simp only [rd] at r2 <;> first | (subst r2; simp [EV.eqV, eqT]; done) | (obtain ⟨_, rfl, _⟩ := r2; simp [EV.eqV, eqT]; done) | (cases m <;> simp [okT] at h2)
  | n, .bl _, v, r, h => fun m y w r2 h2 => by
    simp only [rd] at r; subst r
    cases y <;> simp only [rd] at r2 <;> first | (subst r2; simp [EV.eqV, eqT]; done) | (obtain ⟨_, rfl, _⟩ := r2; simp [EV.eqV, eqT]; done) | (cases m <;> simp [okT] at h2)
  | n, .int _, v, r, h => fun m y w r2 h2 => by
    simp only [rd] at r; subst r
    cases y <;> simp only [rd] at r2 <;> first | (subst r2; simp [EV.eqV, eqT]; done) | (obtain ⟨_, rfl, _⟩ := r2; simp [EV.eqV, eqT]; done) | (cases m <;> simp [okT] at h2)
  | n, .str _, v, r, h => fun m y w r2 h2 => by
    simp only [rd] at r; subst r
    cases y <;> simp only [rd] at r2 <;> first | (subst r2; simp [EV.eqV, eqT]; done) | (obtain ⟨_, rfl, _⟩ := r2; simp [EV.eqV, eqT]; done) | (cases m <;> simp [okT] at h2)
  | 0, .tup _, v, r, h => by simp [okT] at h
  | n + 1, .tup xs, v, r, h => fun m y w r2 h2 => by
    simp only [rd] at r
    obtain ⟨vs, rfl, r⟩ := r
    simp only [okT] at h
    cases y <;> simp only [rd] at r2 <;> first | (subst r2; simp [EV.eqV, eqT]; done) | (cases m <;> simp [okT] at h2; done) | skip
    obtain ⟨ws, rfl, r2⟩ := r2
    cases m with
    | zero => simp [okT] at h2
    | succ m =>
      simp only [okT] at h2
      simp only [EV.eqV, eqT]
      exact rds_eqT n xs vs r h m _ ws r2 h2
  | n, .lst _, v, r, h => by cases n <;> simp [okT] at h
  | n, .dk _ _, v, r, h => by cases n <;> simp [okT] at h
  | n, .dt _ _, v, r, h => by cases n <;> simp [okT] at h
  | n, .dz _ _, v, r, h => by cases n <;> simp [okT] at h
  | n, .ty _, v, r, h => by cases n <;> simp [okT] at h
  | n, .wl _, v, r, h => by cases n <;> simp [okT] at h
  | n, .tok, v, r, h => by cases n <;> simp [okT] at h
theorem rds_eqT : ∀ (n : Nat) (xs : List T) (vs : List Val), rds F A xs vs → okTs n xs = true → ∀ (m : Nat) (ys : List T) (ws : List Val), rds F A ys ws → okTs m ys = true → EV.eqVs vs ws = eqTs xs ys
  | n, [], vs, r, _ => fun m ys ws r2 h2 => by
    rw [rds_nil] at r; subst r
    cases ys with
    | nil => rw [rds_nil] at r2; subst r2; simp [EV.eqVs, eqTs]
    | cons y ys => obtain ⟨w, r', rfl, _⟩ := rds_cons.mp r2; simp [EV.eqVs, eqTs]
  | n, x :: xs, vs, r, h => fun m ys ws r2 h2 => by
    obtain ⟨v, r', rfl, r1, r3⟩ := rds_cons.mp r
    cases ys with
    | nil => rw [rds_nil] at r2; subst r2; simp [EV.eqVs, eqTs]
    | cons y ys =>
      obtain ⟨w, r'', rfl, r4, r5⟩ := rds_cons.mp r2
      simp only [okTs, Bool.and_eq_true] at h h2
      simp only [EV.eqVs, eqTs]
      rw [rd_eqT n x v r1 h.1 m y w r4 h2.1, rds_eqT n xs r' r3 h.2 m ys r'' r5 h2.2]
end
end
/-- a readable thing that is no cell -/
theorem ro_p {F : Nat → Prop} {A : AH} {x : T} {v : Val} (r : roR F A x v) (hx : isC x = false) (hz : ∀ ks ts, x ≠ .dz ks ts) : rd F A x v := by
  rcases r with r | ⟨ks, ts, n, kvs, g, e, _⟩
  · exact (rdT_p hx).mp r
  · exact absurd e (hz ks ts)
theorem ro_int {F : Nat → Prop} {A : AH} {i : Int} {v : Val} (r : roR F A (.int i) v) : v = .int i := by
  have := ro_p r rfl (fun _ _ z => nomatch z); simpa only [rd] using this
theorem ro_str {F : Nat → Prop} {A : AH} {i : Str} {v : Val} (r : roR F A (.str i) v) : v = .str i := by
  have := ro_p r rfl (fun _ _ z => nomatch z); simpa only [rd] using this
theorem ro_bl {F : Nat → Prop} {A : AH} {i : Bool} {v : Val} (r : roR F A (.bl i) v) : v = .bl i := by
  have := ro_p r rfl (fun _ _ z => nomatch z); simpa only [rd] using this
theorem ro_non {F : Nat → Prop} {A : AH} {v : Val} (r : roR F A .non v) : v = .non := by
  have := ro_p r rfl (fun _ _ z => nomatch z); simpa only [rd] using this
theorem ro_ty {F : Nat → Prop} {A : AH} {n : String} {v : Val} (r : roR F A (.ty n) v) : v = .ty n := by
  have := ro_p r rfl (fun _ _ z => nomatch z); simpa only [rd] using this
theorem ro_tup {F : Nat → Prop} {A : AH} {ts : List T} {v : Val} (r : roR F A (.tup ts) v) : ∃ vs, v = .tup vs ∧ rds F A ts vs := by
  have := ro_p r rfl (fun _ _ z => nomatch z); simpa only [rd] using this
theorem ro_wl {F : Nat → Prop} {A : AH} {ts : List T} {v : Val} (r : roR F A (.wl ts) v) : ∃ vs, v = .wl vs ∧ rds F A ts vs := by
  have := ro_p r rfl (fun _ _ z => nomatch z); simpa only [rd] using this
theorem ro_lst {F : Nat → Prop} {A : AH} {ts : List T} {v : Val} (r : roR F A (.lst ts) v) : ∃ n vs, v = .ref n ∧ A[n]? = some (.lst vs) ∧ rds F A ts vs := by
  rcases r with ⟨n, e, _, vs, ea, r⟩ | ⟨ks, ts, n, kvs, g, e, _⟩
  · exact ⟨n, vs, e, ea, r⟩
  · cases e
theorem ro_dk {F : Nat → Prop} {A : AH} {ks : List Key} {ts : List T} {v : Val} (r : roR F A (.dk ks ts) v) : ∃ n kvs, v = .ref n ∧ A[n]? = some (.dk kvs) ∧ kvs.map (·.1) = ks ∧ rds F A ts (kvs.map (·.2)) := by
  rcases r with ⟨n, e, _, vs, ea, ek, r⟩ | ⟨ks, ts, n, kvs, g, e, _⟩
  · exact ⟨n, vs, e, ea, ek, r⟩
  · cases e
theorem ro_dt {F : Nat → Prop} {A : AH} {ks : List (List Key)} {ts : List T} {v : Val} (r : roR F A (.dt ks ts) v) : ∃ n kvs, v = .ref n ∧ A[n]? = some (.dt kvs) ∧ kvs.map (·.1) = ks ∧ rds F A ts (kvs.map (·.2)) := by
  rcases r with ⟨n, e, _, vs, ea, ek, r⟩ | ⟨ks, ts, n, kvs, g, e, _⟩
  · exact ⟨n, vs, e, ea, ek, r⟩
  · cases e
theorem ro_dz {F : Nat → Prop} {A : AH} {ks : List Key} {ts : List T} {v : Val} (r : roR F A (.dz ks ts) v) : ∃ n kvs g, v = .ref n ∧ A[n]? = some (.dz kvs g) ∧ kvs.map (·.1) = ks ∧ rds F A ts (kvs.map (·.2)) := by
  rcases r with r | ⟨ks, ts, n, kvs, g, e, e2, _, e3, e4, r⟩
  · simp only [rdT, rd] at r
  · cases e; exact ⟨n, kvs, g, e2, e3, e4, r⟩
/-- the result is no cell -/
theorem k_pl {k : Kd} {a : Nat} {F : Nat → Prop} {A : AH} {x : T} {v : Val} (h : isC x = false) (r : rd F A x v) : k.rel a F A x v := by
  cases k
  · exact r
  · exact (rdT_p h).mpr r
  · exact .inl ((rdT_p h).mpr r)
section
variable {k : Kd}
def intT (f : Int → Int → Int) (x y : T) : Option T := match x, y with
  | .int i, .int j => some (.int (f i j))
  | _, _ => none
theorem s2_int (f : Int → Int → Int) : S2 k (oInt f) (intT f) := fun F A s x y z v w I r1 r2 e Q q => by
  cases x <;> first | (simp [intT] at e; done) | skip
  cases y <;> first | (simp [intT] at e; done) | skip
  simp only [intT, Option.some.injEq] at e
  rw [ro_int r1, ro_int r2]; subst e
  exact q _ A F .refl I (k_pl rfl (by simp only [rd]))
open Classical in
noncomputable def intCT (C : Int → Int → Prop) (f : Int → Int → Int) (x y : T) : Option T := match x, y with
  | .int i, .int j => if C i j then some (.int (f i j)) else none
  | _, _ => none
theorem s2_intC (C : Int → Int → Prop) (f : Int → Int → Int) : S2 k (oIntC C f) (intCT C f) := fun F A s x y z v w I r1 r2 e Q q => by
  cases x <;> first | (simp [intCT] at e; done) | skip
  cases y <;> first | (simp [intCT] at e; done) | skip
  simp only [intCT] at e
  split at e
  · rename_i hc
    simp only [Option.some.injEq] at e
    rw [ro_int r1, ro_int r2]; subst e
    exact ⟨hc, q _ A F .refl I (k_pl rfl (by simp only [rd]))⟩
  · cases e
def ordT (f : Int → Int → Bool) (x y : T) : Option T := match x, y with
  | .int i, .int j => some (.bl (f i j))
  | _, _ => none
theorem s2_ord (f : Int → Int → Bool) : S2 k (oOrd f) (ordT f) := fun F A s x y z v w I r1 r2 e Q q => by
  cases x <;> first | (simp [ordT] at e; done) | skip
  cases y <;> first | (simp [ordT] at e; done) | skip
  simp only [ordT, Option.some.injEq] at e
  rw [ro_int r1, ro_int r2]; subst e
  exact q _ A F .refl I (k_pl rfl (by simp only [rd]))
def addT (x y : T) : Option T := match x, y with
  | .int i, .int j => some (.int (i + j))
  | .str a, .str b => if a.length + b.length ≤ sizeLine then some (.str (a ++ b)) else none
  | .tup xs, .tup ys => if xs.length + ys.length ≤ sizeLine then some (.tup (xs ++ ys)) else none
  | .lst xs, .lst ys => if xs.length + ys.length ≤ sizeLine then some (.lst (xs ++ ys)) else none
  | _, _ => none
theorem s2_add : S2 .fr oAdd addT := fun F A s x y z v w I r1 r2 e Q q => by
  cases x <;> first | (simp [addT] at e; done) | skip
  all_goals cases y <;> first | (simp [addT] at e; done) | skip
  all_goals simp only [addT] at e
  · cases e
    rw [ro_int r1, ro_int r2]
    exact q _ A F .refl I (k_pl rfl (by simp only [rd]))
  · split at e
    · rename_i hl; cases e
      rw [ro_str r1, ro_str r2]
      exact ⟨hl, q _ A F .refl I (k_pl rfl (by simp only [rd]))⟩
    · cases e
  · split at e
    · rename_i hl; cases e
      obtain ⟨vs, rfl, r3⟩ := ro_tup r1
      obtain ⟨ws, rfl, r4⟩ := ro_tup r2
      exact ⟨by rw [rds_len r3, rds_len r4]; exact hl, q _ A F .refl I (k_pl rfl (by simp only [rd]; exact ⟨_, rfl, rds_app r3 r4⟩))⟩
    · cases e
  · split at e
    · rename_i hl; cases e
      obtain ⟨n, vs, rfl, e1, r1⟩ := ro_lst r1
      obtain ⟨m, ws, rfl, e2, r2⟩ := ro_lst r2
      obtain ⟨st, I2⟩ := new_cell (o := .lst (vs ++ ws)) I
      exact ⟨vs, ws, e1, e2, by rw [rds_len r1, rds_len r2]; exact hl, q _ _ F st I2 (new_lst I (rds_app r1 r2))⟩
    · cases e
def RepOk (k : Int) (n : Nat) : Prop := -(2 ^ 63) ≤ k ∧ k < 2 ^ 63 ∧ n * k.toNat ≤ sizeLine
open Classical in
noncomputable def mulT (x y : T) : Option T := match x, y with
  | .int i, .int j => if CMul i j then some (.int (i * j)) else none
  | .lst xs, .int k => if RepOk k xs.length then some (.lst (List.replicate k.toNat xs).flatten) else none
  | _, _ => none
theorem s2_mul : S2 .fr oMul mulT := fun F A s x y z v w I r1 r2 e Q q => by
  cases x <;> first | (simp [mulT] at e; done) | skip
  all_goals cases y <;> first | (simp [mulT] at e; done) | skip
  all_goals simp only [mulT] at e
  · split at e
    · rename_i hl; cases e
      rw [ro_int r1, ro_int r2]
      exact ⟨hl, q _ A F .refl I (k_pl rfl (by simp only [rd]))⟩
    · cases e
  · split at e
    · rename_i hl; cases e
      obtain ⟨n, vs, rfl, e1, r1⟩ := ro_lst r1
      rw [ro_int r2]
      obtain ⟨st, I2⟩ := new_cell (o := .lst (List.replicate _ vs).flatten) I
      exact ⟨vs, e1, hl.1, hl.2.1, by rw [rds_len r1]; exact hl.2.2, q _ _ F st I2 (new_lst I (rds_rep r1 _))⟩
    · cases e
def negT (x : T) : Option T := match x with
  | .int i => some (.int (-i))
  | _ => none
theorem s1_neg : S1 k oNeg negT := fun F A s x z v I r1 e Q q => by
  cases x <;> first | (simp [negT] at e; done) | skip
  simp only [negT, Option.some.injEq] at e
  rw [ro_int r1]; subst e
  exact q _ A F .refl I (k_pl rfl (by simp only [rd]))
def isNonT : T → Bool
  | .non => true
  | _ => false
def isT (neg : Bool) (x y : T) : Option T := match y with
  | .non => some (.bl (xor neg (isNonT x)))
  | .bl b => match x with
    | .bl a => some (.bl (xor neg (decide (a = b))))
    | _ => none
  | _ => none
theorem ro_isN {F : Nat → Prop} {A : AH} {x : T} {v : Val} (r : roR F A x v) : isNonV v = isNonT x := by
  rcases r with r | ⟨ks, ts, n, kvs, g, rfl, rfl, _⟩
  · cases x <;> simp only [rdT, rd] at r <;> first | (subst r; rfl) | (obtain ⟨_, rfl, _⟩ := r; rfl) | exact r.elim
  · rfl
theorem s2_is (neg : Bool) : S2 k (oIs neg) (isT neg) := fun F A s x y z v w I r1 r2 e Q q => by
  cases y <;> first | (simp [isT] at e; done) | skip
  · simp only [isT, Option.some.injEq] at e
    rw [ro_non r2]; subst e
    show Q _ _
    rw [ro_isN r1]
    exact q _ A F .refl I (k_pl rfl (by simp only [rd]))
  · cases x <;> first | (simp [isT] at e; done) | skip
    simp only [isT, Option.some.injEq] at e
    rw [ro_bl r2, ro_bl r1]; subst e
    exact ⟨_, rfl, q _ A F .refl I (k_pl rfl (by simp only [rd]))⟩
def cmpT (neg : Bool) (x y : T) : Option T := match x, y with
  | .str a, .str b => some (.bl (xor neg (decide (a = b))))
  | .lst xs, .lst ys => if okTs 60 xs = true ∧ okTs 60 ys = true then some (.bl (xor neg (eqTs xs ys))) else none
  | x, y => if okT 60 x = true ∧ okT 60 y = true then some (.bl (xor neg (eqT x y))) else none
theorem ok_pl {n : Nat} {x : T} (h : okT n x = true) : isC x = false ∧ ∀ ks ts, x ≠ .dz ks ts := by
  cases x <;> first | (cases n <;> simp [okT] at h; done) | exact ⟨rfl, fun _ _ z => nomatch z⟩
theorem oEq_pl {neg : Bool} {v w : Val} {A : AH} {Q : VQ} (h1 : okV 60 v = true) (h2 : okV 60 w = true) (q : Q (.bl (xor neg (EV.eqV v w))) A) : oEq neg v w A Q := by
  unfold oEq
  split
  · simp only [EV.eqV, Bool.beq_eq_decide_eq] at q; exact q
  · simp [okV] at h1
  · exact ⟨h1, h2, q⟩
theorem s2_cmp (neg : Bool) : S2 k (oEq neg) (cmpT neg) := fun F A s x y z v w I r1 r2 e Q q => by
  have pl : ∀ {x y : T} {v w : Val}, okT 60 x = true ∧ okT 60 y = true → z = .bl (xor neg (eqT x y)) → roR F A x v → roR F A y w → oEq neg v w A Q := fun {x y v w} h ez r1 r2 => by
    have a1 := ok_pl h.1
    have a2 := ok_pl h.2
    have r1 := ro_p r1 a1.1 a1.2
    have r2 := ro_p r2 a2.1 a2.2
    refine oEq_pl (rd_okT 60 _ _ r1 h.1) (rd_okT 60 _ _ r2 h.2) ?_
    rw [rd_eqT 60 _ _ r1 h.1 60 _ _ r2 h.2]
    exact q _ A F .refl I (ez ▸ k_pl rfl (by simp only [rd]))
  unfold cmpT at e
  split at e
  · cases e
    rw [ro_str r1, ro_str r2]
    exact q _ A F .refl I (k_pl rfl (by simp only [rd]))
  · split at e
    · rename_i h; cases e
      obtain ⟨n, vs, rfl, e1, r1⟩ := ro_lst r1
      obtain ⟨m, ws, rfl, e2, r2⟩ := ro_lst r2
      refine ⟨vs, ws, lstAt_of e1, lstAt_of e2, rds_okT 60 _ _ r1 h.1, rds_okT 60 _ _ r2 h.2, ?_⟩
      rw [rds_eqT 60 _ _ r1 h.1 60 _ _ r2 h.2]
      exact q _ A F .refl I (k_pl rfl (by simp only [rd]))
    · cases e
  · split at e
    · rename_i h; cases e; exact pl h rfl r1 r2
    · cases e
def keyT : T → Option Key
  | .int i => some (.inl i)
  | .str x => some (.inr x)
  | _ => none
def keysT : List T → Option (List Key)
  | [] => some []
  | v :: vs => (keyT v).bind fun k => (keysT vs).map fun ks => k :: ks
theorem key_ok {F : Nat → Prop} {A : AH} {x : T} {v : Val} {k : Key} (r : rd F A x v) (h : keyT x = some k) : keyO v = some k := by
  cases x <;> simp only [keyT, Option.some.injEq, reduceCtorEq] at h <;> subst h <;> simp only [rd] at r <;> subst r <;> rfl
theorem keys_ok {F : Nat → Prop} {A : AH} : ∀ {xs : List T} {vs : List Val} {k : List Key}, rds F A xs vs → keysT xs = some k → keysO vs = some k
  | [], _, _, r, h => by rw [rds_nil] at r; subst r; exact h
  | x :: xs, _, k, r, h => by
    obtain ⟨v, r', rfl, r1, r2⟩ := rds_cons.mp r
    simp only [keysT, Option.bind_eq_some_iff, Option.map_eq_some_iff] at h
    obtain ⟨a, ha, b, hb, rfl⟩ := h
    simp only [keysO, key_ok r1 ha, keys_ok r2 hb, Option.bind_some, Option.map_some]
def dGet {κ : Type} [DecidableEq κ] : List κ → List T → κ → Option T
  | a :: ks, x :: xs, k => if a = k then some x else dGet ks xs k
  | _, _, _ => none
theorem dGet_ok {κ : Type} [DecidableEq κ] {F : Nat → Prop} {A : AH} (k : κ) : ∀ {kvs : List (κ × Val)} {ts : List T}, rds F A ts (kvs.map (·.2)) →
    (∀ x, dGet (kvs.map (·.1)) ts k = some x → ∃ v, dOf kvs k = some v ∧ rd F A x v) ∧ (dOf kvs k).isSome = (dGet (kvs.map (·.1)) ts k).isSome
  | [], ts, h => ⟨fun x e => by cases ts <;> simp [dGet] at e, by cases ts <;> rfl⟩
  | kv :: kvs, ts, h => by
    cases ts with
    | nil => rw [rds_nil] at h; simp at h
    | cons x xs =>
      obtain ⟨v, r', e, r1, r2⟩ := rds_cons.mp h
      simp only [List.map_cons, List.cons.injEq] at e
      obtain ⟨e1, e2⟩ := e
      rw [← e2] at r2
      obtain ⟨h1, h2⟩ := dGet_ok k r2
      unfold dOf at h1 h2 ⊢
      simp only [List.map_cons, dGet, List.find?_cons]
      by_cases hk : kv.1 = k
      · rw [if_pos hk]; simp only [hk, decide_true, Option.map_some, Option.some.injEq, Option.isSome_some, and_true]
        intro y ey; subst ey; rw [e1]; exact ⟨v, rfl, r1⟩
      · rw [if_neg hk]; simp only [hk, decide_false]
        exact ⟨h1, h2⟩
def ixT (x y : T) : Option T := match x, y with
  | .tup xs, .int i => atI xs i
  | .lst xs, .int i => atI xs i
  | .dk ks xs, y => (keyT y).bind (dGet ks xs)
  | .dz ks xs, y => (keyT y).bind (dGet ks xs)
  | .dt ks xs, .tup ys => (keysT ys).bind (dGet ks xs)
  | _, _ => none
end
end FM

namespace FM
open PySem PySem.Spec PyProof.Rows L2 EV
theorem atI_ok {F : Nat → Prop} {A : AH} {ts : List T} {vs : List Val} {i : Int} {x : T} (r : rds F A ts vs) (h : atI ts i = some x) : ∃ v, atI vs i = some v ∧ rd F A x v := by
  unfold atI at h ⊢
  rw [rds_len r]
  cases e : ixN ts.length i with
  | none => rw [e] at h; cases h
  | some j =>
    rw [e] at h
    simp only [Option.bind_some] at h ⊢
    exact rds_at r h
def ixS (z : Str) (i : Int) : Option T := if z.length ≤ sizeLine then (atI z.cps.toList i).map fun c => .str ⟨#[c]⟩ else none
def ixB (x y : T) : Option T := match x, y with
  | .str z, .int i => ixS z i
  | x, y => ixT x y
theorem s2_ix : S2 .fz oIx ixB := fun F A s x y z v w I r1 r2 e Q q => by
  cases x <;> first | (simp [ixB, ixT] at e; done) | skip
  · cases y <;> first | (simp [ixB, ixT] at e; done) | skip
    simp only [ixB, ixS] at e
    split at e
    · rename_i hl
      simp only [Option.map_eq_some_iff] at e
      obtain ⟨c, hc, rfl⟩ := e
      rw [ro_str r1, ro_int r2]
      exact ⟨_, c, rfl, hl, hc, q _ A F .refl I (by simp only [Kd.rel, rd])⟩
    · cases e
  · cases y <;> first | (simp [ixB, ixT] at e; done) | skip
    simp only [ixB, ixT] at e
    obtain ⟨vs, rfl, r3⟩ := ro_tup r1
    obtain ⟨v, e1, r⟩ := atI_ok r3 e
    rw [ro_int r2]
    exact ⟨_, v, rfl, e1, q _ A F .refl I r⟩
  · cases y <;> first | (simp [ixB, ixT] at e; done) | skip
    simp only [ixB, ixT] at e
    obtain ⟨n, vs, rfl, ea, r3⟩ := ro_lst r1
    obtain ⟨v, e1, r⟩ := atI_ok r3 e
    rw [ro_int r2]
    exact .inl ⟨vs, _, v, lstAt_of ea, rfl, e1, q _ A F .refl I r⟩
  · simp only [ixB, ixT, Option.bind_eq_some_iff] at e
    obtain ⟨k, hk, e⟩ := e
    obtain ⟨n, kvs, rfl, ea, ek, r3⟩ := ro_dk r1
    subst ek
    obtain ⟨v, e1, r⟩ := (dGet_ok k r3).1 _ e
    have hp : isC y = false ∧ ∀ ks ts, y ≠ .dz ks ts := by cases y <;> first | (simp [keyT] at hk; done) | exact ⟨rfl, fun _ _ z => nomatch z⟩
    exact .inr ⟨v, by simp only [dAt, ea, key_ok (ro_p r2 hp.1 hp.2) hk, Option.map_some, e1], q _ A F .refl I r⟩
  · cases y <;> first | (simp [ixB, ixT] at e; done) | skip
    simp only [ixB, ixT, Option.bind_eq_some_iff] at e
    obtain ⟨k, hk, e⟩ := e
    obtain ⟨n, kvs, rfl, ea, ek, r3⟩ := ro_dt r1
    subst ek
    obtain ⟨v, e1, r⟩ := (dGet_ok k r3).1 _ e
    obtain ⟨ws, rfl, r4⟩ := ro_tup r2
    exact .inr ⟨v, by simp only [dAt, ea, keys_ok r4 hk, Option.map_some, e1], q _ A F .refl I r⟩
  · simp only [ixB, ixT, Option.bind_eq_some_iff] at e
    obtain ⟨k, hk, e⟩ := e
    obtain ⟨n, kvs, g, rfl, ea, ek, r3⟩ := ro_dz r1
    subst ek
    obtain ⟨v, e1, r⟩ := (dGet_ok k r3).1 _ e
    have hp : isC y = false ∧ ∀ ks ts, y ≠ .dz ks ts := by cases y <;> first | (simp [keyT] at hk; done) | exact ⟨rfl, fun _ _ z => nomatch z⟩
    exact .inr ⟨v, by simp only [dAt, ea, key_ok (ro_p r2 hp.1 hp.2) hk, Option.map_some, e1], q _ A F .refl I r⟩
section
variable {k : Kd}
def inT (neg : Bool) (x y : T) : Option T := match y with
  | .str z => match x with
    | .str w => some (.bl (xor neg (occ w z)))
    | _ => none
  | .tup ys => if okT 60 x = true ∧ okTs 60 ys = true then some (.bl (xor neg (ys.any fun z => eqT z x))) else none
  | .lst ys => if okT 60 x = true ∧ okTs 60 ys = true then some (.bl (xor neg (ys.any fun z => eqT z x))) else none
  | .dk ks xs => (keyT x).map fun k => .bl (xor neg (dGet ks xs k).isSome)
  | .dz ks xs => (keyT x).map fun k => .bl (xor neg (dGet ks xs k).isSome)
  | .dt ks xs => match x with
    | .tup ys => (keysT ys).map fun k => .bl (xor neg (dGet ks xs k).isSome)
    | _ => none
  | _ => none
theorem any_ok {F : Nat → Prop} {A : AH} {x : T} {v : Val} (r : rd F A x v) (h : okT 60 x = true) : ∀ {ys : List T} {ws : List Val}, rds F A ys ws → okTs 60 ys = true → (ws.any fun z => EV.eqV z v) = ys.any fun z => eqT z x
  | [], _, r2, _ => by rw [rds_nil] at r2; subst r2; rfl
  | y :: ys, _, r2, h2 => by
    obtain ⟨w, r', rfl, r3, r4⟩ := rds_cons.mp r2
    simp only [okTs, Bool.and_eq_true] at h2
    rw [List.any_cons, List.any_cons, any_ok r h r4 h2.2, rd_eqT 60 y w r3 h2.1 60 x v r h]
theorem s2_in (neg : Bool) : S2 k (oIn neg) (inT neg) := fun F A s x y z v w I r1 r2 e Q q => by
  have kp : ∀ {k : Key}, keyT x = some k → rd F A x v := fun {k} hk => by
    have hp : isC x = false ∧ ∀ ks ts, x ≠ .dz ks ts := by cases x <;> first | (simp [keyT] at hk; done) | exact ⟨rfl, fun _ _ z => nomatch z⟩
    exact ro_p r1 hp.1 hp.2
  cases y <;> first | (simp [inT] at e; done) | skip
  · cases x <;> first | (simp [inT] at e; done) | skip
    simp only [inT, Option.some.injEq] at e
    rw [ro_str r1, ro_str r2]; subst e
    exact ⟨_, rfl, q _ A F .refl I (k_pl rfl (by simp only [rd]))⟩
  · simp only [inT] at e
    split at e
    · rename_i h; cases e
      obtain ⟨ws, rfl, r3⟩ := ro_tup r2
      have a1 := ok_pl h.1
      have r1 := ro_p r1 a1.1 a1.2
      refine ⟨rd_okT 60 _ _ r1 h.1, rds_okT 60 _ _ r3 h.2, ?_⟩
      rw [any_ok r1 h.1 r3 h.2]
      exact q _ A F .refl I (k_pl rfl (by simp only [rd]))
    · cases e
  · simp only [inT] at e
    split at e
    · rename_i h; cases e
      obtain ⟨n, ws, rfl, ea, r3⟩ := ro_lst r2
      have a1 := ok_pl h.1
      have r1 := ro_p r1 a1.1 a1.2
      refine .inl ⟨ws, lstAt_of ea, rd_okT 60 _ _ r1 h.1, rds_okT 60 _ _ r3 h.2, ?_⟩
      rw [any_ok r1 h.1 r3 h.2]
      exact q _ A F .refl I (k_pl rfl (by simp only [rd]))
    · cases e
  · simp only [inT, Option.map_eq_some_iff] at e
    obtain ⟨k, hk, rfl⟩ := e
    obtain ⟨n, kvs, rfl, ea, ek, r3⟩ := ro_dk r2
    subst ek
    refine .inr ⟨dOf kvs k, by simp only [dAt, ea, key_ok (kp hk) hk, Option.map_some], ?_⟩
    rw [(dGet_ok k r3).2]
    exact q _ A F .refl I (k_pl rfl (by simp only [rd]))
  · cases x <;> first | (simp [inT] at e; done) | skip
    simp only [inT, Option.map_eq_some_iff] at e
    obtain ⟨k, hk, rfl⟩ := e
    obtain ⟨n, kvs, rfl, ea, ek, r3⟩ := ro_dt r2
    obtain ⟨vs, rfl, r4⟩ := ro_tup r1
    subst ek
    refine .inr ⟨dOf kvs k, by simp only [dAt, ea, keys_ok r4 hk, Option.map_some], ?_⟩
    rw [(dGet_ok k r3).2]
    exact q _ A F .refl I (k_pl rfl (by simp only [rd]))
  · simp only [inT, Option.map_eq_some_iff] at e
    obtain ⟨k, hk, rfl⟩ := e
    obtain ⟨n, kvs, g, rfl, ea, ek, r3⟩ := ro_dz r2
    subst ek
    refine .inr ⟨dOf kvs k, by simp only [dAt, ea, key_ok (kp hk) hk, Option.map_some], ?_⟩
    rw [(dGet_ok k r3).2]
    exact q _ A F .refl I (k_pl rfl (by simp only [rd]))
/-! built-ins -/
theorem ro1 {F : Nat → Prop} {A : AH} {vs : List Val} {x : T} (h : Kd.rels .ro 0 F A [x] vs) : ∃ v, vs = [v] ∧ roR F A x v := by
  obtain ⟨v, r, rfl, h1, h2⟩ := h
  cases h2; exact ⟨v, rfl, h1⟩
theorem ro2 {F : Nat → Prop} {A : AH} {vs : List Val} {x y : T} (h : Kd.rels .ro 0 F A [x, y] vs) : ∃ v w, vs = [v, w] ∧ roR F A x v ∧ roR F A y w := by
  obtain ⟨v, r, rfl, h1, w, r2, rfl, h2, h3⟩ := h
  cases h3; exact ⟨v, w, rfl, h1, h2⟩
def lenT (xs : List T) : Option T := match xs with
  | [.tup ts] => some (.int ts.length)
  | [.lst ts] => some (.int ts.length)
  | [.dk ks _] => some (.int ks.length)
  | [.str z] => if z.length ≤ sizeLine then some (.int z.length) else none
  | _ => none
theorem sn_len : SN k oLen lenT := fun F A s xs z vs I r e Q q => by
  unfold lenT at e
  split at e
  · obtain ⟨v, rfl, r0⟩ := ro1 r
    obtain ⟨ws, rfl, r3⟩ := ro_tup r0
    cases e
    exact ⟨_, _, rfl, rfl, by rw [rds_len r3]; exact q _ A F .refl I (k_pl rfl (by simp only [rd]))⟩
  · obtain ⟨v, rfl, r0⟩ := ro1 r
    obtain ⟨n, ws, rfl, ea, r3⟩ := ro_lst r0
    cases e
    exact ⟨_, ws.length, rfl, by simp only [lenO, ea], by rw [rds_len r3]; exact q _ A F .refl I (k_pl rfl (by simp only [rd]))⟩
  · obtain ⟨v, rfl, r0⟩ := ro1 r
    obtain ⟨n, kvs, rfl, ea, ek, r3⟩ := ro_dk r0
    cases e
    refine ⟨_, kvs.length, rfl, by simp only [lenO, ea], ?_⟩
    have : kvs.length = (kvs.map (·.1)).length := by simp
    rw [this, ek]; exact q _ A F .refl I (k_pl rfl (by simp only [rd]))
  · rename_i zz
    obtain ⟨v, rfl, r0⟩ := ro1 r
    rw [ro_str r0]
    split at e
    · rename_i h; cases e
      exact ⟨_, Str.length zz, rfl, by simp only [lenO, if_pos h], q _ A F .refl I (k_pl rfl (by simp only [rd]))⟩
    · cases e
  · cases e
def seqT (x : T) : Option (List T) := match x with
  | .tup ts => some ts
  | .lst ts => some ts
  | .wl ts => some ts
  | _ => none
theorem seq_ok {F : Nat → Prop} {A : AH} {x : T} {v : Val} {ts : List T} (r : roR F A x v) (h : seqT x = some ts) : ∃ vs, seqO A v = some vs ∧ rds F A ts vs := by
  cases x <;> first | (simp [seqT] at h; done) | skip
  all_goals simp only [seqT, Option.some.injEq] at h; subst h
  · obtain ⟨vs, rfl, r3⟩ := ro_tup r; exact ⟨vs, rfl, r3⟩
  · obtain ⟨n, vs, rfl, ea, r3⟩ := ro_lst r; exact ⟨vs, lstAt_of ea, r3⟩
  · obtain ⟨vs, rfl, r3⟩ := ro_wl r; exact ⟨vs, rfl, r3⟩
def listT (xs : List T) : Option T := match xs with
  | [x] => (seqT x).map .lst
  | _ => none
theorem sn_list : SN .fr oList listT := fun F A s xs z vs I r e Q q => by
  unfold listT at e
  split at e
  · obtain ⟨v, rfl, r0⟩ := ro1 r
    simp only [Option.map_eq_some_iff] at e
    obtain ⟨ts, e, rfl⟩ := e
    obtain ⟨ws, e2, r2⟩ := seq_ok r0 e
    obtain ⟨st, I2⟩ := new_cell (o := .lst ws) I
    exact ⟨_, ws, rfl, e2, q _ _ F st I2 (new_lst I r2)⟩
  · cases e
def tupT (xs : List T) : Option T := match xs with
  | [.tup ts] => some (.tup ts)
  | [.lst ts] => some (.tup ts)
  | _ => none
theorem sn_tup : SN k oTuple tupT := fun F A s xs z vs I r e Q q => by
  unfold tupT at e
  split at e
  · obtain ⟨v, rfl, r0⟩ := ro1 r
    obtain ⟨ws, rfl, r3⟩ := ro_tup r0
    cases e
    exact q _ A F .refl I (k_pl rfl (by simp only [rd]; exact ⟨_, rfl, r3⟩))
  · obtain ⟨v, rfl, r0⟩ := ro1 r
    obtain ⟨n, ws, rfl, ea, r3⟩ := ro_lst r0
    cases e
    exact ⟨ws, lstAt_of ea, q _ A F .refl I (k_pl rfl (by simp only [rd]; exact ⟨_, rfl, r3⟩))⟩
  · cases e
def intcT (xs : List T) : Option T := match xs with
  | [.int i] => some (.int i)
  | [.bl b] => some (.int (if b then 1 else 0))
  | _ => none
theorem sn_intc : SN k oIntC1 intcT := fun F A s xs z vs I r e Q q => by
  unfold intcT at e
  split at e
  · obtain ⟨v, rfl, r0⟩ := ro1 r
    rw [ro_int r0]; cases e
    exact q _ A F .refl I (k_pl rfl (by simp only [rd]))
  · obtain ⟨v, rfl, r0⟩ := ro1 r
    rw [ro_bl r0]; cases e
    exact q _ A F .refl I (k_pl rfl (by simp only [rd]))
  · cases e
def intsT : List T → Option (List Int)
  | [] => some []
  | .int i :: vs => (intsT vs).map fun l => i :: l
  | _ => none
theorem intsT_map (l : List Int) : intsT (l.map T.int) = some l := by
  induction l with
  | nil => rfl
  | cons a l ih => simp only [List.map_cons, intsT, ih, Option.map_some]
theorem ints_ok {F : Nat → Prop} {A : AH} : ∀ {ts : List T} {vs : List Val} {l : List Int}, rds F A ts vs → intsT ts = some l → intsOf vs = some l
  | [], _, _, r, h => by rw [rds_nil] at r; subst r; exact h
  | x :: ts, _, l, r, h => by
    obtain ⟨v, r', rfl, r1, r2⟩ := rds_cons.mp r
    cases x <;> first | (simp [intsT] at h; done) | skip
    simp only [intsT, Option.map_eq_some_iff] at h
    obtain ⟨m, hm, rfl⟩ := h
    simp only [rd] at r1; subst r1
    simp only [intsOf, ints_ok r2 hm, Option.map_some]
def sumT (xs : List T) : Option T := match xs with
  | [.lst ts] => (intsT ts).map fun l => .int l.sum
  | _ => none
theorem lstInts_ok {F : Nat → Prop} {A : AH} {n : Nat} {vs : List Val} {ts : List T} {l : List Int} (ea : A[n]? = some (.lst vs)) (r : rds F A ts vs) (h : intsT ts = some l) : lstInts A (.ref n) = some l := by
  simp only [lstInts, lstAt_of ea, Option.bind_some, ints_ok r h]
theorem sn_sum : SN k oSum sumT := fun F A s xs z vs I r e Q q => by
  unfold sumT at e
  split at e
  · obtain ⟨v, rfl, r0⟩ := ro1 r
    simp only [Option.map_eq_some_iff] at e
    obtain ⟨l, e, rfl⟩ := e
    obtain ⟨n, ws, rfl, ea, r3⟩ := ro_lst r0
    exact ⟨_, l, rfl, lstInts_ok ea r3 e, q _ A F .refl I (k_pl rfl (by simp only [rd]))⟩
  · cases e
def maxL : List Int → Int
  | [] => 0
  | a :: l => l.foldl max a
def minL : List Int → Int
  | [] => 0
  | a :: l => l.foldl min a
theorem foldl_max (l : List Int) : ∀ a : Int, a ≤ l.foldl max a ∧ (∀ y ∈ l, y ≤ l.foldl max a) ∧ (l.foldl max a = a ∨ l.foldl max a ∈ l) := by
  induction l with
  | nil => intro a; exact ⟨Int.le_refl _, fun y h => (by cases h), .inl rfl⟩
  | cons x l ih =>
    intro a
    obtain ⟨h1, h2, h3⟩ := ih (max a x)
    refine ⟨?_, fun y hy => ?_, ?_⟩
    · rw [List.foldl_cons]; omega
    · rw [List.foldl_cons]
      rcases List.mem_cons.mp hy with rfl | hy
      · omega
      · exact h2 y hy
    · rw [List.foldl_cons]
      rcases h3 with h3 | h3
      · rw [h3]
        rcases Int.le_total a x with z | z
        · right; rw [Int.max_eq_right z]; exact List.mem_cons_self
        · left; exact Int.max_eq_left z
      · right; exact List.mem_cons_of_mem _ h3
theorem foldl_min (l : List Int) : ∀ a : Int, l.foldl min a ≤ a ∧ (∀ y ∈ l, l.foldl min a ≤ y) ∧ (l.foldl min a = a ∨ l.foldl min a ∈ l) := by
  induction l with
  | nil => intro a; exact ⟨Int.le_refl _, fun y h => (by cases h), .inl rfl⟩
  | cons x l ih =>
    intro a
    obtain ⟨h1, h2, h3⟩ := ih (min a x)
    refine ⟨?_, fun y hy => ?_, ?_⟩
    · rw [List.foldl_cons]; omega
    · rw [List.foldl_cons]
      rcases List.mem_cons.mp hy with rfl | hy
      · omega
      · exact h2 y hy
    · rw [List.foldl_cons]
      rcases h3 with h3 | h3
      · rw [h3]
        rcases Int.le_total a x with z | z
        · left; exact Int.min_eq_left z
        · right; rw [Int.min_eq_right z]; exact List.mem_cons_self
      · right; exact List.mem_cons_of_mem _ h3
theorem maxL_in {l : List Int} (h : 0 < l.length) : maxL l ∈ l := by
  cases l with
  | nil => simp at h
  | cons a l =>
    rcases (foldl_max l a).2.2 with e | e
    · show l.foldl max a ∈ _; rw [e]; exact List.mem_cons_self
    · exact List.mem_cons_of_mem _ e
theorem maxL_le {l : List Int} {y : Int} (h : y ∈ l) : y ≤ maxL l := by
  cases l with
  | nil => cases h
  | cons a l =>
    rcases List.mem_cons.mp h with rfl | h
    · exact (foldl_max l _).1
    · exact (foldl_max l a).2.1 y h
theorem minL_in {l : List Int} (h : 0 < l.length) : minL l ∈ l := by
  cases l with
  | nil => simp at h
  | cons a l =>
    rcases (foldl_min l a).2.2 with e | e
    · show l.foldl min a ∈ _; rw [e]; exact List.mem_cons_self
    · exact List.mem_cons_of_mem _ e
theorem minL_le {l : List Int} {y : Int} (h : y ∈ l) : minL l ≤ y := by
  cases l with
  | nil => cases h
  | cons a l =>
    rcases List.mem_cons.mp h with rfl | h
    · exact (foldl_min l _).1
    · exact (foldl_min l a).2.1 y h
theorem maxL_eq {l : List Int} {m : Int} (h1 : m ∈ l) (h2 : ∀ y ∈ l, y ≤ m) : m = maxL l := by
  have := maxL_le h1
  have := h2 _ (maxL_in (List.length_pos_of_mem h1))
  omega
theorem minL_eq {l : List Int} {m : Int} (h1 : m ∈ l) (h2 : ∀ y ∈ l, m ≤ y) : m = minL l := by
  have := minL_le h1
  have := h2 _ (minL_in (List.length_pos_of_mem h1))
  omega
def mxT (f : List Int → Int) (g : Int → Int → Int) (xs : List T) : Option T := match xs with
  | [.lst ts] => (intsT ts).bind fun l => if 0 < l.length then some (.int (f l)) else none
  | [.tup ts] => (intsT ts).bind fun l => if 0 < l.length then some (.int (f l)) else none
  | [.int i, .int j] => some (.int (g i j))
  | _ => none
theorem sn_max : SN k oMax (mxT maxL fun i j => if j > i then j else i) := fun F A s xs z vs I r e Q q => by
  unfold mxT at e
  split at e
  · obtain ⟨v, rfl, r0⟩ := ro1 r
    simp only [Option.bind_eq_some_iff] at e
    obtain ⟨l, hl, e⟩ := e
    obtain ⟨n, ws, rfl, ea, r3⟩ := ro_lst r0
    split at e
    · rename_i h; cases e
      exact .inl ⟨_, l, rfl, lstInts_ok ea r3 hl, h, fun m h1 h2 => by rw [maxL_eq h1 h2]; exact q _ A F .refl I (k_pl rfl (by simp only [rd]))⟩
    · cases e
  · obtain ⟨v, rfl, r0⟩ := ro1 r
    simp only [Option.bind_eq_some_iff] at e
    obtain ⟨l, hl, e⟩ := e
    obtain ⟨ws, rfl, r3⟩ := ro_tup r0
    split at e
    · rename_i h; cases e
      exact .inr (.inr ⟨_, l, rfl, ints_ok r3 hl, h, fun m h1 h2 => by rw [maxL_eq h1 h2]; exact q _ A F .refl I (k_pl rfl (by simp only [rd]))⟩)
    · cases e
  · obtain ⟨v, w, rfl, r0, r2⟩ := ro2 r
    rw [ro_int r0, ro_int r2]; cases e
    exact .inr (.inl ⟨_, _, rfl, q _ A F .refl I (k_pl rfl (by simp only [rd]))⟩)
  · cases e
theorem sn_min : SN k oMin (mxT minL fun i j => if j < i then j else i) := fun F A s xs z vs I r e Q q => by
  unfold mxT at e
  split at e
  · obtain ⟨v, rfl, r0⟩ := ro1 r
    simp only [Option.bind_eq_some_iff] at e
    obtain ⟨l, hl, e⟩ := e
    obtain ⟨n, ws, rfl, ea, r3⟩ := ro_lst r0
    split at e
    · rename_i h; cases e
      exact .inl ⟨_, l, rfl, lstInts_ok ea r3 hl, h, fun m h1 h2 => by rw [minL_eq h1 h2]; exact q _ A F .refl I (k_pl rfl (by simp only [rd]))⟩
    · cases e
  · obtain ⟨v, rfl, r0⟩ := ro1 r
    simp only [Option.bind_eq_some_iff] at e
    obtain ⟨l, hl, e⟩ := e
    obtain ⟨ws, rfl, r3⟩ := ro_tup r0
    split at e
    · rename_i h; cases e
      exact .inr (.inr ⟨_, l, rfl, ints_ok r3 hl, h, fun m h1 h2 => by rw [minL_eq h1 h2]; exact q _ A F .refl I (k_pl rfl (by simp only [rd]))⟩)
    · cases e
  · obtain ⟨v, w, rfl, r0, r2⟩ := ro2 r
    rw [ro_int r0, ro_int r2]; cases e
    exact .inr (.inl ⟨_, _, rfl, q _ A F .refl I (k_pl rfl (by simp only [rd]))⟩)
  · cases e
end
end FM

namespace FM
open PySem PySem.Spec PyProof.Rows L2 EV
section
variable {k : Kd}
/-! sorted -/
def insI (a : Int) : List Int → List Int
  | [] => [a]
  | b :: l => if a ≤ b then a :: b :: l else b :: insI a l
def sortI : List Int → List Int
  | [] => []
  | a :: l => insI a (sortI l)
theorem insI_perm (a : Int) : ∀ l : List Int, (insI a l).Perm (a :: l)
  | [] => .refl _
  | b :: l => by
    unfold insI
    split
    · exact .refl _
    · exact ((insI_perm a l).cons b).trans (.swap a b l)
theorem sortI_perm : ∀ l : List Int, (sortI l).Perm l
  | [] => .refl _
  | a :: l => (insI_perm a _).trans ((sortI_perm l).cons a)
theorem insI_pw (a : Int) : ∀ l : List Int, l.Pairwise (· ≤ ·) → (insI a l).Pairwise (· ≤ ·)
  | [], _ => by simp [insI]
  | b :: l, h => by
    unfold insI
    have h' := List.pairwise_cons.mp h
    split
    · rename_i hab
      refine List.pairwise_cons.mpr ⟨fun y hy => ?_, h⟩
      rcases List.mem_cons.mp hy with rfl | hy
      · exact hab
      · exact Int.le_trans hab (h'.1 y hy)
    · rename_i hab
      refine List.pairwise_cons.mpr ⟨fun y hy => ?_, insI_pw a l h'.2⟩
      rcases List.mem_cons.mp ((insI_perm a l).mem_iff.mp hy) with rfl | hy
      · omega
      · exact h'.1 y hy
theorem sortI_pw : ∀ l : List Int, (sortI l).Pairwise (· ≤ ·)
  | [] => .nil
  | a :: l => insI_pw a _ (sortI_pw l)
theorem perm_eq {α : Type} {R : α → α → Prop} (ha : ∀ a b, R a b → R b a → a = b) : ∀ {l m : List α}, l.Perm m → l.Pairwise R → m.Pairwise R → l = m
  | [], m, p, _, _ => by rw [List.nil_perm.mp p]
  | a :: l, [], p, _, _ => absurd p.symm (by simp)
  | a :: l, b :: m, p, h1, h2 => by
    have h1' := List.pairwise_cons.mp h1
    have h2' := List.pairwise_cons.mp h2
    have e : a = b := by
      rcases List.mem_cons.mp (p.mem_iff.mp List.mem_cons_self) with e | hm
      · exact e
      · rcases List.mem_cons.mp (p.mem_iff.mpr List.mem_cons_self) with e | hm'
        · exact e.symm
        · exact ha a b (h1'.1 b hm') (h2'.1 a hm)
    subst e
    rw [perm_eq ha ((List.perm_cons a).mp p) h1'.2 h2'.2]
theorem sortI_eq {l l' : List Int} (p : l'.Perm l) (h : l'.Pairwise (· ≤ ·)) : l' = sortI l :=
  perm_eq (fun a b => Int.le_antisymm) (p.trans (sortI_perm l).symm) h (sortI_pw l)
/-! tuples of ints, by the lexicographic order -/
abbrev ltT (x y : List Int) : Bool := HT.lexLt x y
def insT (a : List Int) : List (List Int) → List (List Int)
  | [] => [a]
  | b :: l => if ltT b a = true then b :: insT a l else a :: b :: l
def sortT : List (List Int) → List (List Int)
  | [] => []
  | a :: l => insT a (sortT l)
theorem insT_perm (a : List Int) : ∀ l, (insT a l).Perm (a :: l)
  | [] => .refl _
  | b :: l => by
    unfold insT
    split
    · exact ((insT_perm a l).cons b).trans (.swap a b l)
    · exact .refl _
theorem sortT_perm : ∀ l, (sortT l).Perm l
  | [] => .refl _
  | a :: l => (insT_perm a _).trans ((sortT_perm l).cons a)
theorem lx_nn : HT.lexLt [] [] = false := rfl
theorem lx_nc (y : Int) (ys : List Int) : HT.lexLt [] (y :: ys) = true := rfl
theorem lx_cn (x : Int) (xs : List Int) : HT.lexLt (x :: xs) [] = false := rfl
theorem lx_cc (x y : Int) (xs ys : List Int) : HT.lexLt (x :: xs) (y :: ys) = if x = y then HT.lexLt xs ys else decide (x < y) := rfl
theorem lx_anti : ∀ x y : List Int, HT.lexLt x y = false → HT.lexLt y x = false → x = y
  | [], [], _, _ => rfl
  | [], y :: ys, h, _ => by rw [lx_nc] at h; cases h
  | x :: xs, [], _, h => by rw [lx_nc] at h; cases h
  | x :: xs, y :: ys, h, k => by
    rw [lx_cc] at h k
    by_cases e : x = y
    · subst e
      rw [if_pos rfl] at h k
      rw [lx_anti xs ys h k]
    · rw [if_neg e] at h
      rw [if_neg (fun z => e z.symm)] at k
      simp only [decide_eq_false_iff_not] at h k
      omega
theorem lx_tr : ∀ x y z : List Int, HT.lexLt y x = false → HT.lexLt z y = false → HT.lexLt z x = false
  | [], y, [], _, _ => rfl
  | [], y, z :: zs, _, _ => rfl
  | x :: xs, [], z, h, _ => by rw [lx_nc] at h; cases h
  | x :: xs, y :: ys, [], _, k => by rw [lx_nc] at k; cases k
  | x :: xs, y :: ys, z :: zs, h, k => by
    rw [lx_cc] at h k ⊢
    by_cases e : y = x
    · subst e
      rw [if_pos rfl] at h
      by_cases e2 : z = y
      · subst e2
        rw [if_pos rfl] at k ⊢
        exact lx_tr xs ys zs h k
      · rw [if_neg e2] at k ⊢; exact k
    · rw [if_neg e] at h
      simp only [decide_eq_false_iff_not] at h
      by_cases e2 : z = y
      · subst e2
        rw [if_neg e]; simpa using h
      · rw [if_neg e2] at k
        simp only [decide_eq_false_iff_not] at k
        rw [if_neg (by omega)]; simp; omega
theorem lx_asym : ∀ x y : List Int, HT.lexLt x y = true → HT.lexLt y x = false
  | [], [], h => by rw [lx_nn] at h; cases h
  | [], y :: ys, _ => rfl
  | x :: xs, [], h => by rw [lx_cn] at h; cases h
  | x :: xs, y :: ys, h => by
    rw [lx_cc] at h ⊢
    by_cases e : x = y
    · subst e; rw [if_pos rfl] at h ⊢; exact lx_asym xs ys h
    · rw [if_neg e] at h
      rw [if_neg (fun z => e z.symm)]
      simp only [decide_eq_true_eq] at h
      simp; omega
theorem insT_pw (a : List Int) : ∀ l, l.Pairwise (fun x y => HT.lexLt y x = false) → (insT a l).Pairwise (fun x y => HT.lexLt y x = false)
  | [], _ => by simp [insT]
  | b :: l, h => by
    unfold insT
    have h' := List.pairwise_cons.mp h
    split
    · rename_i hab
      refine List.pairwise_cons.mpr ⟨fun y hy => ?_, insT_pw a l h'.2⟩
      rcases List.mem_cons.mp ((insT_perm a l).mem_iff.mp hy) with rfl | hy
      · exact lx_asym _ _ hab
      · exact h'.1 y hy
    · rename_i hab
      have hab : HT.lexLt b a = false := by simpa using hab
      refine List.pairwise_cons.mpr ⟨fun y hy => ?_, h⟩
      rcases List.mem_cons.mp hy with rfl | hy
      · exact hab
      · exact lx_tr _ _ _ hab (h'.1 y hy)
theorem sortT_pw : ∀ l, (sortT l).Pairwise (fun x y => HT.lexLt y x = false)
  | [] => .nil
  | a :: l => insT_pw a _ (sortT_pw l)
theorem sortT_eq {l l' : List (List Int)} (p : l'.Perm l) (h : l'.Pairwise (fun x y => HT.lexLt y x = false)) : l' = sortT l :=
  perm_eq (fun a b h1 h2 => lx_anti a b h2 h1) (p.trans (sortT_perm l).symm) h (sortT_pw l)
def tupsT : List T → Option (List (List Int))
  | [] => some []
  | .tup xs :: vs => (intsT xs).bind fun l => (tupsT vs).map fun ls => l :: ls
  | _ => none
def tI (l : List Int) : T := .tup (l.map T.int)
theorem tupsT_map (ls : List (List Int)) : tupsT (ls.map tI) = some ls := by
  induction ls with
  | nil => rfl
  | cons l ls ih => simp only [List.map_cons, tI, tupsT, intsT_map, Option.bind_some, ih, Option.map_some]
theorem tups_ok {F : Nat → Prop} {A : AH} : ∀ {ts : List T} {vs : List Val} {l : List (List Int)}, rds F A ts vs → tupsT ts = some l → tupsOf vs = some l
  | [], _, _, r, h => by rw [rds_nil] at r; subst r; exact h
  | x :: ts, _, l, r, h => by
    obtain ⟨v, r', rfl, r1, r2⟩ := rds_cons.mp r
    cases x <;> first | (simp [tupsT] at h; done) | skip
    simp only [tupsT, Option.bind_eq_some_iff, Option.map_eq_some_iff] at h
    obtain ⟨a, ha, m, hm, rfl⟩ := h
    simp only [rd] at r1
    obtain ⟨ws, rfl, r1⟩ := r1
    simp only [tupsOf, ints_ok r1 ha, tups_ok r2 hm, Option.bind_some, Option.map_some]
def keyInt : Key → Option Int
  | .inl i => some i
  | .inr _ => none
def sortedT (xs : List T) : Option T := match xs with
  | [.lst ts] => match intsT ts with
    | some l => some (.lst ((sortI l).map T.int))
    | none => (tupsT ts).map fun l => .lst ((sortT l).map tI)
  | [.dk ks _] => (ks.mapM keyInt).bind fun l => if l.length < 64 then some (.lst ((sortI l).map T.int)) else none
  | [.tup ts] => (intsT ts).bind fun l => if l.length < 64 then some (.lst ((sortI l).map T.int)) else none
  | _ => none
theorem rds_tups {F : Nat → Prop} {A : AH} (l : List (List Int)) : rds F A (l.map tI) (l.map tupI) := rds_map fun x _ => by simp only [tI, rd]; exact ⟨_, rfl, rds_ints x⟩
theorem mapM_keys {l : List Int} : ∀ {kvs : List (Key × Val)}, (kvs.map (·.1)).mapM keyInt = some l → kvs.mapM (fun kv => match kv.1 with | .inl i => some i | .inr _ => none) = some l := fun {kvs} h => by
  rw [List.mapM_map] at h
  exact h
theorem sn_sorted : SN .fr oSorted sortedT := fun F A s xs z vs I r e Q q => by
  unfold sortedT at e
  split at e
  · obtain ⟨v, rfl, r0⟩ := ro1 r
    obtain ⟨n, ws, rfl, ea, r3⟩ := ro_lst r0
    split at e
    · rename_i l hl
      cases e
      refine ⟨_, rfl, .inl ⟨l, lstInts_ok ea r3 hl, fun l' p h => ?_⟩⟩
      obtain ⟨st, I2⟩ := new_cell (o := .lst (l'.map Val.int)) I
      refine q _ _ F st I2 ?_
      rw [← sortI_eq p h]; exact new_lst I (rds_ints l')
    · simp only [Option.map_eq_some_iff] at e
      obtain ⟨l, hl, rfl⟩ := e
      refine ⟨_, rfl, .inr (.inl ⟨l, by simp only [lstTups, lstAt_of ea, Option.bind_some, tups_ok r3 hl], fun l' p h => ?_⟩)⟩
      obtain ⟨st, I2⟩ := new_cell (o := .lst (l'.map tupI)) I
      refine q _ _ F st I2 ?_
      rw [← sortT_eq p h]; exact new_lst I (rds_tups l')
  · obtain ⟨v, rfl, r0⟩ := ro1 r
    obtain ⟨n, kvs, rfl, ea, ek, r3⟩ := ro_dk r0
    simp only [Option.bind_eq_some_iff] at e
    obtain ⟨l, hl, e⟩ := e
    split at e
    · rename_i h64; cases e
      subst ek
      refine ⟨_, rfl, .inr (.inr (.inl ⟨l, by simp only [keyInts, ea]; exact mapM_keys hl, h64, fun l' p h => ?_⟩))⟩
      obtain ⟨st, I2⟩ := new_cell (o := .lst (l'.map Val.int)) I
      refine q _ _ F st I2 ?_
      rw [← sortI_eq p h]; exact new_lst I (rds_ints l')
    · cases e
  · obtain ⟨v, rfl, r0⟩ := ro1 r
    obtain ⟨ws, rfl, r3⟩ := ro_tup r0
    simp only [Option.bind_eq_some_iff] at e
    obtain ⟨l, hl, e⟩ := e
    split at e
    · rename_i h64; cases e
      refine ⟨_, rfl, .inr (.inr (.inr ⟨ws, l, rfl, ints_ok r3 hl, h64, fun l' p h => ?_⟩))⟩
      obtain ⟨st, I2⟩ := new_cell (o := .lst (l'.map Val.int)) I
      refine q _ _ F st I2 ?_
      rw [← sortI_eq p h]; exact new_lst I (rds_ints l')
    · cases e
  · cases e
/-! isinstance, all, any, str, index -/
def tyT : T → Option String
  | .non => some "NoneType"
  | .bl _ => some "bool"
  | .int _ => some "int"
  | .str _ => some "str"
  | .tup _ => some "tuple"
  | .lst _ => some "list"
  | .dk _ _ => some "dict"
  | .dt _ _ => some "dict"
  | _ => none
theorem ty_ok {F : Nat → Prop} {A : AH} {x : T} {v : Val} {a : String} (r : roR F A x v) (h : tyT x = some a) : tyO A v = some a := by
  cases x <;> first | (simp [tyT] at h; done) | skip
  · rw [ro_non r]; exact h
  · rw [ro_bl r]; exact h
  · rw [ro_int r]; exact h
  · rw [ro_str r]; exact h
  · obtain ⟨vs, rfl, _⟩ := ro_tup r; exact h
  · obtain ⟨n, vs, rfl, ea, _⟩ := ro_lst r; simp only [tyO, ea]; exact h
  · obtain ⟨n, vs, rfl, ea, _⟩ := ro_dk r; simp only [tyO, ea]; exact h
  · obtain ⟨n, vs, rfl, ea, _⟩ := ro_dt r; simp only [tyO, ea]; exact h
def isiT (xs : List T) : Option T := match xs with
  | [x, .ty n] => (tyT x).bind fun a => (isiB a n).map .bl
  | _ => none
theorem sn_isi : SN k oIsi isiT := fun F A s xs z vs I r e Q q => by
  unfold isiT at e
  split at e
  · obtain ⟨v, w, rfl, r0, r2⟩ := ro2 r
    rw [ro_ty r2]
    simp only [Option.bind_eq_some_iff, Option.map_eq_some_iff] at e
    obtain ⟨a, ha, b, hb, rfl⟩ := e
    exact ⟨v, _, a, b, rfl, ty_ok r0 ha, hb, q _ A F .refl I (k_pl rfl (by simp only [rd]))⟩
  · cases e
def boolsT : List T → Option (List Bool)
  | [] => some []
  | .bl i :: vs => (boolsT vs).map fun l => i :: l
  | _ => none
theorem boolsT_map (l : List Bool) : boolsT (l.map T.bl) = some l := by
  induction l with
  | nil => rfl
  | cons a l ih => simp only [List.map_cons, boolsT, ih, Option.map_some]
theorem bools_ok {F : Nat → Prop} {A : AH} : ∀ {ts : List T} {vs : List Val} {l : List Bool}, rds F A ts vs → boolsT ts = some l → boolsOf vs = some l
  | [], _, _, r, h => by rw [rds_nil] at r; subst r; exact h
  | x :: ts, _, l, r, h => by
    obtain ⟨v, r', rfl, r1, r2⟩ := rds_cons.mp r
    cases x <;> first | (simp [boolsT] at h; done) | skip
    simp only [boolsT, Option.map_eq_some_iff] at h
    obtain ⟨m, hm, rfl⟩ := h
    simp only [rd] at r1; subst r1
    simp only [boolsOf, bools_ok r2 hm, Option.map_some]
def allT (f : List Bool → Bool) (xs : List T) : Option T := match xs with
  | [.lst ts] => (boolsT ts).map fun l => .bl (f l)
  | _ => none
theorem sn_all : SN k oAll (allT fun l => l.all id) := fun F A s xs z vs I r e Q q => by
  unfold allT at e
  split at e
  · obtain ⟨v, rfl, r0⟩ := ro1 r
    simp only [Option.map_eq_some_iff] at e
    obtain ⟨l, hl, rfl⟩ := e
    obtain ⟨n, ws, rfl, ea, r3⟩ := ro_lst r0
    exact ⟨n, l, rfl, by simp only [lstAt_of ea, Option.bind_some, bools_ok r3 hl], q _ A F .refl I (k_pl rfl (by simp only [rd]))⟩
  · cases e
theorem sn_any : SN k oAny (allT fun l => l.any id) := fun F A s xs z vs I r e Q q => by
  unfold allT at e
  split at e
  · obtain ⟨v, rfl, r0⟩ := ro1 r
    simp only [Option.map_eq_some_iff] at e
    obtain ⟨l, hl, rfl⟩ := e
    obtain ⟨n, ws, rfl, ea, r3⟩ := ro_lst r0
    exact ⟨n, l, rfl, by simp only [lstAt_of ea, Option.bind_some, bools_ok r3 hl], q _ A F .refl I (k_pl rfl (by simp only [rd]))⟩
  · cases e
def strT (xs : List T) : Option T := match xs with
  | [.int i] => if i.natAbs.log2 < 1920 then some (.str (toString i)) else none
  | _ => none
theorem sn_str : SN k oStr strT := fun F A s xs z vs I r e Q q => by
  unfold strT at e
  split at e
  · obtain ⟨v, rfl, r0⟩ := ro1 r
    rw [ro_int r0]
    split at e
    · rename_i h; cases e
      exact ⟨h, q _ A F .refl I (k_pl rfl (by simp only [rd]))⟩
    · cases e
  · cases e
def idxT (x : T) (ys : List T) : Option Nat := match ys with
  | [] => none
  | y :: ys => if eqT y x = true then some 0 else (idxT x ys).map (· + 1)
theorem idx_ok {F : Nat → Prop} {A : AH} {x : T} {v : Val} (r : rd F A x v) (h : okT 60 x = true) : ∀ {ys : List T} {ws : List Val} {j : Nat}, rds F A ys ws → okTs 60 ys = true → idxT x ys = some j → ∃ z, ws[j]? = some z ∧ EV.eqV z v = true ∧ ∀ m z', m < j → ws[m]? = some z' → EV.eqV z' v = false
  | [], _, _, r2, _, e => by simp [idxT] at e
  | y :: ys, _, j, r2, h2, e => by
    obtain ⟨w, r', rfl, r3, r4⟩ := rds_cons.mp r2
    simp only [okTs, Bool.and_eq_true] at h2
    have he := rd_eqT 60 y w r3 h2.1 60 x v r h
    unfold idxT at e
    split at e
    · rename_i hc
      cases e
      exact ⟨w, rfl, by rw [he, hc], fun m z' hm => by omega⟩
    · rename_i hc
      simp only [Option.map_eq_some_iff] at e
      obtain ⟨i, hi, rfl⟩ := e
      obtain ⟨z, e1, e2, e3⟩ := idx_ok r h r4 h2.2 hi
      refine ⟨z, by simpa using e1, e2, fun m z' hm ez => ?_⟩
      cases m with
      | zero => simp at ez; subst ez; rw [he]; simpa using hc
      | succ m => exact e3 m z' (by omega) (by simpa using ez)
def indexT (ts : List T) (y : T) : Option T := if okT 60 y = true ∧ okTs 60 ts = true then (idxT y ts).map fun j => .int (j : Nat) else none
def asL : T → Option (List T)
  | .lst ts => some ts
  | _ => none
end
section
variable {Γ : Gam} {k : Kd}
theorem rx_index {d e : Den} {m n : M T} (h : RX .ro Γ d m) (h2 : RX .ro Γ e n) : RX k Γ (dMe (wM mIndex) tyL d (aCons e aNil)) (bnd m fun x => bnd (ofO (asL x)) fun ts => bnd n fun y => ofO (indexT ts y)) := fun b F A t s a Q E p => by
  rw [wM_eq]
  refine h b F A t s a _ _ (p.bind (lowK k) fun x s1 v A1 F1 st1 I1 r1 p1 => ?_)
  cases x <;> first | exact p1.elim | skip
  rename_i ts
  obtain ⟨n, vs, rfl, ea, r3⟩ := ro_lst r1
  refine ⟨⟨n, vs, rfl, lstAt_of ea⟩, ?_⟩
  refine h2 b F1 A1 t s1 (a.stp I1 st1) _ _ (PX.bind (f := fun y => ofO (indexT ts y)) (lowK k) p1 fun y s2 w A2 F2 st2 I2 r2 p2 => ?_)
  obtain ⟨n', vs', e', ea', r3'⟩ := ro_lst (ro_stp I1 st2 r1)
  cases e'
  simp only [indexT] at p2
  split at p2
  · rename_i ho
    cases e : idxT y ts with
    | none => rw [e] at p2; exact p2.elim
    | some j =>
      rw [e] at p2
      have a1 := ok_pl ho.1
      have r2 := ro_p r2 a1.1 a1.2
      obtain ⟨z, e1, e2, e3⟩ := idx_ok r2 ho.1 r3' ho.2 e
      exact ⟨n, vs', w, j, z, rfl, rfl, lstAt_of ea', rd_okT 60 _ _ r2 ho.1, rds_okT 60 _ _ r3' ho.2, e1, e2, e3, p2 _ A2 F2 .refl I2 (k_pl rfl (by simp only [rd]))⟩
  · exact p2.elim
/-! list(range(..)) -/
def rgT (a b : Int) : List T := (List.range (b - a).toNat).map fun i : Nat => .int (a + (i : Int))
theorem rds_rg {F : Nat → Prop} {A : AH} (a b : Int) : rds F A (rgT a b) (rgL a b) := rds_map fun x _ => by simp only [rd]
open Classical in
noncomputable def lrT (x y : T) : Option T := match x, y with
  | .int i, .int j => if RgOk i j then some (.lst (rgT i j)) else none
  | _, _ => none
theorem rx_lr1 {d : Den} {m : M T} (h : RX .fz Γ d m) : RX .fr Γ (dLR1 d) (bnd m fun x => ofO (lrT (.int 0) x)) := fun b F A t s a Q E p => by
  refine h b F A t s a _ _ (p.bind (lowK .fr) fun x s1 v A1 F1 st1 I1 r1 p1 => ?_)
  cases x <;> first | exact p1.elim | skip
  rename_i j
  simp only [Kd.rel, rd] at r1; subst r1
  simp only [lrT] at p1
  split at p1
  · rename_i hr
    refine ⟨j, rfl, hr, ?_⟩
    unfold kA
    obtain ⟨st, I2⟩ := new_cell (o := .lst (rgL 0 j)) I1
    exact p1 _ _ F1 st I2 (new_lst I1 (rds_rg 0 j))
  · exact p1.elim
theorem rx_lr2 {d e : Den} {m n : M T} (h : RX .fz Γ d m) (h2 : RX .fz Γ e n) : RX .fr Γ (dLR2 d e) (bnd m fun x => bnd n fun y => ofO (lrT x y)) := fun b F A t s a Q E p => by
  refine h b F A t s a _ _ (p.bind (lowK .fr) fun x s1 v A1 F1 st1 I1 r1 p1 => ?_)
  refine h2 b F1 A1 t s1 (a.stp I1 st1) _ _ (p1.bind (lowK .fr) fun y s2 w A2 F2 st2 I2 r2 p2 => ?_)
  cases x <;> first | exact p2.elim | skip
  cases y <;> first | exact p2.elim | skip
  rename_i i j
  simp only [Kd.rel, rd] at r1 r2; subst r1; subst r2
  simp only [lrT] at p2
  split at p2
  · rename_i hr
    refine ⟨i, j, rfl, rfl, hr, ?_⟩
    unfold kA
    obtain ⟨st, I3⟩ := new_cell (o := .lst (rgL i j)) I2
    exact p2 _ _ F2 st I3 (new_lst I2 (rds_rg i j))
  · exact p2.elim
end
end FM

namespace FM
open PySem PySem.Spec PyProof.Rows L2 EV

/-! ### walks -/
def itR (ro : Bool) : Rl (List T) Wk := fun _ F A xs J => ∃ vs, rds F A xs vs ∧ ∀ A', (∀ n, 2 ≤ n → (if ro = true then n < A.length else F n) → A'[n]? = A[n]?) → ∀ i, J i A' = some vs[i]?
theorem lowI (ro : Bool) : LowR (itR ro) := fun _ _ _ _ _ _ _ h => h
def RI (ro : Bool) (Γ : Gam) (d : DenI) (m : M (List T)) : Prop := ∀ b F A t s, At b F A t Γ s → ∀ Q E, PX (itR ro) F A (m s) Q E → d t A Q E
def valT : T → Option (List T)
  | .tup ts => some ts
  | .lst ts => some ts
  | .str z => some (z.cps.toList.map fun c => .str ⟨#[c]⟩)
  | _ => none
theorem itr_const {ro : Bool} {F : Nat → Prop} {A : AH} {a : Nat} {xs : List T} {vs : List Val} (h : rds F A xs vs) {J : Wk} (hJ : ∀ i A', J i A' = some vs[i]?) : itR ro a F A xs J := ⟨vs, h, fun A' _ i => hJ i A'⟩
theorem wkS_at (z : Str) (i : Nat) (A : AH) : wkS z i A = some ((z.cps.toList.map fun c => Val.str ⟨#[c]⟩)[i]?) := by
  unfold wkS
  rw [List.getElem?_map, Array.getElem?_toList]
section
variable {Γ : Gam}
theorem ri_val {d : Den} {m : M T} (h : RX .fz Γ d m) : RI false Γ (iVal d) (bnd m fun x => ofO (valT x)) := fun b F A t s a Q E p => by
  refine h b F A t s a _ _ (p.bind (lowI _) fun x s1 v A1 F1 st1 I1 r1 p1 => ?_)
  cases x <;> first | exact p1.elim | skip
  all_goals simp only [Kd.rel, rd] at r1
  · subst r1
    refine p1 _ A1 F1 .refl I1 (itr_const (vs := _) (rds_map (g := fun c => Val.str ⟨#[c]⟩) fun c _ => by simp only [rd]) fun i A' => wkS_at _ i A')
  · obtain ⟨vs, rfl, r1⟩ := r1
    exact p1 _ A1 F1 .refl I1 (itr_const r1 fun _ _ => rfl)
  · obtain ⟨n, rfl, hn, vs, ea, r1⟩ := r1
    refine .inl ⟨⟨vs, lstAt_of ea⟩, p1 _ A1 F1 .refl I1 ⟨vs, r1, fun A' hA i => ?_⟩⟩
    unfold wkL
    rw [hA n (I1.fz n hn).1 (by simpa using hn), ea]
theorem ri_valO {d : Den} {m : M T} (h : RX .ro Γ d m) : RI true Γ (iVal d) (bnd m fun x => ofO (valT x)) := fun b F A t s a Q E p => by
  refine h b F A t s a _ _ (p.bind (lowI _) fun x s1 v A1 F1 st1 I1 r1 p1 => ?_)
  cases x <;> first | exact p1.elim | skip
  · rw [ro_str r1]
    refine p1 _ A1 F1 .refl I1 (itr_const (vs := _) (rds_map (g := fun c => Val.str ⟨#[c]⟩) fun c _ => by simp only [rd]) fun i A' => wkS_at _ i A')
  · obtain ⟨vs, rfl, r3⟩ := ro_tup r1
    exact p1 _ A1 F1 .refl I1 (itr_const r3 fun _ _ => rfl)
  · rcases r1 with ⟨n, rfl, hn, vs, ea, r3⟩ | ⟨ks, ts, n, kvs, g, e, _⟩
    · refine .inl ⟨⟨vs, lstAt_of ea⟩, p1 _ A1 F1 .refl I1 ⟨vs, r3, fun A' hA i => ?_⟩⟩
      unfold wkL
      rw [hA n hn (by simpa using (List.getElem?_eq_some_iff.mp ea).1), ea]
    · cases e
def rngT (lo c : Int) (n : Nat) : List T := (List.range n).map fun i : Nat => .int (lo + (i : Int) * c)
theorem rds_rng {F : Nat → Prop} {A : AH} (lo c : Int) (n : Nat) : rds F A (rngT lo c n) (rngL lo c n) := rds_map fun x _ => by simp only [rd]
open Classical in
noncomputable def rng1T (xs : List T) : Option (List T) := match xs with
  | [.int j] => if sm62 j then some (rngT 0 1 j.toNat) else none
  | _ => none
open Classical in
noncomputable def rng2T (xs : List T) : Option (List T) := match xs with
  | [.int i, .int j] => if sm62 i ∧ sm62 j then some (rngT i 1 (j - i).toNat) else none
  | _ => none
open Classical in
noncomputable def rng3T (xs : List T) : Option (List T) := match xs with
  | [.int i, .int j, .int c] => if RgC i j c (Builtin.Range.rangeSize i j c).toNat then some (rngT i c (Builtin.Range.rangeSize i j c).toNat) else none
  | _ => none
theorem wkR_at (lo c : Int) (n i : Nat) (A : AH) : wkR lo c n i A = some (rngL lo c n)[i]? := by rw [rng_at]; rfl
theorem fz1 {F : Nat → Prop} {A : AH} {a : Nat} {x : T} {vs : List Val} (h : Kd.rels .fz a F A [x] vs) : ∃ v, vs = [v] ∧ rd F A x v := by
  obtain ⟨v, r, rfl, h1, h2⟩ := h
  cases h2; exact ⟨v, rfl, h1⟩
theorem fz2 {F : Nat → Prop} {A : AH} {a : Nat} {vs : List Val} {x y : T} (h : Kd.rels .fz a F A [x, y] vs) : ∃ v w, vs = [v, w] ∧ rd F A x v ∧ rd F A y w := by
  obtain ⟨v, r, rfl, h1, w, r2, rfl, h2, h3⟩ := h
  cases h3; exact ⟨v, w, rfl, h1, h2⟩
theorem fz3 {F : Nat → Prop} {A : AH} {a : Nat} {vs : List Val} {x y z : T} (h : Kd.rels .fz a F A [x, y, z] vs) : ∃ v w u, vs = [v, w, u] ∧ rd F A x v ∧ rd F A y w ∧ rd F A z u := by
  obtain ⟨v, r, rfl, h1, w, r2, rfl, h2, u, r3, rfl, h3, h4⟩ := h
  cases h4; exact ⟨v, w, u, rfl, h1, h2, h3⟩
theorem ri_rng1 {ro : Bool} {d : DenA} {m : M (List T)} (h : RA .fz Γ d m) : RI ro Γ (iRng1 d) (bnd m fun xs => ofO (rng1T xs)) := fun b F A t s a Q E p => by
  refine h b F A t s a _ _ (p.bind (lowI _) fun xs s1 vs A1 F1 st1 I1 r1 p1 => ?_)
  unfold rng1T at p1
  split at p1
  · split at p1
    · rename_i j hj
      obtain ⟨v, rfl, r⟩ := fz1 r1
      simp only [rd] at r; subst r
      exact ⟨j, rfl, hj, p1 _ A1 F1 .refl I1 (itr_const (rds_rng _ _ _) fun i A' => wkR_at _ _ _ _ _)⟩
    · exact p1.elim
  · exact p1.elim
theorem ri_rng2 {ro : Bool} {d : DenA} {m : M (List T)} (h : RA .fz Γ d m) : RI ro Γ (iRng2 d) (bnd m fun xs => ofO (rng2T xs)) := fun b F A t s a Q E p => by
  refine h b F A t s a _ _ (p.bind (lowI _) fun xs s1 vs A1 F1 st1 I1 r1 p1 => ?_)
  unfold rng2T at p1
  split at p1
  · split at p1
    · rename_i i j hj
      obtain ⟨v, w, rfl, r, r2⟩ := fz2 r1
      simp only [rd] at r r2; subst r; subst r2
      exact ⟨i, j, rfl, hj.1, hj.2, p1 _ A1 F1 .refl I1 (itr_const (rds_rng _ _ _) fun i A' => wkR_at _ _ _ _ _)⟩
    · exact p1.elim
  · exact p1.elim
theorem ri_rng3 {ro : Bool} {d : DenA} {m : M (List T)} (h : RA .fz Γ d m) : RI ro Γ (iRng3 d) (bnd m fun xs => ofO (rng3T xs)) := fun b F A t s a Q E p => by
  refine h b F A t s a _ _ (p.bind (lowI _) fun xs s1 vs A1 F1 st1 I1 r1 p1 => ?_)
  unfold rng3T at p1
  split at p1
  · split at p1
    · rename_i i j c hj
      obtain ⟨v, w, u, rfl, r, r2, r3⟩ := fz3 r1
      simp only [rd] at r r2 r3; subst r; subst r2; subst r3
      exact ⟨i, j, c, _, rfl, hj, p1 _ A1 F1 .refl I1 (itr_const (rds_rng _ _ _) fun i A' => wkR_at _ _ _ _ _)⟩
    · exact p1.elim
  · exact p1.elim
def revT : T → Option (List T)
  | .tup ts => some ts.reverse
  | .lst ts => some ts.reverse
  | _ => none
theorem ri_rev {d : Den} {m : M T} (h : RX .fz Γ d m) : RI false Γ (iRev d) (bnd m fun x => ofO (revT x)) := fun b F A t s a Q E p => by
  refine h b F A t s a _ _ (p.bind (lowI _) fun x s1 v A1 F1 st1 I1 r1 p1 => ?_)
  cases x <;> first | exact p1.elim | skip
  all_goals simp only [Kd.rel, rd] at r1
  · obtain ⟨vs, rfl, r1⟩ := r1
    exact p1 _ A1 F1 .refl I1 (itr_const (rds_rev r1) fun _ _ => rfl)
  · obtain ⟨n, rfl, hn, vs, ea, r1⟩ := r1
    refine ⟨vs, lstAt_of ea, p1 _ A1 F1 .refl I1 ⟨vs.reverse, rds_rev r1, fun A' hA i => ?_⟩⟩
    unfold wkV
    rw [lstAt_of ((hA n (I1.fz n hn).1 (by simpa using hn)).trans ea), Option.bind_some, if_pos rfl]
theorem ri_revO {d : Den} {m : M T} (h : RX .ro Γ d m) : RI true Γ (iRev d) (bnd m fun x => ofO (revT x)) := fun b F A t s a Q E p => by
  refine h b F A t s a _ _ (p.bind (lowI _) fun x s1 v A1 F1 st1 I1 r1 p1 => ?_)
  cases x <;> first | exact p1.elim | skip
  · obtain ⟨vs, rfl, r3⟩ := ro_tup r1
    exact p1 _ A1 F1 .refl I1 (itr_const (rds_rev r3) fun _ _ => rfl)
  · rcases r1 with ⟨n, rfl, hn, vs, ea, r3⟩ | ⟨ks, ts, n, kvs, g, e, _⟩
    · refine ⟨vs, lstAt_of ea, p1 _ A1 F1 .refl I1 ⟨vs.reverse, rds_rev r3, fun A' hA i => ?_⟩⟩
      unfold wkV
      rw [lstAt_of ((hA n hn (by simpa using (List.getElem?_eq_some_iff.mp ea).1)).trans ea), Option.bind_some, if_pos rfl]
    · cases e
def enT (xs : List T) : Option (List T) := match xs with
  | [.lst ts] => some (ts.mapIdx fun i x => .tup [.int (i : Nat), x])
  | [.tup ts] => some (ts.mapIdx fun i x => .tup [.int (i : Nat), x])
  | _ => none
/-- a frozen list or a tuple, walked -/
theorem seq_fz {F : Nat → Prop} {A : AH} {x : T} {v : Val} {ts : List T} (h : x = .lst ts ∨ x = .tup ts) (r : rd F A x v) : ∃ k ws, seqW A v k ∧ rds F A ts ws ∧ ∀ A' : AH, (∀ n, F n → A'[n]? = A[n]?) → ∀ i, k i A' = some ws[i]? := by
  rcases h with rfl | rfl
  · simp only [rd] at r
    obtain ⟨n, rfl, hn, ws, ea, r⟩ := r
    refine ⟨wkL n, ws, .inl ⟨n, ws, rfl, lstAt_of ea, rfl⟩, r, fun A' hA i => ?_⟩
    rw [wkL_eq, lstAt_of ((hA n hn).trans ea)]; rfl
  · simp only [rd] at r
    obtain ⟨ws, rfl, r⟩ := r
    exact ⟨wkT ws, ws, .inr ⟨ws, .inl rfl, rfl⟩, r, fun _ _ _ => rfl⟩
theorem rds_idx {F : Nat → Prop} {A : AH} : ∀ {xs : List T} {vs : List Val}, rds F A xs vs → ∀ k : Nat, rds F A (xs.mapIdx fun i x => .tup [.int ((k + i : Nat) : Int), x]) (vs.mapIdx fun i x => .tup [.int ((k + i : Nat) : Int), x])
  | [], _, h, k => by rw [rds_nil] at h; subst h; simp [rds]
  | x :: xs, _, h, k => by
    obtain ⟨v, r, rfl, h1, h⟩ := rds_cons.mp h
    rw [List.mapIdx_cons, List.mapIdx_cons]
    refine rds_cons.mpr ⟨_, _, rfl, by simp only [rd]; exact ⟨_, rfl, rds_cons.mpr ⟨_, _, rfl, by simp only [rd], rds_one h1⟩⟩, ?_⟩
    have := rds_idx h (k + 1)
    simp only [Nat.add_assoc, Nat.add_comm 1] at this ⊢
    exact this
theorem ri_enum {d : DenA} {m : M (List T)} (h : RA .fz Γ d m) : RI false Γ (iEnum d) (bnd m fun xs => ofO (enT xs)) := fun b F A t s a Q E p => by
  refine h b F A t s a _ _ (p.bind (lowI _) fun xs s1 vs A1 F1 st1 I1 r1 p1 => ?_)
  have core : ∀ (x : T) (ts : List T), xs = [x] → (x = .lst ts ∨ x = .tup ts) → PX (itR false) F1 A1 (ofO (some (ts.mapIdx fun i x => T.tup [.int (i : Nat), x])) s1) Q E → ∃ v k, vs = [v] ∧ seqW A1 v k ∧ Q (wkE k) A1 := fun x ts ex hx pp => by
    subst ex
    obtain ⟨v, rfl, r⟩ := fz1 r1
    obtain ⟨k, ws, hw, r2, hk⟩ := seq_fz hx r
    have r' := rds_idx r2 0
    simp only [Nat.zero_add] at r'
    refine ⟨v, k, rfl, hw, pp _ A1 F1 .refl I1 ⟨_, r', fun A' hA i => ?_⟩⟩
    unfold wkE
    rw [hk A' (fun n hn => hA n (I1.fz n hn).1 (by simpa using hn))]
    simp
  unfold enT at p1
  split at p1
  · exact core _ _ rfl (.inl rfl) p1
  · exact core _ _ rfl (.inr rfl) p1
  · exact p1.elim
def zpT (xs : List T) : Option (List T) := match xs with
  | [.lst ts, .lst us] => some (List.zipWith (fun x y => .tup [x, y]) ts us)
  | [.tup ts, .tup us] => some (List.zipWith (fun x y => .tup [x, y]) ts us)
  | [.lst ts, .tup us] => some (List.zipWith (fun x y => .tup [x, y]) ts us)
  | [.tup ts, .lst us] => some (List.zipWith (fun x y => .tup [x, y]) ts us)
  | _ => none
theorem rds_zip {F : Nat → Prop} {A : AH} : ∀ {xs ys : List T} {vs ws : List Val}, rds F A xs vs → rds F A ys ws → rds F A (List.zipWith (fun x y => T.tup [x, y]) xs ys) (List.zipWith (fun x y => Val.tup [x, y]) vs ws)
  | [], _, _, _, h, _ => by rw [rds_nil] at h; subst h; simp [rds]
  | x :: xs, [], _, _, _, k => by rw [rds_nil] at k; subst k; simp [rds]
  | x :: xs, y :: ys, _, _, h, k => by
    obtain ⟨v, r, rfl, h1, h⟩ := rds_cons.mp h
    obtain ⟨w, r', rfl, k1, k⟩ := rds_cons.mp k
    exact rds_cons.mpr ⟨_, _, rfl, by simp only [rd]; exact ⟨_, rfl, rds_cons.mpr ⟨_, _, rfl, h1, rds_one k1⟩⟩, rds_zip h k⟩
theorem wkZ_at {k l : Wk} {i : Nat} {A : AH} {vs ws : List Val} (h1 : k i A = some vs[i]?) (h2 : l i A = some ws[i]?) : wkZ k l i A = some (List.zipWith (fun x y => Val.tup [x, y]) vs ws)[i]? := by
  unfold wkZ
  rw [h1, h2, List.getElem?_zipWith]
  cases vs[i]? <;> cases ws[i]? <;> rfl
theorem ri_zip {d : DenA} {m : M (List T)} (h : RA .fz Γ d m) : RI false Γ (iZip d) (bnd m fun xs => ofO (zpT xs)) := fun b F A t s a Q E p => by
  refine h b F A t s a _ _ (p.bind (lowI _) fun xs s1 vs A1 F1 st1 I1 r1 p1 => ?_)
  have core : ∀ (x y : T) (ts us : List T), xs = [x, y] → (x = .lst ts ∨ x = .tup ts) → (y = .lst us ∨ y = .tup us) → PX (itR false) F1 A1 (ofO (some (List.zipWith (fun x y => T.tup [x, y]) ts us)) s1) Q E → ∃ v w k l, vs = [v, w] ∧ seqW A1 v k ∧ seqW A1 w l ∧ Q (wkZ k l) A1 := fun x y ts us ex hx hy pp => by
    subst ex
    obtain ⟨v, w, rfl, r, r2⟩ := fz2 r1
    obtain ⟨k, ws, hw, q1, hk⟩ := seq_fz hx r
    obtain ⟨l, ws2, hw2, q2, hl⟩ := seq_fz hy r2
    refine ⟨v, w, k, l, rfl, hw, hw2, pp _ A1 F1 .refl I1 ⟨_, rds_zip q1 q2, fun A' hA i => wkZ_at (hk A' (fun n hn => hA n (I1.fz n hn).1 (by simpa using hn)) i) (hl A' (fun n hn => hA n (I1.fz n hn).1 (by simpa using hn)) i)⟩⟩
  unfold zpT at p1
  split at p1
  · exact core _ _ _ _ rfl (.inl rfl) (.inl rfl) p1
  · exact core _ _ _ _ rfl (.inr rfl) (.inr rfl) p1
  · exact core _ _ _ _ rfl (.inl rfl) (.inr rfl) p1
  · exact core _ _ _ _ rfl (.inr rfl) (.inl rfl) p1
  · exact p1.elim
end

/-! ### comprehensions -/
section
variable {α : Type}
def noex (m : M α) : M α := fun s => match m s with
  | .ok a s' => .ok a s'
  | _ => .no
end
def lcM (g : T → M (Option T)) : List T → List T → M T
  | [], acc => mret (.lst acc)
  | x :: xs, acc => bnd (noex (g x)) fun o => match o with
    | none => lcM g xs acc
    | some y => if acc.length < sizeLine then lcM g xs (acc ++ [y]) else stuck
def optR : Rl (Option T) (Option Val) := fun _ F A o o' => match o, o' with
  | none, none => True
  | some x, some v => rd F A x v
  | _, _ => False
theorem px_noex {α β : Type} {R : Rl α β} {F : Nat → Prop} {A : AH} {m : M α} {s : Drw} {Q : β → AH → Prop} {E E' : XQ} (h : PX R F A (noex m s) Q E) : PX R F A (m s) Q E' := by
  unfold noex at h
  cases e : m s with
  | ok a s' => rw [e] at h; exact h
  | ex _ _ => rw [e] at h; exact h.elim
  | no => rw [e] at h; exact h
def Item (Γ : Gam) (own : List Nat) (tg : Tg) (tt : DenT) (e : Den) (g : T → M (Option T)) : Prop := ∀ x b F A t s, At b F A t Γ s → ∀ v, rd F A x v → ∀ R : Option Val → AH → Prop, PX optR F A (g x s) R nox →
  ∃ t2, bindT tg v (wipeV t own) = some t2 ∧ tt t2 A (fun b A3 => if b = true then e t2 A3 (fun y A4 => R (some y) A4) nox else R none A3) nox
section
variable {Γ : Gam}
theorem rx_lc {ro : Bool} {it : DenI} {tg : Tg} {tt : DenT} {e : Den} {own : List Nat} {mi : M (List T)} {g : T → M (Option T)} (hi : RI ro Γ it mi) (hg : Item Γ own tg tt e g) :
    RX .fr Γ (dLcB it tg tt e own) (bnd mi fun xs => lcM g xs []) := fun b F A t s a Q E p => by
  refine hi b F A t s a _ _ (p.bind (lowK .fr) fun xs s1 J A1 F1 st1 I1 r1 p1 => ?_)
  obtain ⟨vs, rvs, hJ⟩ := r1
  unfold dLcJ
  refine ⟨fun i m acc A' => i + m = vs.length ∧ ∃ F' s' ts, Stp A1.length F1 A1 F' A' ∧ Inv A' F' s' ∧ rds F' A' ts acc ∧ PX (Kd.rel .fr) F' A' (lcM g (xs.drop i) ts s') Q E, ⟨vs.length, by simp, F1, s1, [], .refl, I1, rds_nil.mpr rfl, by simpa using p1⟩, fun i m acc A' ⟨em, F', s', ts, st, I, ra, p⟩ => ?_⟩
  have hw : J i A' = some vs[i]? := hJ A' (fun n h2 hn => by
    have hl : n < A1.length := by
      cases ro with
      | true => simpa using hn
      | false => exact (I1.fz n (by simpa using hn)).2
    exact st.keep n h2 hl (.inr hl)) i
  have hl := rds_len rvs
  by_cases hlt : i < xs.length
  · have ex : xs[i]? = some xs[i] := List.getElem?_eq_getElem hlt
    obtain ⟨v, ev, rv⟩ := rds_at rvs ex
    rw [ev] at hw
    rw [List.drop_eq_getElem_cons hlt] at p
    have rv' := rd_stp I1 st rv
    have a' : At b F' A' t Γ s' := (a.stp I1 st1).stp I st
    refine .inr ⟨v, ?_⟩
    have key := hg xs[i] b F' A' t s' a' v rv' (fun o A4 => match o with
      | some y => acc.length < sizeLine ∧ (i + 1 + (m - 1) = vs.length ∧ ∃ F' s' ts, Stp A1.length F1 A1 F' A4 ∧ Inv A4 F' s' ∧ rds F' A4 ts (acc ++ [y]) ∧ PX (Kd.rel .fr) F' A4 (lcM g (xs.drop (i + 1)) ts s') Q E)
      | none => (i + 1 + (m - 1) = vs.length ∧ ∃ F' s' ts, Stp A1.length F1 A1 F' A4 ∧ Inv A4 F' s' ∧ rds F' A4 ts acc ∧ PX (Kd.rel .fr) F' A4 (lcM g (xs.drop (i + 1)) ts s') Q E))
      (px_noex (p.bind (R1 := optR) (lowK .fr) fun o s2 o' A2 F2 st2 I2 r2 p2 => by
        have hs := st.trans (st2.low I st.len rfl)
        cases o with
        | none =>
          cases o' with
          | none => exact ⟨by omega, F2, s2, ts, hs, I2, rds_stp I st2 ra, p2⟩
          | some _ => exact r2.elim
        | some y =>
          cases o' with
          | none => exact r2.elim
          | some w =>
            dsimp only at p2
            split at p2
            · rename_i hsz
              exact ⟨by rw [rds_len ra]; exact hsz, by omega, F2, s2, ts ++ [y], hs, I2, rds_app (rds_stp I st2 ra) (rds_one r2), p2⟩
            · exact p2.elim))
    obtain ⟨t2, e2, k⟩ := key
    refine ⟨t2, hw, e2, fun acc' A4 => i + 1 + (m - 1) = vs.length ∧ ∃ F' s' ts, Stp A1.length F1 A1 F' A4 ∧ Inv A4 F' s' ∧ rds F' A4 ts acc' ∧ PX (Kd.rel .fr) F' A4 (lcM g (xs.drop (i + 1)) ts s') Q E, fun acc' A4 h => ⟨m - 1, by omega, h⟩, ?_⟩
    exact k
  · have e0 : vs[i]? = none := List.getElem?_eq_none (by omega)
    rw [e0] at hw
    rw [List.drop_eq_nil_of_le (by omega)] at p
    obtain ⟨st', I'⟩ := new_cell (o := .lst acc) I
    exact .inl ⟨hw, p _ _ F' st' I' (new_lst I ra)⟩
/-! the targets -/
def gwipe (Γ : Gam) : List Nat → Gam
  | [] => Γ
  | v :: vs => gset (gwipe Γ vs) v .un
theorem at_wipe {b : Nat} {F : Nat → Prop} {A : AH} {t : Lv} {s : Drw} (a : At b F A t Γ s) : ∀ own : List Nat, At b F A (wipeV t own) (gwipe Γ own) s
  | [] => a
  | v :: vs => ⟨a.I, a.hb, (at_wipe a vs).g.setU v none⟩
theorem At.setF {b : Nat} {F : Nat → Prop} {A : AH} {t : Lv} {s : Drw} (a : At b F A t Γ s) (i : Nat) {x : T} {v : Val} (r : rd F A x v) : At b F A (t.set i (some v)) (gset Γ i (.fz x)) s := ⟨a.I, a.hb, a.g.setF i r⟩
def gIt (mt : M Bool) (me : M T) : M (Option T) := bnd mt fun b => if b = true then bnd me fun y => mret (some y) else mret none
theorem item_core {Γ' : Gam} {tt : DenT} {e : Den} {mt : M Bool} {me : M T} (ht : RT Γ' tt mt) (he : RX .fz Γ' e me) {b : Nat} {F : Nat → Prop} {A : AH} {t : Lv} {s : Drw} (a : At b F A t Γ' s) {R : Option Val → AH → Prop} (p : PX optR F A (gIt mt me s) R nox) :
    tt t A (fun b A3 => if b = true then e t A3 (fun y A4 => R (some y) A4) nox else R none A3) nox := by
  have lo : LowR optR := fun _ _ _ _ _ _ _ h => h
  refine ht b F A t s a _ _ (PX.bind (R1 := eqR) lo p fun x s1 v A1 F1 st1 I1 r1 p1 => ?_)
  cases r1
  cases x with
  | true =>
    rw [if_pos rfl] at p1 ⊢
    refine he b F1 A1 t s1 (a.stp I1 st1) _ _ (PX.bind (f := fun y => mret (some y)) lo p1 fun y s2 w A2 F2 st2 I2 r2 p2 => ?_)
    exact p2 (some w) A2 F2 .refl I2 r2
  | false =>
    rw [if_neg Bool.false_ne_true] at p1 ⊢
    exact p1 none A1 F1 .refl I1 trivial
theorem item1 {own : List Nat} {i : Nat} {tt : DenT} {e : Den} {mt : T → M Bool} {me : T → M T} (ht : ∀ x, RT (gset (gwipe Γ own) i (.fz x)) tt (mt x)) (he : ∀ x, RX .fz (gset (gwipe Γ own) i (.fz x)) e (me x)) : Item Γ own (.one i) tt e fun x => gIt (mt x) (me x) :=
  fun x b F A t s a v r R p => ⟨_, rfl, item_core (ht x) (he x) ((at_wipe a own).setF i r) p⟩
def un2 {α : Type} (f : T → T → M α) (x : T) : M α := match x with
  | .tup [a, b] => f a b
  | _ => stuck
def un3 {α : Type} (f : T → T → T → M α) (x : T) : M α := match x with
  | .tup [a, b, c] => f a b c
  | _ => stuck
def un4 {α : Type} (f : T → T → T → T → M α) (x : T) : M α := match x with
  | .tup [a, b, c, d] => f a b c d
  | _ => stuck
theorem item2 {own : List Nat} {i j : Nat} {tt : DenT} {e : Den} {mt : T → T → M Bool} {me : T → T → M T} (ht : ∀ x y, RT (gset (gset (gwipe Γ own) i (.fz x)) j (.fz y)) tt (mt x y)) (he : ∀ x y, RX .fz (gset (gset (gwipe Γ own) i (.fz x)) j (.fz y)) e (me x y)) :
    Item Γ own (.tup [i, j]) tt e (un2 fun x y => gIt (mt x y) (me x y)) :=
  fun x b F A t s a v r R p => by
    unfold un2 at p
    split at p
    · rename_i x y
      simp only [rd] at r
      obtain ⟨vs, rfl, v1, r1, rfl, h1, v2, r2, rfl, h2, rfl⟩ := r
      exact ⟨_, rfl, item_core (ht x y) (he x y) (((at_wipe a own).setF i h1).setF j h2) p⟩
    · exact p.elim
theorem item3 {own : List Nat} {i j k : Nat} {tt : DenT} {e : Den} {mt : T → T → T → M Bool} {me : T → T → T → M T} (ht : ∀ x y z, RT (gset (gset (gset (gwipe Γ own) i (.fz x)) j (.fz y)) k (.fz z)) tt (mt x y z)) (he : ∀ x y z, RX .fz (gset (gset (gset (gwipe Γ own) i (.fz x)) j (.fz y)) k (.fz z)) e (me x y z)) :
    Item Γ own (.tup [i, j, k]) tt e (un3 fun x y z => gIt (mt x y z) (me x y z)) :=
  fun x b F A t s a v r R p => by
    unfold un3 at p
    split at p
    · rename_i x y z
      simp only [rd] at r
      obtain ⟨vs, rfl, v1, r1, rfl, h1, v2, r2, rfl, h2, v3, r3, rfl, h3, rfl⟩ := r
      exact ⟨_, rfl, item_core (ht x y z) (he x y z) ((((at_wipe a own).setF i h1).setF j h2).setF k h3) p⟩
    · exact p.elim
end
end FM

namespace FM
open PySem PySem.Spec PyProof.Rows L2 EV

/-! ### statements -/
inductive Ex (σ : Type) where
  | nx (s : σ) | bk (s : σ) | rt (v : T)
def PS {σ : Type} (lp : Bool) (b : Nat) (P : σ → Gam) (F : Nat → Prop) (A : AH) (r : Res (Ex σ)) (D : EndsA) : Prop := match r with
  | .ok (.nx x) s' => ∀ t' A' F', Stp b F A F' A' → At b F' A' t' (P x) s' → D.nx t' A' ∧ (lp = true → D.ct t' A')
  | .ok (.bk x) s' => ∀ t' A' F', Stp b F A F' A' → At b F' A' t' (P x) s' → D.bk t' A'
  | .ok (.rt v) s' => ∀ u A' F', Stp b F A F' A' → Inv A' F' s' → rd F' A' v u → D.rt u A'
  | .ex e s' => ∀ t' A' F', Stp b F A F' A' → Inv A' F' s' → D.ex e t' A'
  | .no => False
def RS {σ : Type} (lp : Bool) (Γ : Gam) (d : DenS) (P : σ → Gam) (m : M (Ex σ)) : Prop := ∀ b F A t s, At b F A t Γ s → ∀ D, PS lp b P F A (m s) D → d t A D
section
variable {σ τ : Type} {lp : Bool} {Γ : Gam} {P : σ → Gam}
theorem PS.up {b : Nat} {F F1 : Nat → Prop} {A A1 : AH} {r : Res (Ex σ)} {D : EndsA} (h : Stp b F A F1 A1) (p : PS lp b P F A r D) : PS lp b P F1 A1 r D := by
  cases r with
  | ok x s' => cases x with
    | nx x => exact fun t' A' F' st a => p t' A' F' (h.trans st) a
    | bk x => exact fun t' A' F' st a => p t' A' F' (h.trans st) a
    | rt x => exact fun t' A' F' st a => p t' A' F' (h.trans st) a
  | ex e s' => exact fun t' A' F' st a => p t' A' F' (h.trans st) a
  | no => exact p
/-- an expression, then the rest -/
theorem PS.bind {α β : Type} {R : Rl α β} {b : Nat} {F : Nat → Prop} {A : AH} {t : Lv} {s : Drw} {m : M α} {f : α → M (Ex σ)} {D : EndsA} (a : At b F A t Γ s) (p : PS lp b P F A (bnd m f s) D) {Q : β → AH → Prop}
    (k : ∀ x s1 v A1 F1, Stp A.length F A F1 A1 → At b F1 A1 t Γ s1 → R A.length F1 A1 x v → PS lp b P F1 A1 (f x s1) D → Q v A1) : PX R F A (m s) Q (fun e A1 => D.ex e t A1) := by
  unfold bnd at p
  cases e : m s with
  | ok x s1 => rw [e] at p; exact fun v A1 F1 st I r => k x s1 v A1 F1 st (a.stp I st) r (p.up (st.low a.I a.hb rfl))
  | ex e1 s1 => rw [e] at p; exact fun A' F' st I => p t A' F' (st.low a.I a.hb rfl) I
  | no => rw [e] at p; exact p
theorem rs_asg {i : Nat} {d : Den} {m : M T} {rest : DenS} {k : T → M (Ex σ)} (h : RX .fz Γ d m) (hr : ∀ x, RS lp (gset Γ i (.fz x)) rest P (k x)) : RS lp Γ (sSeqB (sAsg d (gNameB i)) rest) P (bnd m k) := fun b F A t s a D p => by
  refine h b F A t s a _ _ (p.bind a fun x s1 v A1 F1 st a1 r p1 => ?_)
  refine s_kT rfl ?_
  exact hr x b F1 A1 _ s1 (a1.setF i r) D p1
theorem rs_asgO {i : Nat} {d : Den} {m : M T} {rest : DenS} {k : T → M (Ex σ)} (h : RX .fr Γ d m) (hr : ∀ x, RS lp (gset Γ i (.ow x)) rest P (k x)) : RS lp Γ (sSeqB (sAsg d (gNameB i)) rest) P (bnd m k) := fun b F A t s a D p => by
  refine h b F A t s a _ _ (p.bind a fun x s1 v A1 F1 st a1 r p1 => ?_)
  refine s_kT rfl ?_
  exact hr x b F1 A1 _ s1 ⟨a1.I, a1.hb, a1.g.setO a1.I a.hb a.I.two (fun j y n e et o => by
    have o' : own b F n := ⟨o.1, o.2.1, fun z => o.2.2 (st.sub n z)⟩
    exact a.g.owlt e et o') i r⟩ D p1
/-- a tuple's parts -/
theorem rs_asg2 {i j : Nat} {d : Den} {m : M T} {rest : DenS} {k : T → T → M (Ex σ)} (h : RX .fz Γ d m) (hr : ∀ x y, RS lp (gset (gset Γ i (.fz x)) j (.fz y)) rest P (k x y)) :
    RS lp Γ (sSeqB (sAsg d (gTup 2 (gsCons (gNameB i) (gsCons (gNameB j) gsNil)))) rest) P (bnd m (un2 k)) := fun b F A t s a D p => by
  refine h b F A t s a _ _ (p.bind a fun x s1 v A1 F1 st a1 r p1 => ?_)
  unfold un2 at p1
  split at p1
  · rename_i x y
    simp only [Kd.rel, rd] at r
    obtain ⟨vs, rfl, v1, r1, rfl, h1, v2, r2, rfl, h2, rfl⟩ := r
    refine ⟨_, .inl rfl, rfl, v1, _, rfl, s_kT rfl ⟨v2, _, rfl, s_kT rfl ⟨rfl, ?_⟩⟩⟩
    exact hr x y b F1 A1 _ s1 ((a1.setF i h1).setF j h2) D p1
  · exact p1.elim
theorem rs_asg3 {i j k3 : Nat} {d : Den} {m : M T} {rest : DenS} {k : T → T → T → M (Ex σ)} (h : RX .fz Γ d m) (hr : ∀ x y z, RS lp (gset (gset (gset Γ i (.fz x)) j (.fz y)) k3 (.fz z)) rest P (k x y z)) :
    RS lp Γ (sSeqB (sAsg d (gTup 3 (gsCons (gNameB i) (gsCons (gNameB j) (gsCons (gNameB k3) gsNil))))) rest) P (bnd m (un3 k)) := fun b F A t s a D p => by
  refine h b F A t s a _ _ (p.bind a fun x s1 v A1 F1 st a1 r p1 => ?_)
  unfold un3 at p1
  split at p1
  · rename_i x y z
    simp only [Kd.rel, rd] at r
    obtain ⟨vs, rfl, v1, r1, rfl, h1, v2, r2, rfl, h2, v3, r3, rfl, h3, rfl⟩ := r
    refine ⟨_, .inl rfl, rfl, v1, _, rfl, s_kT rfl ⟨v2, _, rfl, s_kT rfl ⟨v3, _, rfl, s_kT rfl ⟨rfl, ?_⟩⟩⟩⟩
    exact hr x y z b F1 A1 _ s1 (((a1.setF i h1).setF j h2).setF k3 h3) D p1
  · exact p1.elim
theorem rs_asg4 {i j k3 k4 : Nat} {d : Den} {m : M T} {rest : DenS} {k : T → T → T → T → M (Ex σ)} (h : RX .fz Γ d m) (hr : ∀ x y z w, RS lp (gset (gset (gset (gset Γ i (.fz x)) j (.fz y)) k3 (.fz z)) k4 (.fz w)) rest P (k x y z w)) :
    RS lp Γ (sSeqB (sAsg d (gTup 4 (gsCons (gNameB i) (gsCons (gNameB j) (gsCons (gNameB k3) (gsCons (gNameB k4) gsNil)))))) rest) P (bnd m (un4 k)) := fun b F A t s a D p => by
  refine h b F A t s a _ _ (p.bind a fun x s1 v A1 F1 st a1 r p1 => ?_)
  unfold un4 at p1
  split at p1
  · rename_i x y z w
    simp only [Kd.rel, rd] at r
    obtain ⟨vs, rfl, v1, r1, rfl, h1, v2, r2, rfl, h2, v3, r3, rfl, h3, v4, r4, rfl, h4, rfl⟩ := r
    refine ⟨_, .inl rfl, rfl, v1, _, rfl, s_kT rfl ⟨v2, _, rfl, s_kT rfl ⟨v3, _, rfl, s_kT rfl ⟨v4, _, rfl, s_kT rfl ⟨rfl, ?_⟩⟩⟩⟩⟩
    exact hr x y z w b F1 A1 _ s1 ((((a1.setF i h1).setF j h2).setF k3 h3).setF k4 h4) D p1
  · exact p1.elim
theorem rs_par {i j : Nat} {d e : Den} {m n : M T} {rest : DenS} {k : T → T → M (Ex σ)} (h : RX .fz Γ d m) (h2 : RX .fz Γ e n) (hr : ∀ x y, RS lp (gset (gset Γ i (.fz x)) j (.fz y)) rest P (k x y)) :
    RS lp Γ (sSeqB (sParB i j (aCons d (aCons e aNil))) rest) P (bnd m fun x => bnd n fun y => k x y) := fun b F A t s a D p => by
  refine h b F A t s a _ _ (p.bind a fun x s1 v A1 F1 st a1 r p1 => ?_)
  refine h2 b F1 A1 t s1 a1 _ _ (PS.bind (f := fun y => k x y) a1 p1 fun y s2 w A2 F2 st2 a2 r2 p2 => ?_)
  refine ⟨v, w, rfl, s_kT rfl ?_⟩
  exact hr x y b F2 A2 _ s2 ((a2.setF i (rd_stp a1.I st2 r)).setF j r2) D p2
theorem rs_aug {i : Nat} {x : T} {o : Op2} {f : T → T → Option T} {d : Den} {m : M T} {rest : DenS} {k : T → M (Ex σ)} (hi : gat Γ i = .fz x) (ho : S2 .fz o f) (h : RX .ro Γ d m) (hr : ∀ z, RS lp (gset Γ i (.fz z)) rest P (k z)) :
    RS lp Γ (sSeqB (sAugB i (wO o) d) rest) P (bnd m fun y => bnd (ofO (f x y)) k) := fun b F A t s a D p => by
  obtain ⟨v, e, r⟩ := a.g.fz i x hi
  refine ⟨v, e, ?_⟩
  refine h b F A t s a _ _ (p.bind a fun y s1 w A1 F1 st a1 r2 p1 => ?_)
  rw [wO_eq]
  cases ef : f x y with
  | none => rw [ef] at p1; exact p1.elim
  | some z =>
    rw [ef] at p1
    refine ho F1 A1 s1 x y z v w a1.I (ro_of a1.I (rd_stp a.I st r)) r2 ef _ fun u A2 F2 st2 I2 r3 => s_kT rfl ?_
    exact hr z b F2 A2 _ s1 ((a1.stp I2 st2).setF i r3) D (p1.up (st2.low a1.I a1.hb rfl))
theorem rs_expr {k : Kd} {d : Den} {m : M T} {rest : DenS} {n : M (Ex σ)} (h : RX k Γ d m) (hr : RS lp Γ rest P n) : RS lp Γ (sSeqB (sExpr d) rest) P (bnd m fun _ => n) := fun b F A t s a D p =>
  h b F A t s a _ _ (p.bind a fun x s1 v A1 F1 st a1 r p1 => hr b F1 A1 t s1 a1 D p1)
theorem rs_ret {d : Den} {m : M T} {rest : DenS} (h : RX .fz Γ d m) : RS lp Γ (sSeqB (sRet d) rest) P (bnd m fun x => mret (.rt x)) := fun b F A t s a D p =>
  h b F A t s a _ _ (p.bind a fun x s1 v A1 F1 st a1 r p1 => p1 v A1 F1 .refl a1.I r)
theorem rs_retN {rest : DenS} : RS lp Γ (sSeqB sRetN rest) P (mret (.rt .non)) := fun b F A t s a D p => p .non A F .refl a.I (by simp only [rd])
/-- what is known may be less -/
def GLe (Γ Γ' : Gam) : Prop := Γ.length = Γ'.length ∧ ∀ i, gat Γ' i = .un ∨ gat Γ' i = gat Γ i
theorem GLe.nil : GLe [] [] := ⟨rfl, fun _ => .inl rfl⟩
theorem GLe.cons {x : Sl} {Γ Γ' : Gam} (h : GLe Γ Γ') : GLe (x :: Γ) (x :: Γ') := ⟨by simp [h.1], fun i => by cases i with | zero => exact .inr rfl | succ i => exact h.2 i⟩
theorem GLe.un {x : Sl} {Γ Γ' : Gam} (h : GLe Γ Γ') : GLe (x :: Γ) (.un :: Γ') := ⟨by simp [h.1], fun i => by cases i with | zero => exact .inl rfl | succ i => exact h.2 i⟩
theorem At.le {b : Nat} {F : Nat → Prop} {A : AH} {t : Lv} {Γ Γ' : Gam} {s : Drw} (a : At b F A t Γ s) (h : GLe Γ Γ') : At b F A t Γ' s := by
  have key : ∀ {i : Nat} {y : Sl}, gat Γ' i = y → y ≠ .un → gat Γ i = y := fun {i y} e ne => by
    rcases h.2 i with z | z
    · rw [z] at e; exact absurd e.symm ne
    · rw [← z]; exact e
  exact ⟨a.I, a.hb, by rw [a.g.len, h.1], fun i x e => a.g.fz i x (key e (fun z => nomatch z)), fun i x e => a.g.ow i x (key e (fun z => nomatch z)),
    fun i j x y n e1 e2 => a.g.dj i j x y n (key e1 (fun z => nomatch z)) (key e2 (fun z => nomatch z)), fun i n kvs g ks ts e => a.g.lk i n kvs g ks ts (key e (fun z => nomatch z))⟩
theorem rs_end {x : σ} (h : GLe Γ (P x)) : RS lp Γ sSkip P (mret (.nx x)) := fun b F A t s a D p => (p t A F .refl (a.le h)).1
theorem rs_skip {rest : DenS} {m : M (Ex σ)} (h : RS lp Γ rest P m) : RS lp Γ (sSeqB sSkip rest) P m := fun b F A t s a D p => h b F A t s a D p
theorem rs_cont {x : σ} {rest : DenS} (h : GLe Γ (P x)) : RS true Γ (sSeqB sCont rest) P (mret (.nx x)) := fun b F A t s a D p => (p t A F .refl (a.le h)).2 rfl
theorem rs_break {x : σ} {rest : DenS} (h : GLe Γ (P x)) : RS lp Γ (sSeqB sBreak rest) P (mret (.bk x)) := fun b F A t s a D p => p t A F .refl (a.le h)
theorem rs_assoc {d e r : DenS} {m : M (Ex σ)} (h : RS lp Γ (sSeqB d (sSeqB e r)) P m) : RS lp Γ (sSeqB (sSeqB d e) r) P m := h
/-- if, with the rest behind each branch -/
theorem rs_if {c : DenT} {d e rest : DenS} {mc : M Bool} {m n : M (Ex σ)} (h : RT Γ c mc) (h1 : RS lp Γ (sSeqB d rest) P m) (h2 : RS lp Γ (sSeqB e rest) P n) : RS lp Γ (sSeqB (sIfB c d e) rest) P (bnd mc fun k => if k = true then m else n) := fun b F A t s a D p => by
  refine h b F A t s a _ _ (p.bind a fun x s1 v A1 F1 st a1 r p1 => ?_)
  cases r
  cases x with
  | true => rw [if_pos rfl] at p1; rw [bI_t]; exact h1 b F1 A1 t s1 a1 D p1
  | false => rw [if_neg Bool.false_ne_true] at p1; rw [bI_f]; exact h2 b F1 A1 t s1 a1 D p1
def bndX (m : M (Ex τ)) (f : τ → M (Ex σ)) : M (Ex σ) := bnd m fun r => match r with
  | .nx s => f s
  | .bk _ => stuck
  | .rt v => mret (.rt v)
/-- if, joined -/
theorem rs_ifJ {c : DenT} {d e rest : DenS} {mc : M Bool} {m n : M (Ex τ)} {J : τ → Gam} {k : τ → M (Ex σ)} (h : RT Γ c mc) (h1 : RS false Γ d J m) (h2 : RS false Γ e J n) (hr : ∀ x, RS lp (J x) rest P (k x)) :
    RS lp Γ (sSeqB (sIfB c d e) rest) P (bnd mc fun b => bndX (if b = true then m else n) k) := fun b F A t s a D p => by
  refine h b F A t s a _ _ (p.bind a fun x s1 v A1 F1 st a1 r p1 => ?_)
  cases r
  have key : ∀ {q : M (Ex τ)}, PS lp b P F1 A1 (bndX q k s1) D → PS false b J F1 A1 (q s1) (D.thn rest) := fun {q} p1 => by
    unfold bndX bnd at p1
    cases eq : q s1 with
    | ok y s2 =>
      rw [eq] at p1
      cases y with
      | nx y => exact fun t' A' F' st a2 => ⟨hr y b F' A' t' s2 a2 D (p1.up st), fun z => nomatch z⟩
      | bk y => exact p1.elim
      | rt v => exact p1
    | ex e1 s2 => rw [eq] at p1; exact p1
    | no => rw [eq] at p1; exact p1
  cases x with
  | true => rw [if_pos rfl] at p1; rw [bI_t]; exact h1 b F1 A1 t s1 a1 _ (key p1)
  | false => rw [if_neg Bool.false_ne_true] at p1; rw [bI_f]; exact h2 b F1 A1 t s1 a1 _ (key p1)
/-! loops -/
def forE (f : τ → T → M (Ex τ)) : List T → τ → M (Ex τ)
  | [], x => mret (.nx x)
  | y :: ys, x => bnd (f x y) fun r => match r with
    | .nx x' => forE f ys x'
    | .bk x' => mret (.nx x')
    | .rt v => mret (.rt v)
def TB (Γ : Gam) (g : DenG) (body : DenS) (L : τ → Gam) (m : T → M (Ex τ)) : Prop := ∀ x v b F A t s, At b F A t Γ s → rd F A x v → ∀ D, PS true b L F A (m x s) D → g v t A (fun t2 A2 => body t2 A2 D)
theorem tb1 {i : Nat} {body : DenS} {L : τ → Gam} {m : T → M (Ex τ)} (h : ∀ x, RS true (gset Γ i (.fz x)) body L (m x)) : TB Γ (gNameB i) body L m := fun x v b F A t s a r D p =>
  s_kT rfl (h x b F A _ s (a.setF i r) D p)
theorem tb2 {i j : Nat} {body : DenS} {L : τ → Gam} {m : T → T → M (Ex τ)} (h : ∀ x y, RS true (gset (gset Γ i (.fz x)) j (.fz y)) body L (m x y)) : TB Γ (gTup 2 (gsCons (gNameB i) (gsCons (gNameB j) gsNil))) body L (un2 m) := fun x v b F A t s a r D p => by
  unfold un2 at p
  split at p
  · rename_i x y
    simp only [rd] at r
    obtain ⟨vs, rfl, v1, r1, rfl, h1, v2, r2, rfl, h2, rfl⟩ := r
    refine ⟨_, .inl rfl, rfl, v1, _, rfl, s_kT rfl ⟨v2, _, rfl, s_kT rfl ⟨rfl, ?_⟩⟩⟩
    exact h x y b F A _ s ((a.setF i h1).setF j h2) D p
  · exact p.elim
theorem tb3 {i j k : Nat} {body : DenS} {L : τ → Gam} {m : T → T → T → M (Ex τ)} (h : ∀ x y z, RS true (gset (gset (gset Γ i (.fz x)) j (.fz y)) k (.fz z)) body L (m x y z)) : TB Γ (gTup 3 (gsCons (gNameB i) (gsCons (gNameB j) (gsCons (gNameB k) gsNil)))) body L (un3 m) := fun x v b F A t s a r D p => by
  unfold un3 at p
  split at p
  · rename_i x y z
    simp only [rd] at r
    obtain ⟨vs, rfl, v1, r1, rfl, h1, v2, r2, rfl, h2, v3, r3, rfl, h3, rfl⟩ := r
    refine ⟨_, .inl rfl, rfl, v1, _, rfl, s_kT rfl ⟨v2, _, rfl, s_kT rfl ⟨v3, _, rfl, s_kT rfl ⟨rfl, ?_⟩⟩⟩⟩
    exact h x y z b F A _ s (((a.setF i h1).setF j h2).setF k h3) D p
  · exact p.elim
theorem rs_for {it : DenI} {g : DenG} {body rest : DenS} {mi : M (List T)} {L : τ → Gam} {x0 : τ} {f : τ → T → M (Ex τ)} {k : τ → M (Ex σ)} (hi : RI false Γ it mi) (hL : GLe Γ (L x0)) (hb : ∀ x, TB (L x) g body L (f x)) (hr : ∀ x, RS lp (L x) rest P (k x)) :
    RS lp Γ (sSeqB (sForB it g body) rest) P (bnd mi fun xs => bndX (forE f xs x0) k) := fun b F A t s a D p => by
  refine hi b F A t s a _ _ (p.bind a fun xs s1 J A1 F1 st1 a1 r1 p1 => ?_)
  obtain ⟨vs, rvs, hJ⟩ := r1
  have hl := rds_len rvs
  unfold sForJ
  refine ⟨fun i m t' A' => i + m = xs.length ∧ ∃ F' s' x, Stp b F1 A1 F' A' ∧ At b F' A' t' (L x) s' ∧ PS lp b P F' A' (bndX (forE f (xs.drop i) x) k s') D, ⟨xs.length, by simp, F1, s1, x0, .refl, a1.le hL, p1⟩, fun i m t' A' ⟨em, F', s', x, st, a', p⟩ => ?_⟩
  have hw : J i A' = some vs[i]? := hJ A' (fun n h2 hn => by
    have hn : F1 n := by simpa using hn
    exact st.keep n h2 (a1.I.fz n hn).2 (.inl hn)) i
  by_cases hlt : i < xs.length
  · have ex : xs[i]? = some xs[i] := List.getElem?_eq_getElem hlt
    obtain ⟨v, ev, rv⟩ := rds_at rvs ex
    rw [ev] at hw
    rw [List.drop_eq_getElem_cons hlt] at p
    refine .inr ⟨v, hw, fun t'' A'' => i + 1 + (m - 1) = xs.length ∧ ∃ F' s' x, Stp b F1 A1 F' A'' ∧ At b F' A'' t'' (L x) s' ∧ PS lp b P F' A'' (bndX (forE f (xs.drop (i + 1)) x) k s') D, fun t'' A'' h => ⟨m - 1, by omega, h⟩, ?_⟩
    refine hb x xs[i] v b F' A' t' s' a' (rd_stp a1.I st rv) _ ?_
    unfold bndX forE bnd at p
    cases eq : f x xs[i] s' with
    | ok y s2 =>
      rw [eq] at p
      cases y with
      | nx y =>
        intro t2 A2 F2 st2 a2
        have hh : i + 1 + (m - 1) = xs.length ∧ ∃ F' s' x, Stp b F1 A1 F' A2 ∧ At b F' A2 t2 (L x) s' ∧ PS lp b P F' A2 (bndX (forE f (xs.drop (i + 1)) x) k s') D := ⟨by omega, F2, s2, y, st.trans st2, a2, p.up st2⟩
        exact ⟨hh, fun _ => hh⟩
      | bk y => exact fun t2 A2 F2 st2 a2 => hr y b F2 A2 t2 s2 a2 D (p.up st2)
      | rt v => exact p
    | ex e1 s2 => rw [eq] at p; exact p
    | no => rw [eq] at p; exact p
  · have e0 : vs[i]? = none := List.getElem?_eq_none (by omega)
    rw [e0] at hw
    rw [List.drop_eq_nil_of_le (by omega)] at p
    exact .inl ⟨hw, hr x b F' A' t' s' a' D p⟩
def whE (mc : τ → M Bool) (f : τ → M (Ex τ)) : Nat → τ → M (Ex τ)
  | 0, _ => stuck
  | n + 1, x => bnd (mc x) fun c => if c = true then bnd (f x) fun r => match r with
    | .nx x' => whE mc f n x'
    | .bk x' => mret (.nx x')
    | .rt v => mret (.rt v) else mret (.nx x)
theorem rs_while {c : DenT} {body rest : DenS} {L : τ → Gam} {x0 : τ} {mc : τ → M Bool} {f : τ → M (Ex τ)} {n : Nat} {k : τ → M (Ex σ)} (hL : GLe Γ (L x0)) (hc : ∀ x, RT (L x) c (mc x)) (hb : ∀ x, RS true (L x) body L (f x)) (hr : ∀ x, RS lp (L x) rest P (k x)) :
    RS lp Γ (sSeqB (sWhileB c body) rest) P (bndX (whE mc f n x0) k) := fun b F A t s a D p => by
  show sWhileB c body t A (D.thn rest)
  rw [sWhileB_eq]
  refine ⟨fun m t' A' => ∃ F' s' x, Stp b F A F' A' ∧ At b F' A' t' (L x) s' ∧ PS lp b P F' A' (bndX (whE mc f m x) k s') D, ⟨n, F, s, x0, .refl, a.le hL, p⟩, fun m t' A' ⟨F', s', x, st, a', p⟩ => ?_⟩
  cases m with
  | zero => exact p.elim
  | succ m =>
    unfold bndX whE at p
    rw [bnd_assoc] at p
    refine hc x b F' A' t' s' a' _ _ (p.bind a' fun y s2 w A2 F2 st2 a2 r2 p2 => ?_)
    cases r2
    cases y with
    | true =>
      rw [if_pos rfl] at p2 ⊢
      refine ⟨fun t'' A'' => ∃ F' s' x, Stp b F A F' A'' ∧ At b F' A'' t'' (L x) s' ∧ PS lp b P F' A'' (bndX (whE mc f m x) k s') D, fun t'' A'' h => ⟨m, by omega, h⟩, ?_⟩
      refine hb x b F2 A2 t' s2 a2 _ ?_
      unfold bnd at p2
      cases eq : f x s2 with
      | ok y s3 =>
        rw [eq] at p2
        cases y with
        | nx y =>
          intro t3 A3 F3 st3 a3
          have hh : ∃ F' s' x, Stp b F A F' A3 ∧ At b F' A3 t3 (L x) s' ∧ PS lp b P F' A3 (bndX (whE mc f m x) k s') D := ⟨F3, s3, y, (st.trans (st2.low a'.I a'.hb rfl)).trans st3, a3, p2.up st3⟩
          exact ⟨hh, fun _ => hh⟩
        | bk y => exact fun t3 A3 F3 st3 a3 => hr y b F3 A3 t3 s3 a3 D (p2.up st3)
        | rt v => exact p2
      | ex e1 s3 => rw [eq] at p2; exact p2
      | no => rw [eq] at p2; exact p2
    | false =>
      rw [if_neg Bool.false_ne_true] at p2 ⊢
      exact hr x b F2 A2 t' s2 a2 D p2
end
end FM

namespace FM
open PySem PySem.Spec PyProof.Rows L2 EV
section
variable {σ τ : Type} {lp : Bool} {Γ : Gam} {P : σ → Gam}
/-! ### owned things -/
theorem not_ref1 {F : Nat → Prop} {A : AH} {x : T} {n b : Nat} (hx : isC x = false) (r : rd F A x (.ref n)) (o : own b F n) : False := by
  cases x <;> first | (simp [isC] at hx; done) | skip
  all_goals simp only [rd] at r
  all_goals first | (cases r; done) | exact r.elim | skip
  · obtain ⟨_, e, _⟩ := r; cases e
  · obtain ⟨_, e, _⟩ := r; cases e
  · cases r; exact absurd o.1 (by decide)
theorem at_frz {b : Nat} {F : Nat → Prop} {A : AH} {t : Lv} {s : Drw} {i : Nat} {x : T} (h : gat Γ i = .ow x) (a : At b F A t Γ s) : ∃ F', Stp b F A F' A ∧ At b F' A t (gset Γ i (.fz x)) s := by
  obtain ⟨v, e, r⟩ := a.g.ow i x h
  have hi : i < Γ.length := gat_lt (by rw [h]; exact fun z => nomatch z)
  have ht : t = t.set i (some v) := by
    apply List.ext_getElem?
    intro j
    rw [at_set]
    by_cases hj : i = j ∧ j < t.length
    · rw [if_pos hj, ← hj.1, e]
    · rw [if_neg hj]
  cases hx : isC x with
  | false =>
    rw [rdT_p hx] at r
    refine ⟨F, .refl, a.I, a.hb, ?_⟩
    rw [ht]; exact a.g.setF i r
  | true =>
    obtain ⟨n, rfl, o, hc⟩ := (rdT_c hx).mp r
    have hl := cell_lt hc
    have hm : ∀ m, F m → F m ∨ m = n := fun m z => .inl z
    refine ⟨fun m => F m ∨ m = n, ⟨hm, fun m z => by rcases z with z | z; exact .inl z; exact .inr (by rw [z]; exact o.2.1), fun _ _ _ _ => rfl, Nat.le_refl _⟩, ⟨fun m z => by rcases z with z | z; exact a.I.fz m z; subst z; exact ⟨o.1, hl⟩, a.I.ds⟩, a.hb, ?_⟩
    refine ⟨by rw [gset_len]; exact a.g.len, fun j y ej => ?_, fun j y ej => ?_, fun j k y z m e1 e2 t1 t2 om => ?_, fun j m kvs g ks ts ej => ?_⟩
    · rw [gat_set] at ej
      split at ej
      · rename_i hj; cases ej
        rw [← hj.1]
        exact ⟨_, e, rd_iff.mpr ((rdT_c hx).mpr ⟨n, rfl, .inr rfl, cell_mono hm (fun _ _ => rfl) rfl hc⟩)⟩
      · obtain ⟨w, e1, r1⟩ := a.g.fz j y ej
        exact ⟨w, e1, rd_mono hm (fun _ _ => rfl) _ _ r1⟩
    · rw [gat_set] at ej
      split at ej
      · cases ej
      · rename_i hj
        obtain ⟨w, e1, r1⟩ := a.g.ow j y ej
        refine ⟨w, e1, rdT_mono hm (fun _ _ => rfl) (fun m em om _ => ⟨⟨om.1, om.2.1, fun z => ?_⟩, rfl⟩) r1⟩
        rcases z with z | z
        · exact om.2.2 z
        · subst z; subst em
          have := a.g.dj i j x y m h ej e e1 o
          exact hj ⟨this, this ▸ hi⟩
    · rw [gat_set] at e1 e2
      split at e1
      · cases e1
      · split at e2
        · cases e2
        · exact a.g.dj j k y z m e1 e2 t1 t2 ⟨om.1, om.2.1, fun z => om.2.2 (.inl z)⟩
    · rw [gat_set] at ej
      split at ej
      · cases ej
      · obtain ⟨h1, h2, h3, h4, h5⟩ := a.g.lk j m kvs g ks ts ej
        refine ⟨h1, ⟨h2.1, h2.2.1, fun z => ?_⟩, h3, h4, rds_mono hm (fun _ _ => rfl) _ _ h5⟩
        rcases z with z | z
        · exact h2.2.2 z
        · subst z
          cases x <;> simp only [cell, h3] at hc
          · obtain ⟨_, z, _⟩ := hc; cases z
          · obtain ⟨_, z, _⟩ := hc; cases z
          · obtain ⟨_, z, _⟩ := hc; cases z
theorem rs_frz {i : Nat} {x : T} {d : DenS} {m : M (Ex σ)} (h : gat Γ i = .ow x) (k : RS lp (gset Γ i (.fz x)) d P m) : RS lp Γ d P m := fun b F A t s a D p => by
  obtain ⟨F', st, a'⟩ := at_frz h a
  exact k b F' A t s a' D (p.up st)
/-- a cell written -/
theorem at_mut {b : Nat} {F : Nat → Prop} {A : AH} {t : Lv} {s : Drw} {j n : Nat} {x x' : T} {o : Ob} (a : At b F A t Γ s) (h : gat Γ j = .ow x) (e : t[j]? = some (some (.ref n))) (on : own b F n) (hd : ∀ kvs g, A[n]? ≠ some (.dz kvs g)) (hx : isC x' = true)
    (hc : (∀ ts vs, rds F A ts vs → rds F (A.set n o) ts vs) → cell F (A.set n o) x' n) : Stp b F A F (A.set n o) ∧ At b F (A.set n o) t (gset Γ j (.ow x')) s := by
  have hF : ∀ m, F m → (A.set n o)[m]? = A[m]? := fun m z => List.getElem?_set_ne (fun q => on.2.2 (by rw [q]; exact z))
  have hi : j < Γ.length := gat_lt (by rw [h]; exact fun z => nomatch z)
  have hr : ∀ ts vs, rds F A ts vs → rds F (A.set n o) ts vs := fun ts vs r => rds_mono (fun _ z => z) hF _ _ r
  refine ⟨⟨fun _ z => z, fun _ z => .inl z, fun m h2 hl z => ?_, by simp⟩, ⟨fun m z => ⟨(a.I.fz m z).1, by simpa using (a.I.fz m z).2⟩, ?_⟩, by simpa using a.hb, ?_⟩
  · rcases z with z | z
    · exact hF m z
    · exact List.getElem?_set_ne (by have := on.2.1; omega)
  · obtain ⟨R, eR⟩ := a.I.ds
    refine ⟨R.set (n - 2) o, ?_⟩
    have := on.1
    rw [eR, List.set_append_right _ _ (by rw [ds_len]; omega), ds_len]
  · refine ⟨by rw [gset_len]; exact a.g.len, fun i y ei => ?_, fun i y ei => ?_, fun i k y z m e1 e2 t1 t2 om => ?_, fun i m kvs g ks ts ei => ?_⟩
    · rw [gat_set] at ei
      split at ei
      · cases ei
      · obtain ⟨w, e1, r1⟩ := a.g.fz i y ei
        exact ⟨w, e1, rd_mono (fun _ z => z) hF _ _ r1⟩
    · rw [gat_set] at ei
      split at ei
      · rename_i hj; cases ei
        rw [← hj.1]
        exact ⟨_, e, (rdT_c hx).mpr ⟨n, rfl, on, hc hr⟩⟩
      · rename_i hj
        obtain ⟨w, e1, r1⟩ := a.g.ow i y ei
        refine ⟨w, e1, rdT_mono (fun _ z => z) hF (fun m em om _ => ⟨om, List.getElem?_set_ne fun q => ?_⟩) r1⟩
        subst q; subst em
        have := a.g.dj j i x y _ h ei e e1 on
        exact hj ⟨this, this ▸ hi⟩
    · rw [gat_set] at e1 e2
      have key : ∀ {i : Nat} {y : T}, (if j = i ∧ i < Γ.length then Sl.ow x' else gat Γ i) = .ow y → ∃ y, gat Γ i = .ow y := fun {i y} q => by
        split at q
        · rename_i hj; exact ⟨x, hj.1 ▸ h⟩
        · exact ⟨y, q⟩
      obtain ⟨y1, q1⟩ := key e1
      obtain ⟨y2, q2⟩ := key e2
      exact a.g.dj i k y1 y2 m q1 q2 t1 t2 om
    · rw [gat_set] at ei
      split at ei
      · cases ei
      · obtain ⟨h1, h2, h3, h4, h5⟩ := a.g.lk i m kvs g ks ts ei
        refine ⟨h1, h2, (List.getElem?_set_ne fun q => ?_).trans h3, h4, hr _ _ h5⟩
        subst q; exact hd _ _ h3
theorem ow_lst {b : Nat} {F : Nat → Prop} {A : AH} {t : Lv} {s : Drw} {j : Nat} {ts : List T} (a : At b F A t Γ s) (h : gat Γ j = .ow (.lst ts)) : ∃ n vs, t[j]? = some (some (.ref n)) ∧ own b F n ∧ A[n]? = some (.lst vs) ∧ rds F A ts vs := by
  obtain ⟨v, e, r⟩ := a.g.ow j _ h
  obtain ⟨n, rfl, o, vs, ea, r⟩ := (rdT_c rfl).mp r
  exact ⟨n, vs, e, o, ea, r⟩
def appT (ts : List T) (y : T) : Option T := if ts.length < sizeLine then some (.lst (ts ++ [y])) else none
theorem set_at {A : AH} {n : Nat} {o o' : Ob} (h : A[n]? = some o) : (A.set n o')[n]? = some o' := List.getElem?_set_self (List.getElem?_eq_some_iff.mp h).1
theorem rs_app {j : Nat} {x : T} {d : Den} {m : M T} {rest : DenS} {k : T → M (Ex σ)} (hj : gat Γ j = .ow x) (h : RX .fz Γ d m) (hr : ∀ x', RS lp (gset Γ j (.ow x')) rest P (k x')) :
    RS lp Γ (sSeqB (sExpr (dMe (wM mAppend) tyL (dVar j) (aCons d aNil))) rest) P (bnd (ofO (asL x)) fun ts => bnd m fun y => bnd (ofO (appT ts y)) k) := fun b F A t s a D p => by
  cases x <;> first | exact p.elim | skip
  rename_i ts
  obtain ⟨n, vs, e, o, ea, r⟩ := ow_lst a hj
  refine ⟨_, e, ⟨n, vs, rfl, lstAt_of ea⟩, ?_⟩
  refine h b F A t s a _ _ (PS.bind (f := fun y => bnd (ofO (appT ts y)) k) a p fun y s1 w A1 F1 st a1 r2 p1 => ?_)
  obtain ⟨n', vs', e', o', ea', r'⟩ := ow_lst a1 hj
  rw [e] at e'; cases e'
  unfold appT at p1
  split at p1
  · rename_i hl
    rw [wM_eq]
    obtain ⟨st2, a2⟩ := at_mut (o := .lst (vs' ++ [w])) (x' := .lst (ts ++ [y])) a1 hj e o' (fun _ _ z => by rw [ea'] at z; cases z) rfl fun hr => ⟨_, set_at ea', rds_app (hr _ _ r') (hr _ _ (rds_one r2))⟩
    exact ⟨n, vs', w, rfl, rfl, ea', by rw [rds_len r']; exact hl, hr _ b F1 _ t s1 a2 D (p1.up st2)⟩
  · exact p1.elim
def extT (ts : List T) (y : T) : Option T := match y with
  | .lst us => if ts.length + us.length ≤ sizeLine then some (.lst (ts ++ us)) else none
  | _ => none
theorem rs_ext {j : Nat} {x : T} {d : Den} {m : M T} {rest : DenS} {k : T → M (Ex σ)} (hj : gat Γ j = .ow x) (h : RX .ro Γ d m) (hr : ∀ x', RS lp (gset Γ j (.ow x')) rest P (k x')) :
    RS lp Γ (sSeqB (sExpr (dMe (wM mExtend) tyL (dVar j) (aCons d aNil))) rest) P (bnd (ofO (asL x)) fun ts => bnd m fun y => bnd (ofO (extT ts y)) k) := fun b F A t s a D p => by
  cases x <;> first | exact p.elim | skip
  rename_i ts
  obtain ⟨n, vs, e, o, ea, r⟩ := ow_lst a hj
  refine ⟨_, e, ⟨n, vs, rfl, lstAt_of ea⟩, ?_⟩
  refine h b F A t s a _ _ (PS.bind (f := fun y => bnd (ofO (extT ts y)) k) a p fun y s1 w A1 F1 st a1 r2 p1 => ?_)
  obtain ⟨n', vs', e', o', ea', r'⟩ := ow_lst a1 hj
  rw [e] at e'; cases e'
  cases y <;> first | exact p1.elim | skip
  rename_i us
  simp only [extT] at p1
  split at p1
  · rename_i hl
    rw [wM_eq]
    obtain ⟨m', ws, rfl, eb, r3⟩ := ro_lst r2
    obtain ⟨st2, a2⟩ := at_mut (o := .lst (vs' ++ ws)) (x' := .lst (ts ++ us)) a1 hj e o' (fun _ _ z => by rw [ea'] at z; cases z) rfl fun hr => ⟨_, set_at ea', rds_app (hr _ _ r') (hr _ _ r3)⟩
    exact ⟨n, m', vs', ws, rfl, rfl, ea', eb, by rw [rds_len r', rds_len r3]; exact hl, hr _ b F1 _ t s1 a2 D (p1.up st2)⟩
  · exact p1.elim
theorem rs_rev {j : Nat} {x : T} {rest : DenS} {k : T → M (Ex σ)} (hj : gat Γ j = .ow x) (hr : ∀ x', RS lp (gset Γ j (.ow x')) rest P (k x')) :
    RS lp Γ (sSeqB (sExpr (dMe (wM mReverse) tyL (dVar j) aNil)) rest) P (bnd (ofO (asL x)) fun ts => k (.lst ts.reverse)) := fun b F A t s a D p => by
  cases x <;> first | exact p.elim | skip
  rename_i ts
  obtain ⟨n, vs, e, o, ea, r⟩ := ow_lst a hj
  refine ⟨_, e, ⟨n, vs, rfl, lstAt_of ea⟩, ?_⟩
  rw [wM_eq]
  obtain ⟨st2, a2⟩ := at_mut (o := .lst vs.reverse) (x' := .lst ts.reverse) a hj e o (fun _ _ z => by rw [ea] at z; cases z) rfl fun hr => ⟨_, set_at ea, rds_rev (hr _ _ r)⟩
  exact ⟨n, vs, rfl, rfl, ea, hr _ b F _ t s a2 D (PS.up (r := k (.lst ts.reverse) s) st2 p)⟩
/-- y = x.pop() -/
def popT : T → Option (T × T)
  | .lst ts => (ts[ts.length - 1]?).map fun y => (.lst ts.dropLast, y)
  | _ => none
theorem rds_dl {F : Nat → Prop} {A : AH} {ts : List T} {vs : List Val} (r : rds F A ts vs) : rds F A ts.dropLast vs.dropLast := by
  rw [List.dropLast_eq_take, List.dropLast_eq_take, rds_len r]; exact rds_take _ r
theorem rs_pop {i j : Nat} {x : T} {rest : DenS} {k : T × T → M (Ex σ)} (hj : gat Γ j = .ow x) (hr : ∀ x' y, RS lp (gset (gset Γ j (.ow x')) i (.fz y)) rest P (k (x', y))) :
    RS lp Γ (sSeqB (sAsg (dMe (wM mPop) tyL (dVar j) aNil) (gNameB i)) rest) P (bnd (ofO (popT x)) k) := fun b F A t s a D p => by
  cases x <;> first | exact p.elim | skip
  rename_i ts
  obtain ⟨n, vs, e, o, ea, r⟩ := ow_lst a hj
  refine ⟨_, e, ⟨n, vs, rfl, lstAt_of ea⟩, ?_⟩
  rw [wM_eq]
  simp only [popT] at p
  cases ey : ts[ts.length - 1]? with
  | none => rw [ey] at p; exact p.elim
  | some y =>
    rw [ey] at p
    obtain ⟨w, ew, rw'⟩ := rds_at r ey
    obtain ⟨st2, a2⟩ := at_mut (o := .lst vs.dropLast) (x' := .lst ts.dropLast) a hj e o (fun _ _ z => by rw [ea] at z; cases z) rfl fun hr => ⟨_, set_at ea, rds_dl (hr _ _ r)⟩
    refine .inl ⟨n, vs, w, rfl, rfl, ea, by rw [rds_len r]; exact ew, s_kT rfl ?_⟩
    exact hr _ y b F _ _ s (a2.setF i (rd_stp a.I st2 rw')) D (PS.up (r := k (.lst ts.dropLast, y) s) st2 p)
theorem rs_popE {j : Nat} {x : T} {rest : DenS} {k : T × T → M (Ex σ)} (hj : gat Γ j = .ow x) (hr : ∀ x' y, RS lp (gset Γ j (.ow x')) rest P (k (x', y))) :
    RS lp Γ (sSeqB (sExpr (dMe (wM mPop) tyL (dVar j) aNil)) rest) P (bnd (ofO (popT x)) k) := fun b F A t s a D p => by
  cases x <;> first | exact p.elim | skip
  rename_i ts
  obtain ⟨n, vs, e, o, ea, r⟩ := ow_lst a hj
  refine ⟨_, e, ⟨n, vs, rfl, lstAt_of ea⟩, ?_⟩
  rw [wM_eq]
  simp only [popT] at p
  cases ey : ts[ts.length - 1]? with
  | none => rw [ey] at p; exact p.elim
  | some y =>
    rw [ey] at p
    obtain ⟨w, ew, rw'⟩ := rds_at r ey
    obtain ⟨st2, a2⟩ := at_mut (o := .lst vs.dropLast) (x' := .lst ts.dropLast) a hj e o (fun _ _ z => by rw [ea] at z; cases z) rfl fun hr => ⟨_, set_at ea, rds_dl (hr _ _ r)⟩
    refine .inl ⟨n, vs, w, rfl, rfl, ea, by rw [rds_len r]; exact ew, ?_⟩
    exact hr _ y b F _ _ s a2 D (PS.up (r := k (.lst ts.dropLast, y) s) st2 p)
/-! stores -/
section
variable {κ : Type} [DecidableEq κ]
def dVs (ks : List κ) (ts : List T) (k : κ) (v : T) : List T := if (ks.any fun k' => decide (k' = k)) = true then List.zipWith (fun k' x => if k' = k then v else x) ks ts else ts ++ [v]
def dKs (ks : List κ) (k : κ) : List κ := if (ks.any fun k' => decide (k' = k)) = true then ks else ks ++ [k]
theorem put_ks (kvs : List (κ × Val)) (k : κ) (w : Val) : (dPut kvs k w).map (·.1) = dKs (kvs.map (·.1)) k := by
  unfold dPut dKs
  rw [List.any_map]
  by_cases h : (kvs.any fun kv => decide (kv.1 = k)) = true
  · rw [if_pos h, if_pos (by simpa using h), List.map_map]
    apply List.map_congr_left
    intro x _
    simp only [Function.comp]
    split <;> rfl
  · rw [if_neg h, if_neg (by simpa using h), List.map_append]; rfl
theorem zip_rds {F : Nat → Prop} {A : AH} {k : κ} {v : T} {w : Val} (r2 : rd F A v w) : ∀ {kvs : List (κ × Val)} {ts : List T}, rds F A ts (kvs.map (·.2)) → rds F A (List.zipWith (fun k' x => if k' = k then v else x) (kvs.map (·.1)) ts) ((kvs.map fun kv => if kv.1 = k then (kv.1, w) else kv).map (·.2))
  | [], ts, r => by simp [rds]
  | kv :: kvs, ts, r => by
    cases ts with
    | nil => rw [rds_nil] at r; simp at r
    | cons x xs =>
      obtain ⟨u, r', e, h1, h2⟩ := rds_cons.mp r
      simp only [List.map_cons, List.cons.injEq] at e
      obtain ⟨e1, e2⟩ := e
      rw [← e2] at h2
      rw [List.map_cons, List.map_cons, List.map_cons, List.zipWith_cons_cons]
      refine rds_cons.mpr ⟨_, _, rfl, ?_, zip_rds r2 h2⟩
      by_cases hk : kv.1 = k
      · rw [if_pos hk, if_pos hk]; exact r2
      · rw [if_neg hk, if_neg hk, e1]; exact h1
theorem put_vs {F : Nat → Prop} {A : AH} {kvs : List (κ × Val)} {ts : List T} {k : κ} {v : T} {w : Val} (r : rds F A ts (kvs.map (·.2))) (r2 : rd F A v w) : rds F A (dVs (kvs.map (·.1)) ts k v) ((dPut kvs k w).map (·.2)) := by
  unfold dPut dVs
  rw [List.any_map]
  by_cases h : (kvs.any fun kv => decide (kv.1 = k)) = true
  · rw [if_pos h, if_pos (by simpa using h)]; exact zip_rds r2 r
  · rw [if_neg h, if_neg (by simpa using h), List.map_append]; exact rds_app r (rds_one r2)
end
def setT (x i v : T) : Option T := match x, i with
  | .lst ts, .int k => (ixN ts.length k).map fun j => .lst (ts.set j v)
  | .dk ks ts, i => (keyT i).bind fun k => if ks.length < sizeLine then some (.dk (dKs ks k) (dVs ks ts k v)) else none
  | .dt ks ts, .tup is => (keysT is).bind fun k => if ks.length < sizeLine then some (.dt (dKs ks k) (dVs ks ts k v)) else none
  | _, _ => none
theorem rs_set {j : Nat} {x : T} {d di : Den} {m mi : M T} {rest : DenS} {k : T → M (Ex σ)} (hj : gat Γ j = .ow x) (h : RX .fz Γ d m) (hi : RX .fz Γ di mi) (hr : ∀ x', RS lp (gset Γ j (.ow x')) rest P (k x')) :
    RS lp Γ (sSeqB (sAsg d (gSub (dVar j) di (wT oSet))) rest) P (bnd m fun v => bnd (noex mi) fun i => bnd (ofO (setT x i v)) k) := fun b F A t s a D p => by
  refine h b F A t s a _ _ (p.bind a fun v s1 w A1 F1 st a1 r p1 => ?_)
  obtain ⟨u, e, ru⟩ := a1.g.ow j x hj
  refine ⟨u, e, ?_⟩
  refine hi b F1 A1 t s1 a1 _ _ (px_noex (E := fun e A1 => D.ex e t A1) (PS.bind (f := fun i => bnd (ofO (setT x i v)) k) a1 p1 fun i s2 wi A2 F2 st2 a2 r2 p2 => ?_))
  obtain ⟨u', e', ru⟩ := a2.g.ow j x hj
  rw [e] at e'; cases e'
  have rv := rd_stp a1.I st2 r
  rw [wT_eq]
  simp only [Kd.rel] at r2
  cases x <;> first | (simp only [setT] at p2; exact p2.elim) | skip
  · cases i <;> first | exact p2.elim | skip
    simp only [setT] at p2
    obtain ⟨n, rfl, o, vs, ea, rr⟩ := (rdT_c rfl).mp ru
    simp only [rd] at r2; subst r2
    cases ek : ixN (List.length _) _ with
    | none => rw [ek] at p2; exact p2.elim
    | some q =>
      rw [ek] at p2
      obtain ⟨st3, a3⟩ := at_mut (o := .lst (vs.set q w)) (x' := .lst (List.set _ q v)) a2 hj e o (fun _ _ z => by rw [ea] at z; cases z) rfl fun hr => ⟨_, set_at ea, rds_set q (hr _ _ rr) (by have := hr _ _ (rds_one rv); obtain ⟨_, _, e, z, _⟩ := rds_cons.mp this; cases e; exact z)⟩
      exact .inl ⟨vs, _, q, ea, rfl, by rw [rds_len rr]; exact ek, hr _ b F2 _ t s2 a3 D (PS.up (r := k _ s2) st3 p2)⟩
  · simp only [setT] at p2
    obtain ⟨n, rfl, o, kvs, ea, ek, rr⟩ := (rdT_c rfl).mp ru
    cases hk : keyT i with
    | none => rw [hk] at p2; exact p2.elim
    | some q =>
      rw [hk] at p2
      simp only [Option.bind_some] at p2
      split at p2
      · rename_i hl
        subst ek
        obtain ⟨st3, a3⟩ := at_mut (o := .dk (dPut kvs q w)) (x' := .dk (dKs (kvs.map (·.1)) q) (dVs (kvs.map (·.1)) _ q v)) a2 hj e o (fun _ _ z => by rw [ea] at z; cases z) rfl fun hr => ⟨_, set_at ea, put_ks _ _ _, put_vs (hr _ _ rr) (by have := hr _ _ (rds_one rv); obtain ⟨_, _, e, z, _⟩ := rds_cons.mp this; cases e; exact z)⟩
        exact .inr (.inl ⟨kvs, q, ea, key_ok r2 hk, by simpa using hl, hr _ b F2 _ t s2 a3 D (PS.up (r := k _ s2) st3 p2)⟩)
      · exact p2.elim
  · cases i <;> first | exact p2.elim | skip
    simp only [setT] at p2
    obtain ⟨n, rfl, o, kvs, ea, ek, rr⟩ := (rdT_c rfl).mp ru
    simp only [rd] at r2
    obtain ⟨us, rfl, r2⟩ := r2
    cases hk : keysT _ with
    | none => rw [hk] at p2; exact p2.elim
    | some q =>
      rw [hk] at p2
      simp only [Option.bind_some] at p2
      split at p2
      · rename_i hl
        subst ek
        obtain ⟨st3, a3⟩ := at_mut (o := .dt (dPut kvs q w)) (x' := .dt (dKs (kvs.map (·.1)) q) (dVs (kvs.map (·.1)) _ q v)) a2 hj e o (fun _ _ z => by rw [ea] at z; cases z) rfl fun hr => ⟨_, set_at ea, put_ks _ _ _, put_vs (hr _ _ rr) (by have := hr _ _ (rds_one rv); obtain ⟨_, _, e, z, _⟩ := rds_cons.mp this; cases e; exact z)⟩
        exact .inr (.inr ⟨kvs, us, q, ea, rfl, keys_ok r2 hk, by simpa using hl, hr _ b F2 _ t s2 a3 D (PS.up (r := k _ s2) st3 p2)⟩)
      · exact p2.elim
end
end FM

namespace FM
open PySem PySem.Spec PyProof.Rows L2 EV
/-! ### walks over a dict -/
def keyTr : Key → T
  | .inl i => .int i
  | .inr x => .str x
def asK : T → Option (List Key × List T)
  | .dk ks ts => some (ks, ts)
  | _ => none
section
variable {σ τ : Type} {lp : Bool} {Γ : Gam} {P : σ → Gam}
theorem ow_dk {b : Nat} {F : Nat → Prop} {A : AH} {t : Lv} {s : Drw} {j : Nat} {ks : List Key} {ts : List T} (a : At b F A t Γ s) (h : gat Γ j = .ow (.dk ks ts)) : ∃ n kvs, t[j]? = some (some (.ref n)) ∧ own b F n ∧ A[n]? = some (.dk kvs) ∧ kvs.map (·.1) = ks ∧ rds F A ts (kvs.map (·.2)) := by
  obtain ⟨v, e, r⟩ := a.g.ow j _ h
  obtain ⟨n, rfl, o, kvs, ea, ek, r⟩ := (rdT_c rfl).mp r
  exact ⟨n, kvs, e, o, ea, ek, r⟩
/-- the dict is locked -/
theorem at_lock {b : Nat} {F : Nat → Prop} {A : AH} {t : Lv} {s : Drw} {j n : Nat} {x : T} {kvs : List (Key × Val)} {ts : List T} {g : L2.HO} (a : At b F A t Γ s) (h : gat Γ j = .ow x) (e : t[j]? = some (some (.ref n))) (on : own b F n) (ea : A[n]? = some (.dk kvs)) (r : rds F A ts (kvs.map (·.2))) :
    At b F (A.set n (.dz kvs g)) t (gset Γ j (.lk n kvs g (kvs.map (·.1)) ts)) s := by
  have hF : ∀ m, F m → (A.set n (.dz kvs g))[m]? = A[m]? := fun m z => List.getElem?_set_ne (fun q => on.2.2 (by rw [q]; exact z))
  have hi : j < Γ.length := gat_lt (by rw [h]; exact fun z => nomatch z)
  have hr : ∀ ts vs, rds F A ts vs → rds F (A.set n (.dz kvs g)) ts vs := fun ts vs r => rds_mono (fun _ z => z) hF _ _ r
  refine ⟨⟨fun m z => ⟨(a.I.fz m z).1, by simpa using (a.I.fz m z).2⟩, ?_⟩, by simpa using a.hb, ?_⟩
  · obtain ⟨R, eR⟩ := a.I.ds
    refine ⟨R.set (n - 2) (.dz kvs g), ?_⟩
    have := on.1
    rw [eR, List.set_append_right _ _ (by rw [ds_len]; omega), ds_len]
  · refine ⟨by rw [gset_len]; exact a.g.len, fun i y ei => ?_, fun i y ei => ?_, fun i k y z m e1 e2 t1 t2 om => ?_, fun i m kvs' g' ks' ts' ei => ?_⟩
    · rw [gat_set] at ei
      split at ei
      · cases ei
      · obtain ⟨w, e1, r1⟩ := a.g.fz i y ei
        exact ⟨w, e1, rd_mono (fun _ z => z) hF _ _ r1⟩
    · rw [gat_set] at ei
      split at ei
      · cases ei
      · rename_i hj
        obtain ⟨w, e1, r1⟩ := a.g.ow i y ei
        refine ⟨w, e1, rdT_mono (fun _ z => z) hF (fun m em om _ => ⟨om, List.getElem?_set_ne fun q => ?_⟩) r1⟩
        subst q; subst em
        have := a.g.dj j i x y _ h ei e e1 on
        exact hj ⟨this, this ▸ hi⟩
    · rw [gat_set] at e1 e2
      split at e1
      · cases e1
      · split at e2
        · cases e2
        · exact a.g.dj i k y z m e1 e2 t1 t2 om
    · rw [gat_set] at ei
      split at ei
      · rename_i hj
        cases ei
        rw [← hj.1]
        exact ⟨e, on, set_at ea, rfl, hr _ _ r⟩
      · obtain ⟨h1, h2, h3, h4, h5⟩ := a.g.lk i m kvs' g' ks' ts' ei
        refine ⟨h1, h2, (List.getElem?_set_ne fun q => ?_).trans h3, h4, hr _ _ h5⟩
        subst q; rw [ea] at h3; cases h3
/-- and unlocked -/
theorem gset_gset : ∀ (g : Gam) (i : Nat) (x y : Sl), gset (gset g i x) i y = gset g i y
  | [], _, _, _ => rfl
  | _ :: g, 0, _, _ => rfl
  | x :: g, i + 1, a, b => by simp [gset, gset_gset g i a b]
theorem gset_self : ∀ {g : Gam} {i : Nat} {x : Sl}, gat g i = x → gset g i x = g
  | [], _, _, _ => rfl
  | _ :: g, 0, _, h => by simp [gat] at h; simp [gset, h]
  | y :: g, i + 1, x, h => by simp [gset, gset_self (g := g) (i := i) h]
theorem at_unlock {b : Nat} {F : Nat → Prop} {A : AH} {t : Lv} {s : Drw} {j n : Nat} {kvs : List (Key × Val)} {ks : List Key} {ts : List T} {g : L2.HO} (a : At b F A t Γ s) (h : gat Γ j = .lk n kvs g ks ts) (hn : ∀ i m kvs g ks ts, gat Γ i = .lk m kvs g ks ts → i = j) :
    A[n]? = some (.dz kvs g) ∧ (∀ m, F m → (A.set n (.dk kvs))[m]? = A[m]?) ∧ At b F (A.set n (.dk kvs)) t (gset Γ j (.ow (.dk ks ts))) s := by
  obtain ⟨e, on, ea, ek, r⟩ := a.g.lk j n kvs g ks ts h
  have hF : ∀ m, F m → (A.set n (.dk kvs))[m]? = A[m]? := fun m z => List.getElem?_set_ne (fun q => on.2.2 (by rw [q]; exact z))
  have hi : j < Γ.length := gat_lt (by rw [h]; exact fun z => nomatch z)
  have hr : ∀ ts vs, rds F A ts vs → rds F (A.set n (.dk kvs)) ts vs := fun ts vs r => rds_mono (fun _ z => z) hF _ _ r
  have nd : ∀ i y m, gat Γ i = .ow y → t[i]? = some (some (.ref m)) → m ≠ n := fun i y m ei et q => by
    obtain ⟨w, e1, r1⟩ := a.g.ow i y ei
    rw [et] at e1; cases e1
    subst q
    cases hx : isC y with
    | false => rw [rdT_p hx] at r1; exact not_ref1 hx r1 on
    | true =>
      obtain ⟨m', em, _, hc⟩ := (rdT_c hx).mp r1
      cases em
      cases y <;> simp only [cell, ea] at hc
      · obtain ⟨_, z, _⟩ := hc; cases z
      · obtain ⟨_, z, _⟩ := hc; cases z
      · obtain ⟨_, z, _⟩ := hc; cases z
  refine ⟨ea, hF, ⟨fun m z => ⟨(a.I.fz m z).1, by simpa using (a.I.fz m z).2⟩, ?_⟩, by simpa using a.hb, ?_⟩
  · obtain ⟨R, eR⟩ := a.I.ds
    refine ⟨R.set (n - 2) (.dk kvs), ?_⟩
    have := on.1
    rw [eR, List.set_append_right _ _ (by rw [ds_len]; omega), ds_len]
  · refine ⟨by rw [gset_len]; exact a.g.len, fun i y ei => ?_, fun i y ei => ?_, fun i k y z m e1 e2 t1 t2 om => ?_, fun i m kvs' g' ks' ts' ei => ?_⟩
    · rw [gat_set] at ei
      split at ei
      · cases ei
      · obtain ⟨w, e1, r1⟩ := a.g.fz i y ei
        exact ⟨w, e1, rd_mono (fun _ z => z) hF _ _ r1⟩
    · rw [gat_set] at ei
      split at ei
      · rename_i hj; cases ei
        rw [← hj.1]
        exact ⟨_, e, (rdT_c rfl).mpr ⟨n, rfl, on, kvs, set_at ea, ek, hr _ _ r⟩⟩
      · obtain ⟨w, e1, r1⟩ := a.g.ow i y ei
        refine ⟨w, e1, rdT_mono (fun _ z => z) hF (fun m em om _ => ⟨om, List.getElem?_set_ne fun q => ?_⟩) r1⟩
        subst em
        exact nd i y m ei e1 q.symm
    · rw [gat_set] at e1 e2
      split at e1
      · rename_i hj
        split at e2
        · rename_i hk; exact hj.1.symm.trans hk.1
        · rw [← hj.1, e] at t1; cases t1
          exact absurd rfl (nd k z n e2 t2)
      · split at e2
        · rename_i hk
          rw [← hk.1, e] at t2; cases t2
          exact absurd rfl (nd i y n e1 t1)
        · exact a.g.dj i k y z m e1 e2 t1 t2 om
    · rw [gat_set] at ei
      split at ei
      · cases ei
      · rename_i hj
        obtain ⟨h1, h2, h3, h4, h5⟩ := a.g.lk i m kvs' g' ks' ts' ei
        exact absurd ⟨(hn i m kvs' g' ks' ts' ei).symm, by rw [hn i m kvs' g' ks' ts' ei]; exact hi⟩ hj
/-! ### the loop itself -/
theorem for_core {J : Wk} {g : DenG} {body : DenS} {L : τ → Gam} {x0 : τ} {f : τ → T → M (Ex τ)} {b : Nat} {F : Nat → Prop} {A : AH} {t : Lv} {s : Drw} {xs : List T} {vs : List Val} {D : EndsA} (a : At b F A t (L x0) s) (rvs : rds F A xs vs)
    (hJ : ∀ t' A' F' s' x, Stp b F A F' A' → At b F' A' t' (L x) s' → ∀ i, J i A' = some vs[i]?) (hb : ∀ x, TB (L x) g body L (f x)) (p : PS false b L F A (forE f xs x0 s) D) : sForJ J g body t A D := by
  have hl := rds_len rvs
  unfold sForJ
  refine ⟨fun i m t' A' => i + m = xs.length ∧ ∃ F' s' x, Stp b F A F' A' ∧ At b F' A' t' (L x) s' ∧ PS false b L F' A' (forE f (xs.drop i) x s') D, ⟨xs.length, by simp, F, s, x0, .refl, a, p⟩, fun i m t' A' ⟨em, F', s', x, st, a', p⟩ => ?_⟩
  have hw := hJ t' A' F' s' x st a' i
  by_cases hlt : i < xs.length
  · have ex : xs[i]? = some xs[i] := List.getElem?_eq_getElem hlt
    obtain ⟨v, ev, rv⟩ := rds_at rvs ex
    rw [ev] at hw
    rw [List.drop_eq_getElem_cons hlt] at p
    refine .inr ⟨v, hw, fun t'' A'' => i + 1 + (m - 1) = xs.length ∧ ∃ F' s' x, Stp b F A F' A'' ∧ At b F' A'' t'' (L x) s' ∧ PS false b L F' A'' (forE f (xs.drop (i + 1)) x s') D, fun t'' A'' h => ⟨m - 1, by omega, h⟩, ?_⟩
    refine hb x xs[i] v b F' A' t' s' a' (rd_stp a.I st rv) _ ?_
    unfold forE bnd at p
    cases eq : f x xs[i] s' with
    | ok y s2 =>
      rw [eq] at p
      cases y with
      | nx y =>
        intro t2 A2 F2 st2 a2
        have hh : i + 1 + (m - 1) = xs.length ∧ ∃ F' s' x, Stp b F A F' A2 ∧ At b F' A2 t2 (L x) s' ∧ PS false b L F' A2 (forE f (xs.drop (i + 1)) x s') D := ⟨by omega, F2, s2, y, st.trans st2, a2, p.up st2⟩
        exact ⟨hh, fun _ => hh⟩
      | bk y => exact fun t2 A2 F2 st2 a2 => (p t2 A2 F2 st2 a2).1
      | rt v => exact p
    | ex e1 s2 => rw [eq] at p; exact p
    | no => rw [eq] at p; exact p
  · have e0 : vs[i]? = none := List.getElem?_eq_none (by omega)
    rw [e0] at hw
    rw [List.drop_eq_nil_of_le (by omega)] at p
    exact .inl ⟨hw, (p t' A' F' .refl a').1⟩
def noLk : Gam → Bool
  | [] => true
  | .lk _ _ _ _ _ :: _ => false
  | _ :: g => noLk g
theorem noLk_at : ∀ {g : Gam} {i n : Nat} {kvs : List (Key × Val)} {z : L2.HO} {ks : List Key} {ts : List T}, noLk g = true → gat g i ≠ .lk n kvs z ks ts
  | [], _, _, _, _, _, _, _, h => nomatch h
  | x :: g, 0, _, _, _, _, _, hn, h => by simp only [gat] at h; subst h; simp [noLk] at hn
  | x :: g, i + 1, _, _, _, _, _, hn, h => noLk_at (g := g) (i := i) (by cases x <;> first | exact hn | simp [noLk] at hn) h
theorem keys_rds {F : Nat → Prop} {A : AH} (kvs : List (Key × Val)) : rds F A ((kvs.map (·.1)).map keyTr) (kvs.map fun kv => keyV kv.1) := by
  rw [List.map_map]
  refine rds_map fun x _ => ?_
  simp only [Function.comp]
  cases x.1 <;> simp only [keyTr, keyV, rd]
theorem lk_unique {Γ : Gam} {j n : Nat} {kvs : List (Key × Val)} {g : L2.HO} {ks : List Key} {ts : List T} (hn : noLk Γ = true) : ∀ i m kvs' g' ks' ts', gat (gset Γ j (.lk n kvs g ks ts)) i = .lk m kvs' g' ks' ts' → i = j := fun i m kvs' g' ks' ts' h => by
  rw [gat_set] at h
  split at h
  · rename_i q; exact q.1.symm
  · exact absurd h (noLk_at hn)
theorem wkK_at {A : AH} {n : Nat} {kvs : List (Key × Val)} {g : L2.HO} (h : A[n]? = some (.dz kvs g)) (i : Nat) : wkK n g i A = some ((kvs.map fun kv => keyV kv.1)[i]?) := by
  unfold wkK; rw [h]; dsimp only; rw [if_pos rfl]
def bndN (m : M (Ex τ)) (f : τ → M (Ex σ)) : M (Ex σ) := bnd m fun r => match r with
  | .nx s => f s
  | _ => stuck
theorem rs_forK {i j : Nat} {x : T} {body rest : DenS} {L : τ → Gam} {x0 : τ} {f : List Key × List T → τ → T → M (Ex τ)} {k : τ → M (Ex σ)} (hL : GLe Γ (L x0)) (hj : ∀ y, gat (L y) j = .ow x) (hn : ∀ y, noLk (L y) = true)
    (hb : ∀ n kvs g ks ts y, TB (gset (L y) j (.lk n kvs g ks ts)) (gNameB i) body (fun y => gset (L y) j (.lk n kvs g ks ts)) (f (ks, ts) y)) (hr : ∀ y, RS lp (L y) rest P (k y)) :
    RS lp Γ (sSeqB (sLk (sForB (iVal (dVar j)) (gNameB i) body)) rest) P (bnd (ofO (asK x)) fun kt => bndN (noex (forE (f kt) (kt.1.map keyTr) x0)) k) := fun b F A t s a D p => by
  have a0 := a.le hL
  cases x <;> first | exact p.elim | skip
  rename_i ks ts
  obtain ⟨n, kvs, e, on, ea, ek, r⟩ := ow_dk a0 (hj x0)
  subst ek
  refine ⟨n, kvs, ea, fun g => ?_⟩
  have al := at_lock (g := g) a0 (hj x0) e on ea r
  refine ⟨_, e, .inr ⟨kvs, g, set_at ea, ?_⟩⟩
  refine for_core (L := fun y => gset (L y) j (.lk n kvs g (kvs.map (·.1)) ts)) al (keys_rds kvs) (fun t' A' F' s' y st a' i => ?_) (fun y => hb n kvs g _ ts y) ?_
  · have hi : j < (L y).length := gat_lt (by rw [hj y]; exact fun z => nomatch z)
    obtain ⟨_, _, e3, _⟩ := a'.g.lk j n kvs g (kvs.map (·.1)) ts (by rw [gat_set, if_pos ⟨rfl, hi⟩])
    exact wkK_at e3 i
  · have hz : ∀ {F' : Nat → Prop} {A' : AH}, Stp b F (A.set n (.dz kvs g)) F' A' → A'[n]? = some (.dz kvs g) → Stp b F A F' (A'.set n (.dk kvs)) := fun {F' A'} st h => by
      refine ⟨st.sub, st.new, fun m h2 hl z => ?_, by have := st.len; simpa using this⟩
      have hne : n ≠ m := fun q => by subst q; rcases z with z | z; exact on.2.2 z; have := on.2.1; omega
      rw [List.getElem?_set_ne hne, st.keep m h2 (by simpa using hl) z, List.getElem?_set_ne hne]
    unfold bndN noex bnd at p
    simp only [asK, ofO, mret] at p
    cases eq : forE (f (kvs.map (·.1), ts)) ((kvs.map (·.1)).map keyTr) x0 s with
    | ok y s2 =>
      rw [eq] at p
      cases y with
      | nx y =>
        intro t2 A2 F2 st2 a2
        have hi : j < (L y).length := gat_lt (by rw [hj y]; exact fun z => nomatch z)
        obtain ⟨e3, hF, a3⟩ := at_unlock a2 (by rw [gat_set, if_pos ⟨rfl, hi⟩]) (lk_unique (hn y))
        rw [gset_gset, gset_self (hj y)] at a3
        refine ⟨⟨e3, ?_⟩, fun z => nomatch z⟩
        exact hr y b F2 _ t2 s2 a3 D (p.up (hz st2 e3))
      | bk y => exact p.elim
      | rt v => exact p.elim
    | ex e1 s2 => rw [eq] at p; exact p.elim
    | no => rw [eq] at p; exact p.elim
/-- [.. for x in dict] -/
theorem rx_lcK {i j : Nat} {x : T} {tt : DenT} {e : Den} {own : List Nat} {g : List Key × List T → T → M (Option T)} (hj : gat Γ j = .ow x) (hn : noLk Γ = true)
    (hg : ∀ n kvs z ks ts, Item (gset Γ j (.lk n kvs z ks ts)) own (.one i) tt e (g (ks, ts))) :
    RX .fr Γ (dLk (dLcB (iVal (dVar j)) (.one i) tt e own)) (bnd (ofO (asK x)) fun kt => noex (lcM (g kt) (kt.1.map keyTr) [])) := fun b F A t s a Q E p => by
  cases x <;> first | exact p.elim | skip
  rename_i ks ts
  obtain ⟨n, kvs, e0, on, ea, ek, r⟩ := ow_dk a hj
  subst ek
  have hnl : n < A.length := (List.getElem?_eq_some_iff.mp ea).1
  refine ⟨n, kvs, ea, fun z => ?_⟩
  have al := at_lock (g := z) a hj e0 on ea r
  have hi : j < Γ.length := gat_lt (by rw [hj]; exact fun z => nomatch z)
  have ri : RI true (gset Γ j (.lk n kvs z (kvs.map (·.1)) ts)) (iVal (dVar j)) (mret ((kvs.map (·.1)).map keyTr)) := fun b F A t s a Q E p => by
    obtain ⟨e1, o1, e3, _, r3⟩ := a.g.lk j n kvs z (kvs.map (·.1)) ts (by rw [gat_set, if_pos ⟨rfl, hi⟩])
    refine ⟨_, e1, .inr ⟨kvs, z, e3, p _ A F .refl a.I ⟨_, keys_rds kvs, fun A' hA i => wkK_at ((hA n o1.1 (by simpa using (List.getElem?_eq_some_iff.mp e3).1)).trans e3) i⟩⟩⟩
  have := rx_lc ri (hg n kvs z (kvs.map (·.1)) ts) b F (A.set n (.dz kvs z)) t s al
  refine this _ _ ?_
  rw [bnd_ret]
  have p : PX (Kd.rel .fr) F A (noex (lcM (g (kvs.map (·.1), ts)) ((kvs.map (·.1)).map keyTr) []) s) Q E := p
  unfold noex at p
  cases eq : lcM (g (kvs.map (·.1), ts)) ((kvs.map (·.1)).map keyTr) [] s with
  | ok y s2 =>
    rw [eq] at p
    intro v A2 F2 st2 I2 r2
    have e3 : A2[n]? = some (.dz kvs z) := (st2.keep n on.1 (by simpa using hnl) (.inr (by simpa using hnl))).trans (set_at ea)
    have nF : ¬ F2 n := fun q => by
      rcases st2.new n q with q | q
      · exact on.2.2 q
      · simp at q; omega
    have hF : ∀ m, F2 m → (A2.set n (.dk kvs))[m]? = A2[m]? := fun m z => List.getElem?_set_ne (fun q => nF (by rw [q]; exact z))
    refine ⟨e3, p v _ F2 ⟨st2.sub, fun m z => by have := st2.new m z; simpa using this, fun m h2 hl z => ?_, by have := st2.len; simpa using this⟩ ⟨fun m z => ⟨(I2.fz m z).1, by simpa using (I2.fz m z).2⟩, ?_⟩ ?_⟩
    · by_cases hne : n = m
      · subst hne; rw [set_at e3, ea]
      · rw [List.getElem?_set_ne hne, st2.keep m h2 (by simpa using hl) (by simpa using z), List.getElem?_set_ne hne]
    · obtain ⟨R, eR⟩ := I2.ds
      refine ⟨R.set (n - 2) (.dk kvs), ?_⟩
      have := on.1
      rw [eR, List.set_append_right _ _ (by rw [ds_len]; omega), ds_len]
    · refine rdT_mono (p := fun m => (A.set n (.dz kvs z)).length ≤ m ∧ ¬ F2 m) (fun _ z => z) hF (fun m em hm _ => ⟨by simpa using hm, List.getElem?_set_ne fun q => ?_⟩) r2
      subst q
      simp at hm; omega
  | ex e1 s2 => rw [eq] at p; exact p.elim
  | no => rw [eq] at p; exact p.elim
end
/-! ### defs -/
def runF (m : M (Ex Unit)) : M T := bnd m fun r => match r with
  | .nx _ => mret .non
  | .rt v => mret v
  | .bk _ => stuck
theorem gat_fz : ∀ (xs : List T) (n i : Nat), gat (xs.map Sl.fz ++ List.replicate n .un) i = match xs[i]? with | some x => .fz x | none => .un
  | [], n, i => by
    simp only [List.map_nil, List.nil_append, List.getElem?_nil]
    induction n generalizing i with
    | zero => cases i <;> rfl
    | succ n ih => cases i with | zero => rfl | succ i => exact ih i
  | x :: xs, n, 0 => rfl
  | x :: xs, n, i + 1 => by simpa [gat] using gat_fz xs n i
theorem at_start {F : Nat → Prop} {A : AH} {s : Drw} {xs : List T} {vs : List Val} (I : Inv A F s) (r : rds F A xs vs) (n : Nat) : At A.length F A (vs.map some ++ List.replicate n none) (xs.map Sl.fz ++ List.replicate n .un) s := by
  have hl := rds_len r
  refine ⟨I, Nat.le_refl _, by simp [hl], fun i x e => ?_, fun i x e => ?_, fun i j x y m e1 e2 => ?_, fun i m kvs g ks ts e => ?_⟩
  all_goals rw [gat_fz] at *
  · cases ex : xs[i]? with
    | none => rw [ex] at e; cases e
    | some y =>
      rw [ex] at e; cases e
      obtain ⟨v, ev, rv⟩ := rds_at r ex
      have : i < vs.length := (List.getElem?_eq_some_iff.mp ev).1
      exact ⟨v, by rw [List.getElem?_append_left (by simpa using this), List.getElem?_map, ev]; rfl, rv⟩
  · cases ex : xs[i]? <;> rw [ex] at e <;> cases e
  · cases ex : xs[i]? <;> rw [ex] at e1 <;> cases e1
  · cases ex : xs[i]? <;> rw [ex] at e <;> cases e
theorem rf_of {nN np : Nat} {d : DenS} {m : List T → M T} (h : ∀ xs, (∃ mb : M (Ex Unit), m xs = runF mb ∧ xs.length = np ∧ RS false (xs.map Sl.fz ++ List.replicate (nN - np) .un) d (fun _ => List.replicate nN .un) mb) ∨ m xs = stuck) : RF (fDen nN np d) m := fun F A s xs vs I r Q E p => by
  rcases h xs with ⟨mb, e, hl, hs⟩ | e
  · refine ⟨by rw [rds_len r, hl], hs A.length F A _ s (at_start I r _) _ ?_⟩
    rw [e] at p
    unfold runF bnd at p
    cases eq : mb s with
    | ok y s2 =>
      rw [eq] at p
      cases y with
      | nx y => exact fun t' A' F' st a => ⟨p .non A' F' st a.I (by simp only [Kd.rel, rd]), fun z => nomatch z⟩
      | bk y => exact p.elim
      | rt v => exact p
    | ex e1 s2 => rw [eq] at p; exact fun t' A' F' st I => p A' F' st I
    | no => rw [eq] at p; exact p
  · rw [e] at p; exact p.elim
theorem rf_none : RF (fun _ _ _ _ => False) fun _ => stuck := fun F A s xs vs I r Q E p => p
end FM

namespace FM
open PySem PySem.Spec PyProof.Rows L2 EV
/-! ### the draws -/
def drawE (many : Int) (xs : List Int) (i : Nat) (x s c cell : Int) : Int × Drw :=
  if 0 < x then (x % many, ⟨xs, i, x / many, s, c⟩)
  else (((s * 48271 + cell * 69621 + (c + 1) * 7919) % 2147483647 * 40692 + (c + 1) * 101 + 12345) % 2147483399 % many, ⟨xs, i, x, (s * 48271 + cell * 69621 + (c + 1) * 7919) % 2147483647, c + 1⟩)
def drawC (many : Int) (xs : List Int) (i : Nat) (x s c cell : Int) : Int × Drw :=
  if 1000000000000000000 ≤ cell then drawE many xs i (Builtin.bitAnd cell (1 * 2 ^ 1400 - 1)) s c (Builtin.bitAnd cell (1 * 2 ^ 1400 - 1))
  else drawE many xs i x s c cell
@[irreducible] def drawF (d : Drw) (many : Int) : Int × Drw :=
  if many < 2 then (0, d)
  else if d.x = 0 then (match d.xs[d.i]? with
    | some cell => if cell < 0 then drawC many d.xs (d.i + 1) d.x d.s d.c (5 - 3 * cell) else drawC many d.xs (d.i + 1) d.x d.s d.c cell
    | none => drawE many d.xs d.i d.x d.s d.c (d.c * 977 + 3))
  else drawE many d.xs d.i d.x d.s d.c (d.c * 977 + 3)
def drawO : List T → Option Int
  | [.tok, .int many] => some many
  | _ => none
def DrawOk (many : Int) : Prop := many < 2 ^ 64
open Classical in
@[irreducible] noncomputable def drawM (many : Int) : M T := fun s => if DrawOk many then .ok (.int (drawF s many).1) (drawF s many).2 else .no
noncomputable def drawT (xs : List T) : M T := bnd (ofO (drawO xs)) drawM
theorem drawO_some {xs : List T} {many : Int} (h : drawO xs = some many) : xs = [.tok, .int many] := by
  unfold drawO at h
  split at h
  · cases h; rfl
  · cases h
theorem drawE_bd {many : Int} {xs : List Int} {i : Nat} {x s c cell : Int} (h : 0 < many) : 0 ≤ (drawE many xs i x s c cell).1 ∧ (drawE many xs i x s c cell).1 < many := by
  unfold drawE
  split
  · exact ⟨Int.emod_nonneg _ (by omega), Int.emod_lt_of_pos _ h⟩
  · exact ⟨Int.emod_nonneg _ (by omega), Int.emod_lt_of_pos _ h⟩
theorem drawF_bd (d : Drw) (many : Int) : 0 ≤ (drawF d many).1 ∧ (drawF d many).1 < max many 1 := by
  unfold drawF
  split
  · simp only; omega
  · rename_i h
    have hm : max many 1 = many := by omega
    rw [hm]
    have h1 : 0 < many := by omega
    split
    · split
      · split
        · unfold drawC; split <;> exact drawE_bd h1
        · unfold drawC; split <;> exact drawE_bd h1
      · exact drawE_bd h1
    · exact drawE_bd h1
/-! ### what is wanted of a run -/
section
variable {α β : Type}
@[irreducible] def wp (m : M α) (s : Drw) (Q : α → Drw → Prop) : Prop := match m s with
  | .ok a s' => Q a s'
  | _ => False
theorem wp_ret {a : α} {s : Drw} {Q : α → Drw → Prop} (h : Q a s) : wp (mret a) s Q := by unfold wp; exact h
theorem wp_bnd {m : M α} {f : α → M β} {s : Drw} {Q : β → Drw → Prop} (h : wp m s fun a s' => wp (f a) s' Q) : wp (bnd m f) s Q := by
  unfold wp bnd at *
  cases e : m s with
  | ok a s' => rw [e] at h; exact h
  | ex e1 s' => rw [e] at h; exact h.elim
  | no => rw [e] at h; exact h.elim
theorem wp.imp {m : M α} {s : Drw} {Q Q' : α → Drw → Prop} (h : wp m s Q) (k : ∀ a s', Q a s' → Q' a s') : wp m s Q' := by
  unfold wp at *
  cases e : m s with
  | ok a s' => rw [e] at h; exact k _ _ h
  | ex e1 s' => rw [e] at h; exact h.elim
  | no => rw [e] at h; exact h.elim
theorem wp_noex {m : M α} {s : Drw} {Q : α → Drw → Prop} (h : wp m s Q) : wp (noex m) s Q := by
  unfold wp noex at *
  cases e : m s with
  | ok a s' => rw [e] at h; exact h
  | ex e1 s' => rw [e] at h; exact h.elim
  | no => rw [e] at h; exact h.elim
theorem wp_draw {many : Int} {s : Drw} {Q : T → Drw → Prop} (hm : many < 2 ^ 64) (h : ∀ v s', 0 ≤ v → v < max many 1 → Q (.int v) s') : wp (drawT [.tok, .int many]) s Q := by
  unfold wp
  rw [show drawT [.tok, .int many] s = .ok (.int (drawF s many).1) (drawF s many).2 from by show drawM many s = _; unfold drawM; exact if_pos hm]
  exact h _ _ (drawF_bd s many).1 (drawF_bd s many).2
theorem wp_run {m : M (Ex Unit)} {s : Drw} {Q : T → Drw → Prop} (h : wp m s fun r s' => match r with | .nx _ => Q .non s' | .rt v => Q v s' | .bk _ => False) : wp (runF m) s Q := by
  refine wp_bnd (h.imp fun r s' q => ?_)
  cases r <;> first | exact wp_ret q | exact q.elim
end
theorem law_end {fn_law fn_begin : FDen} {nN : Nat} {d : DenS} {m : M (Ex Unit)} (he : fn_law = fDen (nN + 2) 1 (sSeqB (sAsg (dCall fn_begin (aCons (dVar 0) aNil)) (gNameB 1)) d))
    (hb : ∀ (ns : List Int) (Q : VQ) (E : XQ), (∀ s, Q (.ref 1) (DS s)) → fn_begin [.wl (ns.map .int)] [] Q E)
    (hd : RS false (.un :: .fz .tok :: List.replicate nN .un) d (fun _ => List.replicate (nN + 2) .un) m) (hm : ∀ s, wp (runF m) s fun v _ => v = .bl true) : Plain fn_law 63 := by
  intro ns _
  rw [he]
  refine ⟨rfl, ?_⟩
  refine ⟨.wl (ns.map .int), rfl, ?_⟩
  refine hb ns _ _ fun s => s_kT rfl ?_
  have I : Inv (DS s) (fun _ => False) s := ⟨fun _ z => z.elim, ⟨[], by simp⟩⟩
  refine hd 2 (fun _ => False) (DS s) _ s ⟨I, Nat.le_refl _, ?_⟩ _ ?_
  · refine ⟨by simp, fun i x e => ?_, fun i x e => ?_, fun i j x y n e1 e2 => ?_, fun i n kvs g ks ts e => ?_⟩
    · match i, e with
      | 0, e => cases e
      | 1, e => cases e; exact ⟨.ref 1, rfl, by simp only [rd]⟩
      | i + 2, e =>
        exfalso
        have := gat_fz [] nN i
        simp only [List.map_nil, List.nil_append, List.getElem?_nil] at this
        have e : gat (List.replicate nN .un) i = .fz x := e
        rw [this] at e; cases e
    · match i, e with
      | 0, e => cases e
      | 1, e => cases e
      | i + 2, e =>
        exfalso
        have := gat_fz [] nN i
        simp only [List.map_nil, List.nil_append, List.getElem?_nil] at this
        have e : gat (List.replicate nN .un) i = .ow x := e
        rw [this] at e; cases e
    · match i, e1 with
      | 0, e => cases e
      | 1, e => cases e
      | i + 2, e =>
        exfalso
        have := gat_fz [] nN i
        simp only [List.map_nil, List.nil_append, List.getElem?_nil] at this
        have e : gat (List.replicate nN .un) i = .ow x := e
        rw [this] at e; cases e
    · match i, e with
      | 0, e => cases e
      | 1, e => cases e
      | i + 2, e =>
        exfalso
        have := gat_fz [] nN i
        simp only [List.map_nil, List.nil_append, List.getElem?_nil] at this
        have e : gat (List.replicate nN .un) i = .lk n kvs g ks ts := e
        rw [this] at e; cases e
  · have := hm s
    unfold wp runF bnd at this
    cases eq : m s with
    | ok y s2 =>
      rw [eq] at this
      cases y with
      | nx y => exact absurd (show T.non = T.bl true from this) (fun z => nomatch z)
      | bk y => exact this.elim
      | rt v =>
        cases (show v = .bl true from this)
        exact fun u A' F' st I r => by simpa only [rd] using r
    | ex e1 s2 => rw [eq] at this; exact this.elim
    | no => rw [eq] at this; exact this.elim
end FM

namespace FM
open PySem PySem.Spec PyProof.Rows L2 EV
/-! ### plain tools -/
section
variable {α β σ τ : Type}
@[simp] theorem bnd_mret (a : α) (f : α → M β) : bnd (mret a) f = f a := rfl
@[simp] theorem bnd_assoc' (m : M α) (f : α → M β) {γ : Type} (g : β → M γ) : bnd (bnd m f) g = bnd m fun a => bnd (f a) g := bnd_assoc m f g
@[simp] theorem bnd_mret' (m : M α) : bnd m mret = m := ret_bnd m
@[simp] theorem ofO_some' (a : α) : ofO (some a) = mret a := rfl
@[simp] theorem noex_mret (a : α) : noex (mret a) = mret a := rfl
theorem noex_bnd (m : M α) (f : α → M β) : noex (bnd m f) = bnd (noex m) fun a => noex (f a) := by
  funext s; simp only [noex, bnd]; cases m s <;> rfl
@[simp] theorem runF_nx (x : Unit) : runF (mret (.nx x)) = mret .non := rfl
@[simp] theorem runF_rt (v : T) : runF (mret (.rt v)) = mret v := rfl
@[simp] theorem bndX_nx (x : τ) (f : τ → M (Ex σ)) : bndX (mret (.nx x)) f = f x := rfl
@[simp] theorem bndX_rt (v : T) (f : τ → M (Ex σ)) : bndX (mret (.rt v)) f = mret (.rt v) := rfl
@[simp] theorem bndN_nx (x : τ) (f : τ → M (Ex σ)) : bndN (mret (.nx x)) f = f x := rfl
theorem runF_bnd (m : M α) (f : α → M (Ex Unit)) : runF (bnd m f) = bnd m fun a => runF (f a) := by unfold runF; rw [bnd_assoc]
theorem runF_ite {b : Bool} {x y : M (Ex Unit)} : runF (if b = true then x else y) = if b = true then runF x else runF y := by cases b <;> rfl
theorem bnd_ite {b : Bool} {x y : M α} {f : α → M β} : bnd (if b = true then x else y) f = if b = true then bnd x f else bnd y f := by cases b <;> rfl
theorem bndX_bnd (m : M α) (g : α → M (Ex τ)) (f : τ → M (Ex σ)) : bndX (bnd m g) f = bnd m fun a => bndX (g a) f := by unfold bndX; rw [bnd_assoc]
theorem bndX_ite {b : Bool} {x y : M (Ex τ)} {f : τ → M (Ex σ)} : bndX (if b = true then x else y) f = if b = true then bndX x f else bndX y f := by cases b <;> rfl
theorem runF_bndX (m : M (Ex τ)) (f : τ → M (Ex Unit)) : runF (bndX m f) = bnd m fun r => match r with | .nx x => runF (f x) | .bk _ => stuck | .rt v => mret v := by
  unfold runF bndX; rw [bnd_assoc]; congr 1; funext r; cases r <;> rfl
@[simp] theorem un2_tup (f : T → T → M α) (a b : T) : un2 f (.tup [a, b]) = f a b := rfl
@[simp] theorem un3_tup (f : T → T → T → M α) (a b c : T) : un3 f (.tup [a, b, c]) = f a b c := rfl
@[simp] theorem un4_tup (f : T → T → T → T → M α) (a b c d : T) : un4 f (.tup [a, b, c, d]) = f a b c d := rfl
@[simp] theorem gIt_t (m : M T) : gIt (mret true) m = bnd m fun y => mret (some y) := rfl
@[simp] theorem gIt_f (m : M T) : gIt (mret false) m = mret none := rfl
theorem gIt_b (b : Bool) (m : M T) : gIt (mret b) m = if b = true then (bnd m fun y => mret (some y)) else mret none := by cases b <;> rfl
/-! operations on what is known -/
@[simp] theorem ixB_tup (xs : List T) (i : Int) : ixB (.tup xs) (.int i) = atI xs i := rfl
@[simp] theorem ixB_lst (xs : List T) (i : Int) : ixB (.lst xs) (.int i) = atI xs i := rfl
@[simp] theorem ixB_dk (ks : List Key) (xs : List T) (y : T) : ixB (.dk ks xs) y = (keyT y).bind (dGet ks xs) := by cases y <;> rfl
@[simp] theorem ixB_dz (ks : List Key) (xs : List T) (y : T) : ixB (.dz ks xs) y = (keyT y).bind (dGet ks xs) := by cases y <;> rfl
@[simp] theorem keyT_int (i : Int) : keyT (.int i) = some (.inl i) := rfl
@[simp] theorem keyT_str (i : Str) : keyT (.str i) = some (.inr i) := rfl
@[simp] theorem atI_m (f : α → T) (xs : List α) (k : Nat) : atI (xs.map f) (k : Int) = (xs[k]?).map f := by
  unfold atI ixN
  rw [List.length_map]
  by_cases h : k < xs.length
  · rw [if_pos (by omega), if_pos (by omega)]; simp
  · rw [if_pos (by omega), if_neg (by omega), List.getElem?_eq_none (by omega)]; rfl
theorem atI_n (xs : List α) (k : Nat) : atI xs (k : Int) = xs[k]? := by
  unfold atI ixN
  by_cases h : k < xs.length
  · rw [if_pos (by omega), if_pos (by omega)]; simp
  · rw [if_pos (by omega), if_neg (by omega), List.getElem?_eq_none (by omega)]; rfl
@[simp] theorem atI_0 (x : α) (xs : List α) : atI (x :: xs) 0 = some x := by rw [show (0 : Int) = ((0 : Nat) : Int) from rfl, atI_n]; rfl
@[simp] theorem atI_1 (x y : α) (xs : List α) : atI (x :: y :: xs) 1 = some y := by rw [show (1 : Int) = ((1 : Nat) : Int) from rfl, atI_n]; rfl
@[simp] theorem atI_2 (x y z : α) (xs : List α) : atI (x :: y :: z :: xs) 2 = some z := by rw [show (2 : Int) = ((2 : Nat) : Int) from rfl, atI_n]; rfl
@[simp] theorem atI_3 (x y z w : α) (xs : List α) : atI (x :: y :: z :: w :: xs) 3 = some w := by rw [show (3 : Int) = ((3 : Nat) : Int) from rfl, atI_n]; rfl
@[simp] theorem lenT_tup (xs : List T) : lenT [.tup xs] = some (.int xs.length) := rfl
@[simp] theorem lenT_lst (xs : List T) : lenT [.lst xs] = some (.int xs.length) := rfl
@[simp] theorem lenT_dk (ks : List Key) (xs : List T) : lenT [.dk ks xs] = some (.int ks.length) := rfl
@[simp] theorem truT_lst (xs : List T) : truT (.lst xs) = some (!xs.isEmpty) := rfl
@[simp] theorem truT_tup (xs : List T) : truT (.tup xs) = some (!xs.isEmpty) := rfl
@[simp] theorem truT_bl (b : Bool) : truT (.bl b) = some b := rfl
@[simp] theorem truT_int (i : Int) : truT (.int i) = some (i != 0) := rfl
@[simp] theorem truT_non : truT .non = some false := rfl
@[simp] theorem blT_bl (b : Bool) : blT (.bl b) = some b := rfl
@[simp] theorem asL_lst (xs : List T) : asL (.lst xs) = some xs := rfl
@[simp] theorem asK_dk (ks : List Key) (xs : List T) : asK (.dk ks xs) = some (ks, xs) := rfl
@[simp] theorem valT_lst (xs : List T) : valT (.lst xs) = some xs := rfl
@[simp] theorem valT_tup (xs : List T) : valT (.tup xs) = some xs := rfl
@[simp] theorem tupT_lst (xs : List T) : tupT [.lst xs] = some (.tup xs) := rfl
@[simp] theorem tupT_tup (xs : List T) : tupT [.tup xs] = some (.tup xs) := rfl
@[simp] theorem listT_lst (xs : List T) : listT [.lst xs] = some (.lst xs) := rfl
@[simp] theorem listT_tup (xs : List T) : listT [.tup xs] = some (.lst xs) := rfl
@[simp] theorem intcT_int (i : Int) : intcT [.int i] = some (.int i) := rfl
@[simp] theorem intT_int (f : Int → Int → Int) (i j : Int) : intT f (.int i) (.int j) = some (.int (f i j)) := rfl
@[simp] theorem addT_int (i j : Int) : addT (.int i) (.int j) = some (.int (i + j)) := rfl
theorem addT_lst {xs ys : List T} (h : xs.length + ys.length ≤ 16777216) : addT (.lst xs) (.lst ys) = some (.lst (xs ++ ys)) := if_pos (by rw [sizeLine_eq]; omega)
theorem addT_tup {xs ys : List T} (h : xs.length + ys.length ≤ 16777216) : addT (.tup xs) (.tup ys) = some (.tup (xs ++ ys)) := if_pos (by rw [sizeLine_eq]; omega)
@[simp] theorem ordT_int (f : Int → Int → Bool) (i j : Int) : ordT f (.int i) (.int j) = some (.bl (f i j)) := rfl
@[simp] theorem cmpT_int (n : Bool) (i j : Int) : cmpT n (.int i) (.int j) = some (.bl (xor n (decide (i = j)))) := by
  unfold cmpT; simp [okT, eqT, Bool.beq_eq_decide_eq]
@[simp] theorem cmpT_bl (n : Bool) (i j : Bool) : cmpT n (.bl i) (.bl j) = some (.bl (xor n (decide (i = j)))) := by
  unfold cmpT; simp [okT, eqT, Bool.beq_eq_decide_eq]
@[simp] theorem cmpT_str (n : Bool) (i j : Str) : cmpT n (.str i) (.str j) = some (.bl (xor n (decide (i = j)))) := rfl
@[simp] theorem isT_non (n : Bool) (x : T) : isT n x .non = some (.bl (xor n (isNonT x))) := rfl
@[simp] theorem isT_bl (n : Bool) (a b : Bool) : isT n (.bl a) (.bl b) = some (.bl (xor n (decide (a = b)))) := rfl
@[simp] theorem isNonT_non : isNonT .non = true := rfl
@[simp] theorem isNonT_int (i : Int) : isNonT (.int i) = false := rfl
@[simp] theorem isNonT_tup (i : List T) : isNonT (.tup i) = false := rfl
@[simp] theorem isNonT_bl (i : Bool) : isNonT (.bl i) = false := rfl
@[simp] theorem negT_int (i : Int) : negT (.int i) = some (.int (-i)) := rfl
@[simp] theorem intO_int (i : Int) : intO (.int i) = some i := rfl
theorem intCT_ok {C : Int → Int → Prop} {f : Int → Int → Int} {i j : Int} (h : C i j) : intCT C f (.int i) (.int j) = some (.int (f i j)) := if_pos h
theorem mulT_int {i j : Int} (h : (-(2 ^ 64) < i ∧ i < 2 ^ 64) ∨ (-(2 ^ 64) < j ∧ j < 2 ^ 64)) : mulT (.int i) (.int j) = some (.int (i * j)) := if_pos h
@[simp] theorem mod_ok {i j : Int} (h : 0 < j) : intCT (fun _ j => 0 < j) (· % ·) (.int i) (.int j) = some (.int (i % j)) := if_pos h
theorem div_ok {i j : Int} (h : 0 < j) (h2 : j < 2 ^ 64) : intCT CDivW (· / ·) (.int i) (.int j) = some (.int (i / j)) := if_pos (wide_div (b := 64) h (by omega) (by decide) (by decide))
theorem shl_ok' {i j : Int} (h : 0 ≤ j) (h2 : j ≤ 1000000) (hi : i.natAbs < 2 ^ 64) : intCT CPow (fun i j => i * 2 ^ j.toNat) (.int i) (.int j) = some (.int (i * 2 ^ j.toNat)) := if_pos ⟨h, h2, hi⟩
theorem shr_ok' {i j : Int} (h : 0 ≤ j) : intCT (fun _ j => 0 ≤ j) (fun i j => i / 2 ^ j.toNat) (.int i) (.int j) = some (.int (i / 2 ^ j.toNat)) := if_pos h
theorem appT_ok {ts : List T} {y : T} (h : ts.length < 16777216) : appT ts y = some (.lst (ts ++ [y])) := if_pos (by rw [sizeLine_eq]; exact h)
@[simp] theorem sumT_ints (l : List Int) : sumT [.lst (l.map T.int)] = some (.int l.sum) := by simp only [sumT, intsT_map, Option.map_some]
@[simp] theorem sortedT_ints (l : List Int) : sortedT [.lst (l.map T.int)] = some (.lst ((sortI l).map T.int)) := by simp only [sortedT, intsT_map]
theorem rng1_ok {n : Nat} (h : n < 2 ^ 62) : rng1T [.int (n : Int)] = some ((List.range n).map fun i : Nat => .int (i : Int)) := by
  unfold rng1T rngT
  simp only
  rw [if_pos ⟨by omega, by omega⟩]
  simp
theorem rng1_i {n : Int} (h : n < 2 ^ 62) (h2 : -(2 ^ 62) ≤ n) : rng1T [.int n] = some ((List.range n.toNat).map fun i : Nat => .int (i : Int)) := by
  unfold rng1T rngT
  simp only
  rw [if_pos ⟨by omega, by omega⟩]
  simp
theorem rng2_ok {a n : Nat} (h : a < 2 ^ 62) (h2 : n < 2 ^ 62) : rng2T [.int (a : Int), .int (n : Int)] = some ((List.range (n - a)).map fun i : Nat => .int ((a + i : Nat) : Int)) := by
  unfold rng2T rngT
  simp only
  rw [if_pos ⟨⟨by omega, by omega⟩, ⟨by omega, by omega⟩⟩]
  simp
@[simp] theorem dnat (a b : Nat) : decide ((a : Int) = (b : Int)) = (a == b) := by
  by_cases h : a = b
  · subst h; simp
  · have : ¬ (a : Int) = b := by omega
    rw [decide_eq_false this]; simp [h]
theorem dlt (a b : Nat) : decide ((a : Int) < (b : Int)) = decide (a < b) := by
  by_cases h : a < b
  · rw [decide_eq_true h, decide_eq_true (by omega)]
  · rw [decide_eq_false h, decide_eq_false (by omega)]
/-! tuples and lists of numbers -/
def nT (n : Nat) : T := .int (n : Int)
def nsT (l : List Nat) : T := .tup (l.map nT)
def ii (l : List Nat) : List Int := l.map fun n : Nat => (n : Int)
theorem nsT_eq (l : List Nat) : nsT l = tI (ii l) := by unfold nsT tI ii; rw [List.map_map]; rfl
theorem nT_map (l : List Nat) : l.map nT = (ii l).map T.int := by unfold ii; rw [List.map_map]; rfl
@[simp] theorem valT_nsT (l : List Nat) : valT (nsT l) = some (l.map nT) := rfl
@[simp] theorem lenT_nsT (l : List Nat) : lenT [nsT l] = some (.int (l.length : Nat)) := by unfold nsT; rw [lenT_tup, List.length_map]
theorem okTs_map {n : Nat} {f : α → T} : ∀ {xs : List α}, (∀ x ∈ xs, okT n (f x) = true) → okTs n (xs.map f) = true
  | [], _ => by simp [okTs]
  | x :: xs, h => by
    simp only [List.map_cons, okTs, Bool.and_eq_true]
    exact ⟨h x List.mem_cons_self, okTs_map fun y hy => h y (List.mem_cons_of_mem _ hy)⟩
theorem okT_nT (n m : Nat) : okT n (nT m) = true := by cases n <;> rfl
theorem okT_int (n : Nat) (m : Int) : okT n (.int m) = true := by cases n <;> rfl
theorem okTs_nT (n : Nat) (l : List Nat) : okTs n (l.map nT) = true := okTs_map fun x _ => okT_nT n x
theorem okT_nsT (n : Nat) (l : List Nat) : okT (n + 1) (nsT l) = true := by unfold nsT; simp only [okT]; exact okTs_nT n l
theorem okT_tI (n : Nat) (l : List Int) : okT (n + 1) (tI l) = true := by unfold tI; simp only [okT]; exact okTs_map fun x _ => okT_int n x
theorem okTs_nsT (n : Nat) (l : List (List Nat)) : okTs (n + 1) (l.map nsT) = true := okTs_map fun x _ => okT_nsT n x
theorem eqT_nT (a b : Nat) : eqT (nT a) (nT b) = (a == b) := by
  have e : eqT (nT a) (nT b) = ((a : Int) == (b : Int)) := by unfold nT eqT; rfl
  rw [e, Bool.beq_eq_decide_eq, dnat]
theorem eqTs_nT : ∀ a b : List Nat, eqTs (a.map nT) (b.map nT) = (a == b)
  | [], [] => rfl
  | [], _ :: _ => rfl
  | _ :: _, [] => rfl
  | x :: a, y :: b => by simp only [List.map_cons, eqTs, eqT_nT, eqTs_nT a b]; rfl
theorem eqT_nsT (a b : List Nat) : eqT (nsT a) (nsT b) = (a == b) := by unfold nsT; simp only [eqT]; exact eqTs_nT a b
theorem cmpT_nsT (n : Bool) (a b : List Nat) : cmpT n (nsT a) (nsT b) = some (.bl (xor n (a == b))) := by
  have h : ∀ l, okT 60 (nsT l) = true := fun l => okT_nsT 59 l
  have e := eqT_nsT a b
  unfold nsT at h e ⊢
  unfold cmpT
  simp only
  rw [if_pos ⟨h a, h b⟩, e]
theorem any_nT (l : List Nat) (a : Nat) : ((l.map nT).any fun z => eqT z (nT a)) = l.contains a := by
  induction l with
  | nil => rfl
  | cons x l ih => rw [List.map_cons, List.any_cons, ih, eqT_nT, List.contains_cons]; congr 1; exact Bool.eq_iff_iff.mpr ⟨fun h => by simp at h ⊢; exact h.symm, fun h => by simp at h ⊢; exact h.symm⟩
theorem any_nsT (l : List (List Nat)) (a : List Nat) : ((l.map nsT).any fun z => eqT z (nsT a)) = l.contains a := by
  induction l with
  | nil => rfl
  | cons x l ih => rw [List.map_cons, List.any_cons, ih, eqT_nsT, List.contains_cons]; congr 1; exact Bool.eq_iff_iff.mpr ⟨fun h => by simp at h ⊢; exact h.symm, fun h => by simp at h ⊢; exact h.symm⟩
theorem inT_nT (n : Bool) (a : Nat) (l : List Nat) : inT n (nT a) (nsT l) = some (.bl (xor n (l.contains a))) := by
  unfold nsT inT; simp only
  rw [if_pos ⟨okT_nT _ _, okTs_nT _ _⟩, any_nT]
theorem inT_nTl (n : Bool) (a : Nat) (l : List Nat) : inT n (nT a) (.lst (l.map nT)) = some (.bl (xor n (l.contains a))) := by
  unfold inT; simp only
  rw [if_pos ⟨okT_nT _ _, okTs_nT _ _⟩, any_nT]
theorem inT_nsTl (n : Bool) (a : List Nat) (l : List (List Nat)) : inT n (nsT a) (.lst (l.map nsT)) = some (.bl (xor n (l.contains a))) := by
  unfold inT; simp only
  rw [if_pos ⟨okT_nsT _ _, okTs_nsT _ _⟩, any_nsT]
theorem inT_nsTt (n : Bool) (a : List Nat) (l : List (List Nat)) : inT n (nsT a) (.tup (l.map nsT)) = some (.bl (xor n (l.contains a))) := by
  unfold inT; simp only
  rw [if_pos ⟨okT_nsT _ _, okTs_nsT _ _⟩, any_nsT]
theorem idxT_nT (l : List Nat) (a : Nat) (h : a ∈ l) : idxT (nT a) (l.map nT) = some (l.idxOf a) := by
  induction l with
  | nil => cases h
  | cons x l ih =>
    have e : idxT (nT a) ((x :: l).map nT) = if (x == a) = true then some 0 else (idxT (nT a) (l.map nT)).map (· + 1) := by
      rw [List.map_cons, idxT, eqT_nT]
    rw [e, List.idxOf_cons]
    by_cases e : x = a
    · subst e; simp
    · have hm : a ∈ l := (List.mem_cons.mp h).resolve_left fun q => e q.symm
      have q : (x == a) = false := by simpa using e
      simp [q, ih hm]
theorem indexT_nT (l : List Nat) (a : Nat) (h : a ∈ l) : indexT (l.map nT) (nT a) = some (nT (l.idxOf a)) := by
  unfold indexT
  rw [if_pos ⟨okT_nT _ _, okTs_nT _ _⟩, idxT_nT l a h]; rfl
/-! dicts as sets of numbers, in the order in which they came -/
def ik (n : Nat) : Key := .inl (n : Int)
def dS (l : List Nat) : T := .dk (l.map ik) (l.map fun _ => .bl true)
def insS (l : List Nat) (n : Nat) : List Nat := if l.contains n = true then l else l ++ [n]
theorem ik_inj {a b : Nat} : ik a = ik b ↔ a = b := by
  unfold ik; constructor
  · intro h; cases h; rfl
  · rintro rfl; rfl
theorem any_ik (l : List Nat) (n : Nat) : ((l.map ik).any fun k' => decide (k' = ik n)) = l.contains n := by
  induction l with
  | nil => rfl
  | cons x l ih => rw [List.map_cons, List.any_cons, ih, List.contains_cons]; congr 1; exact Bool.eq_iff_iff.mpr ⟨fun h => by simp [ik_inj] at h ⊢; exact h.symm, fun h => by simp [ik_inj] at h ⊢; exact h.symm⟩
theorem dS_set {l : List Nat} {n : Nat} (h : l.length < 16777216) : setT (dS l) (nT n) (.bl true) = some (dS (insS l n)) := by
  unfold dS nT setT
  simp only [keyT_int, Option.bind_some]
  rw [if_pos (by rw [List.length_map, sizeLine_eq]; exact h)]
  have e := any_ik l n
  unfold ik at e
  unfold dKs dVs insS
  unfold ik
  rw [e]
  by_cases hc : l.contains n = true
  · rw [if_pos hc, if_pos hc, if_pos hc]
    congr 2
    clear e hc h
    induction l with
    | nil => rfl
    | cons x l ih => simp only [List.map_cons, List.zipWith_cons_cons, ih]; congr 1; split <;> rfl
  · rw [if_neg hc, if_neg hc, if_neg hc]; simp
theorem dS_keys (l : List Nat) : (l.map ik).map keyTr = l.map nT := by rw [List.map_map]; rfl
theorem keysInt (l : List Nat) : (l.map ik).mapM keyInt = some (ii l) := by
  induction l with
  | nil => rfl
  | cons a l ih => rw [List.map_cons, List.mapM_cons, ih]; rfl
theorem dS_sorted {l : List Nat} (h : l.length < 64) : sortedT [dS l] = some (.lst ((sortI (ii l)).map T.int)) := by
  unfold dS sortedT
  simp only [keysInt, Option.bind_some]
  rw [if_pos (by unfold ii; rw [List.length_map]; exact h)]
theorem mem_insS {l : List Nat} {n m : Nat} : m ∈ insS l n ↔ m ∈ l ∨ m = n := by
  unfold insS
  split
  · rename_i h
    rw [List.contains_iff_mem] at h
    constructor
    · exact .inl
    · rintro (h' | rfl)
      · exact h'
      · exact h
  · simp
theorem nodup_insS {l : List Nat} {n : Nat} (h : l.Nodup) : (insS l n).Nodup := by
  unfold insS
  split
  · exact h
  · rename_i hc
    rw [List.contains_iff_mem] at hc
    rw [List.nodup_append]
    exact ⟨h, by simp, fun a ha b hb e => by rw [List.mem_singleton] at hb; subst hb; subst e; exact hc ha⟩
theorem len_insS (l : List Nat) (n : Nat) : (insS l n).length ≤ l.length + 1 := by unfold insS; split <;> simp
def insA (l : List Nat) (xs : List Nat) : List Nat := xs.foldl insS l
theorem insA_snoc (l xs : List Nat) (x : Nat) : insA l (xs ++ [x]) = insS (insA l xs) x := by unfold insA; rw [List.foldl_append]; rfl
theorem mem_insA {xs l : List Nat} {m : Nat} : m ∈ insA l xs ↔ m ∈ l ∨ m ∈ xs := by
  unfold insA
  induction xs generalizing l with
  | nil => simp
  | cons x xs ih => rw [List.foldl_cons, ih, mem_insS, List.mem_cons, or_assoc]
theorem nodup_insA {xs l : List Nat} (h : l.Nodup) : (insA l xs).Nodup := by
  unfold insA
  induction xs generalizing l with
  | nil => exact h
  | cons x xs ih => rw [List.foldl_cons]; exact ih (nodup_insS h)
theorem len_insA (l xs : List Nat) : (insA l xs).length ≤ l.length + xs.length := by
  unfold insA
  induction xs generalizing l with
  | nil => simp
  | cons x xs ih => rw [List.foldl_cons]; have := ih (insS l x); have := len_insS l x; simp only [List.length_cons]; omega
theorem nodup_le {l : List Nat} {n : Nat} (h : l.Nodup) (hb : ∀ x ∈ l, x < n) : l.length ≤ n := by
  induction n generalizing l with
  | zero => cases l with
    | nil => simp
    | cons a l => have := hb a List.mem_cons_self; omega
  | succ n ih =>
    have h1 := ih (l := l.erase n) (h.erase n) fun x hx => by
      have := (h.mem_erase_iff).mp hx
      have := hb x this.2
      omega
    have := List.length_erase_le (a := n) (l := l)
    have h2 : l.length ≤ (l.erase n).length + 1 := by rw [List.length_erase]; split <;> omega
    omega
/-- a set in order -/
theorem sort_set {l : List Nat} {n : Nat} {p : Nat → Bool} (h : l.Nodup) (hm : ∀ x, x ∈ l ↔ x < n ∧ p x = true) : sortI (ii l) = ii ((List.range n).filter p) := by
  have pw : (ii ((List.range n).filter p)).Pairwise (· ≤ ·) := by
    unfold ii
    rw [List.pairwise_map]
    exact (List.Pairwise.filter p List.pairwise_lt_range).imp fun {a b} h => by omega
  refine (sortI_eq ?_ pw).symm
  unfold ii
  refine List.Perm.map _ ?_
  refine (List.perm_ext_iff_of_nodup (List.Pairwise.filter p List.nodup_range) h).mpr fun x => ?_
  rw [hm, List.mem_filter, List.mem_range]
/-! closed forms -/
theorem forE_fold {f : σ → T → M (Ex σ)} {g : σ → T → σ} : ∀ {ys : List T} {x : σ}, (∀ y ∈ ys, ∀ x, f x y = mret (.nx (g x y))) → forE f ys x = mret (.nx (ys.foldl g x))
  | [], x, _ => rfl
  | y :: ys, x, h => by
    unfold forE
    rw [h y List.mem_cons_self, bnd_mret]
    exact forE_fold fun z hz => h z (List.mem_cons_of_mem _ hz)
/-- an invariant; α: what is walked in plain words -/
theorem forE_inv {f : σ → T → M (Ex σ)} {enc : α → T} {I : List α → σ → Prop} {xs : List α} {x0 : σ} (h0 : I [] x0) (hs : ∀ pre y post x, xs = pre ++ y :: post → I pre x → ∃ x', f x (enc y) = mret (.nx x') ∧ I (pre ++ [y]) x') :
    ∃ x', forE f (xs.map enc) x0 = mret (.nx x') ∧ I xs x' := by
  have key : ∀ (post pre : List α) (x : σ), xs = pre ++ post → I pre x → ∃ x', forE f (post.map enc) x = mret (.nx x') ∧ I xs x' := by
    intro post
    induction post with
    | nil => intro pre x e i; rw [List.append_nil] at e; subst e; exact ⟨x, rfl, i⟩
    | cons y post ih =>
      intro pre x e i
      obtain ⟨x1, e1, i1⟩ := hs pre y post x e i
      obtain ⟨x2, e2, i2⟩ := ih (pre ++ [y]) x1 (by rw [e, List.append_assoc]; rfl) i1
      refine ⟨x2, ?_, i2⟩
      rw [List.map_cons]
      unfold forE
      rw [e1, bnd_mret]; exact e2
  exact key xs [] x0 rfl h0
theorem bnd_for {f : σ → T → M (Ex σ)} {enc : α → T} {I : List α → σ → Prop} {xs : List α} {x0 : σ} {k : Ex σ → M β} {m : M β} (h0 : I [] x0) (hs : ∀ pre y post x, xs = pre ++ y :: post → I pre x → ∃ x', f x (enc y) = mret (.nx x') ∧ I (pre ++ [y]) x')
    (he : ∀ x, I xs x → k (.nx x) = m) : bnd (forE f (xs.map enc) x0) k = m := by
  obtain ⟨x', e, i⟩ := forE_inv (f := f) (enc := enc) (I := I) h0 hs
  rw [e, bnd_mret, he x' i]
theorem bndX_for {f : σ → T → M (Ex σ)} {enc : α → T} {I : List α → σ → Prop} {xs : List α} {x0 : σ} {k : σ → M (Ex τ)} {m : M (Ex τ)} (h0 : I [] x0) (hs : ∀ pre y post x, xs = pre ++ y :: post → I pre x → ∃ x', f x (enc y) = mret (.nx x') ∧ I (pre ++ [y]) x')
    (he : ∀ x, I xs x → k x = m) : bndX (forE f (xs.map enc) x0) k = m := by
  obtain ⟨x', e, i⟩ := forE_inv (f := f) (enc := enc) (I := I) h0 hs
  rw [e, bndX_nx, he x' i]
/-- a dict filled with a list's numbers -/
theorem forE_set {f : T → T → M (Ex T)} {xs l : List Nat} (hf : ∀ y ∈ xs, ∀ l : List Nat, l.length < 16777216 → f (dS l) (nT y) = mret (.nx (dS (insS l y)))) (hl : l.length + xs.length ≤ 16777216) : forE f (xs.map nT) (dS l) = mret (.nx (dS (insA l xs))) := by
  induction xs generalizing l with
  | nil => rfl
  | cons y xs ih =>
    simp only [List.length_cons] at hl
    rw [List.map_cons]
    unfold forE
    rw [hf y List.mem_cons_self l (by omega), bnd_mret]
    exact ih (fun z hz => hf z (List.mem_cons_of_mem _ hz)) (by have := len_insS l y; omega)
/-- append what passes -/
theorem forE_app {f : T → T → M (Ex T)} {enc : α → T} {o : α → Option T} {xs : List α} {acc : List T} (h : ∀ y ∈ xs, ∀ acc : List T, acc.length < 16777216 → f (.lst acc) (enc y) = mret (.nx (.lst (acc ++ (o y).toList)))) (hl : acc.length + xs.length ≤ 16777216) :
    forE f (xs.map enc) (.lst acc) = mret (.nx (.lst (acc ++ xs.filterMap o))) := by
  induction xs generalizing acc with
  | nil => simp [forE]
  | cons y xs ih =>
    simp only [List.length_cons] at hl
    rw [List.map_cons]
    unfold forE
    rw [h y List.mem_cons_self acc (by omega), bnd_mret]
    have := ih (acc := acc ++ (o y).toList) (fun z hz => h z (List.mem_cons_of_mem _ hz)) (by cases o y <;> simp <;> omega)
    dsimp only
    rw [this]
    cases e : o y <;> simp [e]
theorem filterMap_if {p : α → Bool} {h : α → β} (xs : List α) : xs.filterMap (fun x => if p x = true then some (h x) else none) = (xs.filter p).map h := by
  induction xs with
  | nil => rfl
  | cons x xs ih =>
    rw [List.filterMap_cons, List.filter_cons]
    cases e : p x <;> simp [ih]
theorem forE_flt {f : T → T → M (Ex T)} {enc : α → T} {p : α → Bool} {h : α → T} {xs : List α} (hf : ∀ y ∈ xs, ∀ acc : List T, acc.length < 16777216 → f (.lst acc) (enc y) = mret (.nx (.lst (if p y = true then acc ++ [h y] else acc)))) (hl : xs.length ≤ 16777216) :
    forE f (xs.map enc) (.lst []) = mret (.nx (.lst ((xs.filter p).map h))) := by
  rw [forE_app (o := fun x => if p x = true then some (h x) else none) (acc := []) (fun y hy acc ha => by rw [hf y hy acc ha]; cases p y <;> simp) (by simpa using hl), filterMap_if]; rfl
/-- out of the loop at the first that does not pass -/
theorem forE_all {f : σ → T → M (Ex σ)} {enc : α → T} {p : α → Bool} {v : T} {x : σ} {xs : List α} (hf : ∀ y ∈ xs, f x (enc y) = if p y = true then mret (.nx x) else mret (.rt v)) :
    forE f (xs.map enc) x = if xs.all p = true then mret (.nx x) else mret (.rt v) := by
  induction xs with
  | nil => rfl
  | cons y xs ih =>
    rw [List.map_cons]
    unfold forE
    rw [hf y List.mem_cons_self]
    cases e : p y
    · simp [e]
    · simp only [e, if_true, bnd_mret, List.all_cons, Bool.true_and]
      exact ih fun z hz => hf z (List.mem_cons_of_mem _ hz)
theorem lcM_fm {g : T → M (Option T)} {enc : α → T} {o : α → Option T} {xs : List α} {acc : List T} (h : ∀ y ∈ xs, g (enc y) = mret (o y)) (hl : acc.length + xs.length ≤ 16777216) : lcM g (xs.map enc) acc = mret (.lst (acc ++ xs.filterMap o)) := by
  induction xs generalizing acc with
  | nil => simp [lcM]
  | cons y xs ih =>
    simp only [List.length_cons] at hl
    rw [List.map_cons]
    unfold lcM
    rw [h y List.mem_cons_self, noex_mret, bnd_mret]
    cases e : o y with
    | none =>
      dsimp only
      rw [ih (fun z hz => h z (List.mem_cons_of_mem _ hz)) (by omega)]
      simp [e]
    | some v =>
      dsimp only
      rw [if_pos (by rw [sizeLine_eq]; omega), ih (acc := acc ++ [v]) (fun z hz => h z (List.mem_cons_of_mem _ hz)) (by simp; omega)]
      simp [e]
theorem lcM_map {g : T → M (Option T)} {enc : α → T} {h : α → T} {xs : List α} (hg : ∀ y ∈ xs, g (enc y) = mret (some (h y))) (hl : xs.length ≤ 16777216) : lcM g (xs.map enc) [] = mret (.lst (xs.map h)) := by
  rw [lcM_fm (o := fun x => some (h x)) hg (by simpa using hl)]
  simp
theorem lcM_flt {g : T → M (Option T)} {enc : α → T} {p : α → Bool} {h : α → T} {xs : List α} (hg : ∀ y ∈ xs, g (enc y) = if p y = true then mret (some (h y)) else mret none) (hl : xs.length ≤ 16777216) : lcM g (xs.map enc) [] = mret (.lst ((xs.filter p).map h)) := by
  rw [lcM_fm (o := fun x => if p x = true then some (h x) else none) (fun y hy => by rw [hg y hy]; cases p y <;> rfl) (by simpa using hl), filterMap_if]; rfl
/-! with draws -/
theorem wp_for {f : σ → T → M (Ex σ)} {enc : α → T} {I : List α → σ → Drw → Prop} {xs : List α} {x0 : σ} {s : Drw} {Q : Ex σ → Drw → Prop} (h0 : I [] x0 s)
    (hs : ∀ pre y post x s, xs = pre ++ y :: post → I pre x s → wp (f x (enc y)) s fun r s' => match r with | .nx x' => I (pre ++ [y]) x' s' | .bk x' => Q (.nx x') s' | .rt v => Q (.rt v) s')
    (he : ∀ x s, I xs x s → Q (.nx x) s) : wp (forE f (xs.map enc) x0) s Q := by
  have key : ∀ (post pre : List α) (x : σ) (s : Drw), xs = pre ++ post → I pre x s → wp (forE f (post.map enc) x) s Q := by
    intro post
    induction post with
    | nil => intro pre x s e i; rw [List.append_nil] at e; subst e; exact wp_ret (he x s i)
    | cons y post ih =>
      intro pre x s e i
      rw [List.map_cons]
      unfold forE
      refine wp_bnd ((hs pre y post x s e i).imp fun r s' q => ?_)
      cases r with
      | nx x' => exact ih (pre ++ [y]) x' s' (by rw [e, List.append_assoc]; rfl) q
      | bk x' => exact wp_ret q
      | rt v => exact wp_ret q
  exact key xs [] x0 s rfl h0
theorem wp_lc {g : T → M (Option T)} {enc : α → T} {I : List α → List T → Drw → Prop} {xs : List α} {s : Drw} {Q : T → Drw → Prop} (h0 : I [] [] s)
    (hs : ∀ pre y post acc s, xs = pre ++ y :: post → I pre acc s → wp (g (enc y)) s fun o s' => match o with | none => I (pre ++ [y]) acc s' | some v => acc.length < 16777216 ∧ I (pre ++ [y]) (acc ++ [v]) s')
    (he : ∀ acc s, I xs acc s → Q (.lst acc) s) : wp (lcM g (xs.map enc) []) s Q := by
  have key : ∀ (post pre : List α) (acc : List T) (s : Drw), xs = pre ++ post → I pre acc s → wp (lcM g (post.map enc) acc) s Q := by
    intro post
    induction post with
    | nil => intro pre acc s e i; rw [List.append_nil] at e; subst e; exact wp_ret (he acc s i)
    | cons y post ih =>
      intro pre acc s e i
      rw [List.map_cons]
      unfold lcM
      refine wp_bnd (wp_noex ((hs pre y post acc s e i).imp fun r s' q => ?_))
      cases r with
      | none => exact ih (pre ++ [y]) acc s' (by rw [e, List.append_assoc]; rfl) q
      | some v =>
        dsimp only
        rw [if_pos (by rw [sizeLine_eq]; exact q.1)]
        exact ih (pre ++ [y]) (acc ++ [v]) s' (by rw [e, List.append_assoc]; rfl) q.2
  exact key xs [] [] s rfl h0
theorem wp_bndX {m : M (Ex τ)} {f : τ → M (Ex σ)} {s : Drw} {Q : Ex σ → Drw → Prop} (h : wp m s fun r s' => match r with | .nx x => wp (f x) s' Q | .bk _ => False | .rt v => Q (.rt v) s') : wp (bndX m f) s Q := by
  refine wp_bnd (h.imp fun r s' q => ?_)
  cases r with
  | nx x => exact q
  | bk x => exact q.elim
  | rt v => exact wp_ret q
theorem wp_eq {m : M α} {a : α} {s : Drw} {Q : α → Drw → Prop} (e : m = mret a) (h : Q a s) : wp m s Q := by rw [e]; exact wp_ret h
end
end FM

namespace FM
open PySem PySem.Spec PyProof.Rows L2 EV
/-! ### sorted, by naturals -/
theorem ii_toNat {l : List Int} (h : ∀ x ∈ l, 0 ≤ x) : ii (l.map Int.toNat) = l := by
  unfold ii
  rw [List.map_map]
  refine (List.map_congr_left fun x hx => ?_).trans (List.map_id l)
  have := h x hx
  simp only [Function.comp, id]
  omega
theorem toNat_ii (l : List Nat) : (ii l).map Int.toNat = l := by
  unfold ii
  rw [List.map_map]
  refine (List.map_congr_left fun x _ => ?_).trans (List.map_id l)
  simp
theorem ii_nn {l : List Nat} {x : Int} (h : x ∈ ii l) : 0 ≤ x := by
  unfold ii at h
  obtain ⟨n, _, rfl⟩ := List.mem_map.mp h
  omega
def srtI (l : List Nat) : List Nat := (sortI (ii l)).map Int.toNat
theorem srtI_ii (l : List Nat) : ii (srtI l) = sortI (ii l) := ii_toNat fun x hx => ii_nn ((sortI_perm _).mem_iff.mp hx)
theorem srtI_perm (l : List Nat) : (srtI l).Perm l := by
  have := (sortI_perm (ii l)).map Int.toNat
  rw [toNat_ii] at this
  exact this
theorem srtI_pw (l : List Nat) : (srtI l).Pairwise (· ≤ ·) := by
  have := sortI_pw (ii l)
  rw [← srtI_ii] at this
  unfold ii at this
  rw [List.pairwise_map] at this
  exact this.imp fun {a b} h => by omega
theorem sorted_nTl (l : List Nat) : sortedT [.lst (l.map nT)] = some (.lst ((srtI l).map nT)) := by
  rw [nT_map, sortedT_ints, ← srtI_ii, ← nT_map]
theorem sorted_nsT {l : List Nat} (h : l.length < 64) : sortedT [nsT l] = some (.lst ((srtI l).map nT)) := by
  unfold nsT sortedT
  simp only
  rw [nT_map, intsT_map, Option.bind_some, if_pos (by unfold ii; rw [List.length_map]; exact h), ← srtI_ii, ← nT_map]
def srtN (X : List (List Nat)) : List (List Nat) := (sortT (X.map ii)).map fun l => l.map Int.toNat
theorem srtN_ii (X : List (List Nat)) : (srtN X).map ii = sortT (X.map ii) := by
  unfold srtN
  rw [List.map_map]
  refine (List.map_congr_left fun l hl => ?_).trans (List.map_id _)
  have := (sortT_perm _).mem_iff.mp hl
  obtain ⟨m, _, rfl⟩ := List.mem_map.mp this
  simp only [Function.comp, toNat_ii, id]
theorem ii_inj {a b : List Nat} (h : ii a = ii b) : a = b := by rw [← toNat_ii a, h, toNat_ii]
theorem srtN_perm (X : List (List Nat)) : (srtN X).Perm X := by
  have := (sortT_perm (X.map ii)).map (fun l : List Int => l.map Int.toNat)
  rw [List.map_map] at this
  have e : X.map ((fun l : List Int => l.map Int.toNat) ∘ ii) = X := (List.map_congr_left fun x _ => toNat_ii x).trans (List.map_id X)
  rw [e] at this
  exact this
def lxN (a b : List Nat) : Bool := HT.lexLt (ii a) (ii b)
theorem srtN_pw (X : List (List Nat)) : (srtN X).Pairwise (fun x y => lxN y x = false) := by
  have := sortT_pw (X.map ii)
  rw [← srtN_ii, List.pairwise_map] at this
  exact this
theorem sorted_nsTl (X : List (List Nat)) : sortedT [.lst (X.map nsT)] = some (.lst ((srtN X).map nsT)) := by
  cases X with
  | nil => rfl
  | cons x X =>
    have h1 : intsT ((x :: X).map nsT) = none := by unfold nsT; rfl
    have e : ∀ Y : List (List Nat), Y.map nsT = (Y.map ii).map tI := fun Y => by rw [List.map_map]; exact List.map_congr_left fun y _ => nsT_eq y
    unfold sortedT
    simp only [h1]
    rw [e, tupsT_map, Option.map_some, ← srtN_ii, ← e]
theorem inT_n (n : Bool) (a : Nat) (l : List Nat) : inT n (.int (a : Int)) (nsT l) = some (.bl (xor n (l.contains a))) := inT_nT n a l
theorem inT_nl (n : Bool) (a : Nat) (l : List Nat) : inT n (.int (a : Int)) (.lst (l.map nT)) = some (.bl (xor n (l.contains a))) := inT_nTl n a l
theorem dS_setI {l : List Nat} {n : Nat} (h : l.length < 16777216) : setT (dS l) (.int (n : Int)) (.bl true) = some (dS (insS l n)) := dS_set h
theorem indexT_n (l : List Nat) (a : Nat) (h : a ∈ l) : indexT (l.map nT) (.int (a : Int)) = some (nT (l.idxOf a)) := indexT_nT l a h
/-! slices -/
theorem sl_take {l : List Nat} {n : Nat} : slT (nsT l) none (some (n : Int)) = some (nsT (l.take n)) := by
  unfold nsT slT cutT
  dsimp only
  rw [HT.sIx_none, HT.sIx_nat, List.drop_zero, Nat.sub_zero, List.map_take]
  congr 2
  rw [List.length_map]
  by_cases h : n ≤ l.length
  · rw [Nat.min_eq_left h]
  · rw [Nat.min_eq_right (by omega), List.take_of_length_le (by simp), List.take_of_length_le (by simp; omega)]
theorem sl_drop {l : List Nat} {n : Nat} : slT (nsT l) (some (n : Int)) none = some (nsT (l.drop n)) := by
  unfold nsT slT cutT
  dsimp only
  rw [HT.sIx_none, HT.sIx_nat, List.map_drop]
  congr 2
  rw [List.length_map]
  by_cases h : n ≤ l.length
  · rw [Nat.min_eq_left h, List.take_of_length_le (by simp)]
  · rw [Nat.min_eq_right (by omega), List.drop_of_length_le (by simp), List.drop_of_length_le (by simp; omega)]; simp
theorem add_nsT {a b : List Nat} (h : a.length + b.length ≤ 16777216) : addT (nsT a) (nsT b) = some (nsT (a ++ b)) := by
  unfold nsT
  rw [addT_tup (by simpa using h), List.map_append]
/-! bits -/
theorem testBit_int (m i : Nat) : decide (Builtin.bitAnd ((m : Int) / 2 ^ (i : Int).toNat) 1 = 1) = m.testBit i := by
  rw [Nat.testBit_eq_decide_div_mod_eq, bitAnd_m1, Int.toNat_natCast]
  have e : (m : Int) / 2 ^ i % 2 = ((m / 2 ^ i % 2 : Nat) : Int) := by push_cast; rfl
  rw [e]
  congr 1
  exact propext ⟨fun h => by omega, fun h => by omega⟩
def bitsN (many m : Nat) : List Nat := (List.range many).filter m.testBit
def CL (many : Nat) : List (List Nat) := srtN ((List.range (2 ^ many)).map (bitsN many))
def maskOf (c : List Nat) : Nat := c.foldr (fun r a => 2 ^ r ||| a) 0
theorem mask_bit (c : List Nat) (i : Nat) : (maskOf c).testBit i = c.contains i := by
  induction c with
  | nil => simp [maskOf]
  | cons r c ih =>
    unfold maskOf at ih ⊢
    rw [List.foldr_cons, Nat.testBit_or, ih, Nat.testBit_two_pow, List.contains_cons]
    congr 1
    exact Bool.eq_iff_iff.mpr ⟨fun h => by simp at h ⊢; exact h.symm, fun h => by simp at h ⊢; exact h.symm⟩
theorem mask_lt {c : List Nat} {many : Nat} (h : ∀ r ∈ c, r < many) : maskOf c < 2 ^ many := by
  induction c with
  | nil => exact Nat.two_pow_pos _
  | cons r c ih =>
    unfold maskOf at ih ⊢
    rw [List.foldr_cons]
    exact Nat.or_lt_two_pow (Nat.pow_lt_pow_right (by decide) (h r List.mem_cons_self)) (ih fun x hx => h x (List.mem_cons_of_mem _ hx))
/-- ascending lists with the same members are the same -/
theorem asc_ext {a b : List Nat} (ha : a.Pairwise (· < ·)) (hb : b.Pairwise (· < ·)) (h : ∀ x, x ∈ a ↔ x ∈ b) : a = b :=
  perm_eq (fun x y h1 h2 => by omega) ((List.perm_ext_iff_of_nodup (ha.imp fun {x y} z => Nat.ne_of_lt z) (hb.imp fun {x y} z => Nat.ne_of_lt z)).mpr h) ha hb
theorem bits_pw (many m : Nat) : (bitsN many m).Pairwise (· < ·) := List.Pairwise.filter _ List.pairwise_lt_range
theorem mem_CL {c : List Nat} {many : Nat} : c ∈ CL many ↔ c.Pairwise (· < ·) ∧ ∀ r ∈ c, r < many := by
  unfold CL
  rw [(srtN_perm _).mem_iff, List.mem_map]
  constructor
  · rintro ⟨m, _, rfl⟩
    refine ⟨bits_pw _ _, fun r hr => ?_⟩
    unfold bitsN at hr
    exact List.mem_range.mp (List.mem_filter.mp hr).1
  · rintro ⟨h1, h2⟩
    refine ⟨maskOf c, List.mem_range.mpr (mask_lt h2), asc_ext (bits_pw _ _) h1 fun x => ?_⟩
    unfold bitsN
    rw [List.mem_filter, mask_bit, List.contains_iff_mem, List.mem_range]
    exact ⟨fun h => h.2, fun h => ⟨h2 x h, h⟩⟩
theorem CL_len (many : Nat) : (CL many).length = 2 ^ many := by
  unfold CL
  rw [(srtN_perm _).length_eq]; simp
/-! equal plain data -/
mutual
def exT : Nat → T → Bool
  | _, .non => true
  | _, .bl _ => true
  | _, .int _ => true
  | _, .str _ => true
  | n + 1, .tup xs => decide (xs.length < 1000000000) && exTs n xs
  | _, _ => false
def exTs : Nat → List T → Bool
  | _, [] => true
  | n, x :: xs => exT n x && exTs n xs
end
theorem exTs_at : ∀ {n : Nat} {xs : List T} {i : Nat} {v : T}, exTs n xs = true → xs[i]? = some v → exT n v = true
  | n, x :: xs, 0, v, h, e => by
    simp only [exTs, Bool.and_eq_true] at h
    simp at e; subst e; exact h.1
  | n, x :: xs, i + 1, v, h, e => by
    simp only [exTs, Bool.and_eq_true] at h
    exact exTs_at h.2 (by simpa using e)
  | n, [], i, v, h, e => by simp at e
theorem exTs_map {α : Type} {n : Nat} {f : α → T} : ∀ {xs : List α}, (∀ x ∈ xs, exT n (f x) = true) → exTs n (xs.map f) = true
  | [], _ => by simp [exTs]
  | x :: xs, h => by
    simp only [List.map_cons, exTs, Bool.and_eq_true]
    exact ⟨h x List.mem_cons_self, exTs_map fun y hy => h y (List.mem_cons_of_mem _ hy)⟩
theorem exT_tup {n : Nat} {xs : List T} (h : exTs n xs = true) (hl : xs.length < 1000000000) : exT (n + 1) (.tup xs) = true := by
  simp only [exT, Bool.and_eq_true, decide_eq_true_eq]; exact ⟨hl, h⟩
theorem exT_nT (n m : Nat) : exT n (nT m) = true := by cases n <;> rfl
theorem exT_int (n : Nat) (m : Int) : exT n (.int m) = true := by cases n <;> rfl
theorem exT_nsT {n : Nat} {l : List Nat} (h : l.length < 1000000000) : exT (n + 1) (nsT l) = true := exT_tup (exTs_map fun x _ => exT_nT n x) (by simpa using h)
/-! more closed forms -/
section
variable {α β σ : Type}
theorem forE_enc {f : σ → T → M (Ex σ)} {enc : α → T} {st : β → σ} {g : β → α → β} {xs : List α} {b : β} (h : ∀ y ∈ xs, ∀ b, f (st b) (enc y) = mret (.nx (st (g b y)))) : forE f (xs.map enc) (st b) = mret (.nx (st (xs.foldl g b))) := by
  induction xs generalizing b with
  | nil => rfl
  | cons y xs ih =>
    rw [List.map_cons]
    unfold forE
    rw [h y List.mem_cons_self b, bnd_mret]
    exact ih fun z hz => h z (List.mem_cons_of_mem _ hz)
theorem forE_find {f : σ → T → M (Ex σ)} {enc : α → T} {p : α → Bool} {v : α → T} {x : σ} {xs : List α} (hf : ∀ y ∈ xs, f x (enc y) = if p y = true then mret (.rt (v y)) else mret (.nx x)) :
    forE f (xs.map enc) x = match xs.find? p with | some y => mret (.rt (v y)) | none => mret (.nx x) := by
  induction xs with
  | nil => rfl
  | cons y xs ih =>
    rw [List.map_cons]
    unfold forE
    rw [hf y List.mem_cons_self, List.find?_cons]
    cases e : p y
    · simp only [Bool.false_eq_true, if_false, bnd_mret]
      exact ih fun z hz => hf z (List.mem_cons_of_mem _ hz)
    · simp
end
def optT : Option Nat → T
  | some n => nT n
  | none => .non
theorem find_getD {α : Type} {p : α → Bool} {xs : List α} (d : α) (h : 0 < (xs.filter p).length) : xs.find? p = some ((xs.filter p).getD 0 d) := by
  induction xs with
  | nil => simp at h
  | cons x xs ih =>
    rw [List.find?_cons]
    cases e : p x
    · rw [List.filter_cons_of_neg (by simp [e])] at h ⊢; exact ih h
    · rw [List.filter_cons_of_pos e]; rfl
theorem find_none {α : Type} {p : α → Bool} {xs : List α} (h : (xs.filter p).length = 0) : xs.find? p = none := by
  rw [List.find?_eq_none]
  have := List.filter_eq_nil_iff.mp (List.length_eq_zero_iff.mp h)
  exact this
theorem cmpT_nTl (n : Bool) (a b : List Nat) : cmpT n (.lst (a.map nT)) (.lst (b.map nT)) = some (.bl (xor n (a == b))) := by
  unfold cmpT; simp only
  rw [if_pos ⟨okTs_nT _ _, okTs_nT _ _⟩, eqTs_nT]
theorem mxT_ints {f : List Int → Int} {g : Int → Int → Int} {l : List Int} (h : 0 < l.length) : mxT f g [.lst (l.map T.int)] = some (.int (f l)) := by
  unfold mxT; simp only
  rw [intsT_map, Option.bind_some, if_pos h]
theorem mxT_nT {f : List Int → Int} {g : Int → Int → Int} {l : List Nat} (h : 0 < l.length) : mxT f g [.lst (l.map nT)] = some (.int (f (ii l))) := by
  rw [nT_map]; exact mxT_ints (by simpa [ii] using h)
theorem minL_perm {a b : List Int} (h : a.Perm b) : minL a = minL b := by
  rcases Nat.eq_zero_or_pos a.length with e | e
  · have ha := List.length_eq_zero_iff.mp e
    subst ha
    rw [List.nil_perm.mp h]
  · have hb : 0 < b.length := by rw [← h.length_eq]; exact e
    exact minL_eq (h.mem_iff.mp (minL_in e)) fun y hy => minL_le (h.mem_iff.mpr hy)
theorem srtN_eq {X Y : List (List Nat)} (h : X.Perm Y) : srtN X = srtN Y := by
  unfold srtN
  rw [sortT_eq (l := Y.map ii) (l' := sortT (X.map ii)) ((sortT_perm _).trans (h.map ii)) (sortT_pw _)]
theorem exT_optT (n : Nat) (o : Option Nat) : exT n (optT o) = true := by cases o <;> cases n <;> rfl
end FM

namespace FM
open PySem PySem.Spec PyProof.Rows L2 EV
section
variable {σ τ : Type} {lp : Bool} {Γ : Gam} {P : σ → Gam}
/-! ### pops within a statement -/
/-- d pops from the owned list at slot j: m tells what is left and what came -/
def PP (σ : Type) (Γ : Gam) (j : Nat) (d : Den) (m : M (T × T)) : Prop := ∀ (lp : Bool) (P : σ → Gam) (k : T × T → M (Ex σ)) b F A t s, At b F A t Γ s → ∀ (D : EndsA), PS lp b P F A (bnd m k s) D → ∀ Q : VQ,
  (∀ x' y s1 w A1 F1, At b F1 A1 t (gset Γ j (.ow x')) s1 → rd F1 A1 y w → PS lp b P F1 A1 (k (x', y) s1) D → Q w A1) → d t A Q (fun e A1 => D.ex e t A1)
theorem pp_pop {j : Nat} {x : T} (hj : gat Γ j = .ow x) : PP σ Γ j (dMe (wM mPop) tyL (dVar j) aNil) (ofO (popT x)) := fun lp P k b F A t s a D p Q q => by
  cases x <;> first | exact p.elim | skip
  rename_i ts
  obtain ⟨n, vs, e, o, ea, r⟩ := ow_lst a hj
  refine ⟨_, e, ⟨n, vs, rfl, lstAt_of ea⟩, ?_⟩
  rw [wM_eq]
  simp only [popT] at p
  cases ey : ts[ts.length - 1]? with
  | none => rw [ey] at p; exact p.elim
  | some y =>
    rw [ey] at p
    obtain ⟨w, ew, rw'⟩ := rds_at r ey
    obtain ⟨st2, a2⟩ := at_mut (o := .lst vs.dropLast) (x' := .lst ts.dropLast) a hj e o (fun _ _ z => by rw [ea] at z; cases z) rfl fun hr => ⟨_, set_at ea, rds_dl (hr _ _ r)⟩
    exact .inl ⟨n, vs, w, rfl, rfl, ea, by rw [rds_len r]; exact ew, q _ y s w _ F a2 (rd_stp a.I st2 rw') (PS.up (r := k (.lst ts.dropLast, y) s) st2 p)⟩
open Classical in
noncomputable def popAT (x i : T) : Option (T × T) := match x, i with
  | .lst ts, .int i => if sm62 i then (seqIndex? i ts.length).bind fun k => (ts[k]?).map fun y => (.lst (ts.eraseIdx k), y) else none
  | _, _ => none
theorem rds_er {F : Nat → Prop} {A : AH} {ts : List T} {vs : List Val} (k : Nat) (r : rds F A ts vs) : rds F A (ts.eraseIdx k) (vs.eraseIdx k) := by
  rw [List.eraseIdx_eq_take_drop_succ, List.eraseIdx_eq_take_drop_succ]
  exact rds_app (rds_take _ r) (rds_drop _ r)
theorem pp_popA {j : Nat} {x : T} {d : Den} {m : M T} (hj : gat Γ j = .ow x) (h : RX .fz Γ d m) : PP σ Γ j (dMe (wM mPop) tyL (dVar j) (aCons d aNil)) (bnd (ofO (asL x)) fun _ => bnd m fun i => ofO (popAT x i)) := fun lp P k b F A t s a D p Q q => by
  cases x <;> first | exact p.elim | skip
  rename_i ts
  obtain ⟨n, vs, e, o, ea, r⟩ := ow_lst a hj
  refine ⟨_, e, ⟨n, vs, rfl, lstAt_of ea⟩, ?_⟩
  have p : PS lp b P F A (bnd m (fun i => bnd (ofO (popAT (.lst ts) i)) k) s) D := by
    have e : bnd (bnd (ofO (asL (.lst ts))) fun _ => bnd m fun i => ofO (popAT (.lst ts) i)) k = bnd m fun i => bnd (ofO (popAT (.lst ts) i)) k := by
      simp only [asL, ofO_some', bnd_mret, bnd_assoc']
    rw [e] at p; exact p
  refine h b F A t s a _ _ (PS.bind (f := fun i => bnd (ofO (popAT (.lst ts) i)) k) a p fun i s1 w A1 F1 st a1 r2 p1 => ?_)
  obtain ⟨n', vs', e', o', ea', r'⟩ := ow_lst a1 hj
  rw [e] at e'; cases e'
  cases i <;> first | (simp only [popAT] at p1; exact p1.elim) | skip
  rename_i i
  simp only [popAT] at p1
  simp only [Kd.rel, rd] at r2
  subst r2
  split at p1
  · rename_i hs
    cases ek : seqIndex? i ts.length with
    | none => rw [ek] at p1; exact p1.elim
    | some q' =>
      rw [ek] at p1
      simp only [Option.bind_some] at p1
      cases ey : ts[q']? with
      | none => rw [ey] at p1; exact p1.elim
      | some y =>
        rw [ey] at p1
        obtain ⟨w, ew, rw'⟩ := rds_at r' ey
        rw [wM_eq]
        obtain ⟨st2, a2⟩ := at_mut (o := .lst (vs'.eraseIdx q')) (x' := .lst (ts.eraseIdx q')) a1 hj e o' (fun _ _ z => by rw [ea'] at z; cases z) rfl fun hr => ⟨_, set_at ea', rds_er _ (hr _ _ r')⟩
        exact .inr ⟨n, vs', i, q', w, rfl, rfl, ea', hs, by rw [rds_len r']; exact ek, ew, q _ y s1 w _ F1 a2 (rd_stp a1.I st2 rw') (PS.up (r := k (.lst (ts.eraseIdx q'), y) s1) st2 p1)⟩
  · exact p1.elim
theorem rs_pp1 {i j : Nat} {d : Den} {m : M (T × T)} {rest : DenS} {k : T × T → M (Ex σ)} (h : PP σ Γ j d m) (hr : ∀ x' y, RS lp (gset (gset Γ j (.ow x')) i (.fz y)) rest P (k (x', y))) :
    RS lp Γ (sSeqB (sAsg d (gNameB i)) rest) P (bnd m k) := fun b F A t s a D p =>
  h lp P k b F A t s a _ p _ fun x' y s1 w A1 F1 a1 r p1 => s_kT rfl (hr x' y b F1 A1 _ s1 (a1.setF i r) D p1)
theorem rs_ppE {j : Nat} {d : Den} {m : M (T × T)} {rest : DenS} {k : T × T → M (Ex σ)} (h : PP σ Γ j d m) (hr : ∀ x' y, RS lp (gset Γ j (.ow x')) rest P (k (x', y))) :
    RS lp Γ (sSeqB (sExpr d) rest) P (bnd m k) := fun b F A t s a D p =>
  h lp P k b F A t s a _ p _ fun x' y s1 w A1 F1 a1 r p1 => hr x' y b F1 A1 _ s1 a1 D p1
theorem rs_pp2 {i1 i2 j : Nat} {d : Den} {m : M (T × T)} {rest : DenS} {k : T → T → T → M (Ex σ)} (h : PP σ Γ j d m) (hr : ∀ x' y z, RS lp (gset (gset (gset Γ j (.ow x')) i1 (.fz y)) i2 (.fz z)) rest P (k x' y z)) :
    RS lp Γ (sSeqB (sAsg d (gTup 2 (gsCons (gNameB i1) (gsCons (gNameB i2) gsNil)))) rest) P (bnd m fun r => un2 (k r.1) r.2) := fun b F A t s a D p =>
  h lp P _ b F A t s a _ p _ fun x' y s1 w A1 F1 a1 r p1 => by
    simp only at p1
    unfold un2 at p1
    split at p1
    · simp only [rd] at r
      obtain ⟨vs, rfl, v1, r1, rfl, h1, v2, r2, rfl, h2, rfl⟩ := r
      refine ⟨_, .inl rfl, rfl, v1, _, rfl, s_kT rfl ⟨v2, _, rfl, s_kT rfl ⟨rfl, ?_⟩⟩⟩
      exact hr _ _ _ b F1 A1 _ s1 ((a1.setF i1 h1).setF i2 h2) D p1
    · exact p1.elim
theorem rs_pp3 {i1 i2 i3 j : Nat} {d : Den} {m : M (T × T)} {rest : DenS} {k : T → T → T → T → M (Ex σ)} (h : PP σ Γ j d m) (hr : ∀ x' y z u, RS lp (gset (gset (gset (gset Γ j (.ow x')) i1 (.fz y)) i2 (.fz z)) i3 (.fz u)) rest P (k x' y z u)) :
    RS lp Γ (sSeqB (sAsg d (gTup 3 (gsCons (gNameB i1) (gsCons (gNameB i2) (gsCons (gNameB i3) gsNil))))) rest) P (bnd m fun r => un3 (k r.1) r.2) := fun b F A t s a D p =>
  h lp P _ b F A t s a _ p _ fun x' y s1 w A1 F1 a1 r p1 => by
    simp only at p1
    unfold un3 at p1
    split at p1
    · simp only [rd] at r
      obtain ⟨vs, rfl, v1, r1, rfl, h1, v2, r2, rfl, h2, v3, r3, rfl, h3, rfl⟩ := r
      refine ⟨_, .inl rfl, rfl, v1, _, rfl, s_kT rfl ⟨v2, _, rfl, s_kT rfl ⟨v3, _, rfl, s_kT rfl ⟨rfl, ?_⟩⟩⟩⟩
      exact hr _ _ _ _ b F1 A1 _ s1 (((a1.setF i1 h1).setF i2 h2).setF i3 h3) D p1
    · exact p1.elim
/-- found.append(left.pop(..)) -/
theorem rs_ppApp {i j : Nat} {x : T} {d : Den} {m : M (T × T)} {rest : DenS} {k : T → T → M (Ex σ)} (hij : j ≠ i) (hi : gat Γ i = .ow x) (h : PP σ Γ j d m) (hr : ∀ x' y, RS lp (gset (gset Γ j (.ow x')) i (.ow y)) rest P (k x' y)) :
    RS lp Γ (sSeqB (sExpr (dMe (wM mAppend) tyL (dVar i) (aCons d aNil))) rest) P (bnd (ofO (asL x)) fun ts => bnd m fun r => bnd (ofO (appT ts r.2)) fun y => k r.1 y) := fun b F A t s a D p => by
  cases x <;> first | exact p.elim | skip
  rename_i ts
  obtain ⟨n, vs, e, o, ea, r⟩ := ow_lst a hi
  refine ⟨_, e, ⟨n, vs, rfl, lstAt_of ea⟩, ?_⟩
  refine h lp P (fun r => bnd (ofO (appT ts r.2)) fun y => k r.1 y) b F A t s a D p _ fun x' y s1 w A1 F1 a1 r2 p1 => ?_
  have hi' : gat (gset Γ j (.ow x')) i = .ow (.lst ts) := by rw [gat_set, if_neg (fun z => hij z.1)]; exact hi
  obtain ⟨n', vs', e', o', ea', r'⟩ := ow_lst a1 hi'
  rw [e] at e'; cases e'
  simp only at p1
  unfold appT at p1
  split at p1
  · rename_i hl
    rw [wM_eq]
    obtain ⟨st2, a2⟩ := at_mut (o := .lst (vs' ++ [w])) (x' := .lst (ts ++ [y])) a1 hi' e o' (fun _ _ z => by rw [ea'] at z; cases z) rfl fun hr => ⟨_, set_at ea', rds_app (hr _ _ r') (hr _ _ (rds_one r2))⟩
    exact ⟨n, vs', w, rfl, rfl, ea', by rw [rds_len r']; exact hl, hr _ _ b F1 _ t s1 a2 D (PS.up (r := k x' (.lst (ts ++ [y])) s1) st2 p1)⟩
  · exact p1.elim
/-! ### targets within targets -/
theorem tb2_2 {i j k : Nat} {body : DenS} {L : τ → Gam} {m : T → T → T → M (Ex τ)} (h : ∀ x y z, RS true (gset (gset (gset Γ i (.fz x)) j (.fz y)) k (.fz z)) body L (m x y z)) : TB Γ (gTup 2 (gsCons (gNameB i) (gsCons (gTup 2 (gsCons (gNameB j) (gsCons (gNameB k) gsNil))) gsNil))) body L (un2 fun x => un2 (m x)) := fun x v b F A t s a r D p => by
  unfold un2 at p
  split at p
  · rename_i x y
    simp only at p
    split at p
    · rename_i y z
      simp only [rd] at r
      obtain ⟨vs, rfl, v1, r1, rfl, h1, v2, r2, rfl, ⟨ws, rfl, w1, s1, rfl, g1, w2, s2, rfl, g2, rfl⟩, rfl⟩ := r
      refine ⟨_, .inl rfl, rfl, v1, _, rfl, s_kT rfl ⟨_, _, rfl, _, .inl rfl, rfl, w1, _, rfl, s_kT rfl ⟨w2, _, rfl, s_kT rfl ⟨rfl, rfl, ?_⟩⟩⟩⟩
      exact h x y z b F A _ s (((a.setF i h1).setF j g1).setF k g2) D p
    · exact p.elim
  · exact p.elim
theorem tb2_3 {i j k l : Nat} {body : DenS} {L : τ → Gam} {m : T → T → T → T → M (Ex τ)} (h : ∀ x y z u, RS true (gset (gset (gset (gset Γ i (.fz x)) j (.fz y)) k (.fz z)) l (.fz u)) body L (m x y z u)) : TB Γ (gTup 2 (gsCons (gNameB i) (gsCons (gTup 3 (gsCons (gNameB j) (gsCons (gNameB k) (gsCons (gNameB l) gsNil)))) gsNil))) body L (un2 fun x => un3 (m x)) := fun x v b F A t s a r D p => by
  unfold un2 at p
  split at p
  · rename_i x y
    simp only at p
    unfold un3 at p
    split at p
    · rename_i y z u
      simp only [rd] at r
      obtain ⟨vs, rfl, v1, r1, rfl, h1, v2, r2, rfl, ⟨ws, rfl, w1, s1, rfl, g1, w2, s2, rfl, g2, w3, s3, rfl, g3, rfl⟩, rfl⟩ := r
      refine ⟨_, .inl rfl, rfl, v1, _, rfl, s_kT rfl ⟨_, _, rfl, _, .inl rfl, rfl, w1, _, rfl, s_kT rfl ⟨w2, _, rfl, s_kT rfl ⟨w3, _, rfl, s_kT rfl ⟨rfl, rfl, ?_⟩⟩⟩⟩⟩
      exact h x y z u b F A _ s ((((a.setF i h1).setF j g1).setF k g2).setF l g3) D p
    · exact p.elim
  · exact p.elim
end
/-! ### ranges with a step -/
theorem rng3_down {i j : Int} (h1 : -(2 ^ 62) ≤ i) (h2 : i < 2 ^ 62) (h3 : -(2 ^ 62) ≤ j) (h4 : j < 2 ^ 62) : rng3T [.int i, .int j, .int (-1)] = some (rngT i (-1) (i - j).toNat) := by
  have e : (Builtin.Range.rangeSize i j (-1)).toNat = (i - j).toNat := by rw [PySem.W.rangeSize_downNat, Int.toNat_natCast]
  unfold rng3T
  simp only
  rw [e, if_pos (RgC.neg h1 h2 h3 h4)]
theorem size_up {i j : Int} {c : Nat} (hc : 0 < c) : Builtin.Range.rangeSize i j c = (((j - i).toNat + (c - 1)) / c : Nat) := by
  unfold Builtin.Range.rangeSize
  rw [if_pos (by omega)]
  by_cases h : i < j
  · rw [if_pos h]
    obtain ⟨n, hn⟩ : ∃ n : Nat, j - i = n + 1 := ⟨(j - i - 1).toNat, by omega⟩
    rw [hn, show ((n : Int) + 1 - 1) = n by omega, show ((n : Int) + 1).toNat + (c - 1) = n + c by omega, Nat.add_div_right _ hc]
    push_cast; rfl
  · rw [if_neg h, show (j - i).toNat = 0 by omega, Nat.zero_add, Nat.div_eq_of_lt (by omega)]; rfl
theorem rng3_up {i j : Int} {c : Nat} (hc : 0 < c) (hc2 : c < 1000000) (h1 : -(2 ^ 61) ≤ i) (h2 : i < 2 ^ 61) (h3 : -(2 ^ 61) ≤ j) (h4 : j < 2 ^ 61) : rng3T [.int i, .int j, .int (c : Int)] = some (rngT i c (((j - i).toNat + (c - 1)) / c)) := by
  have e : (Builtin.Range.rangeSize i j c).toNat = ((j - i).toNat + (c - 1)) / c := by rw [size_up hc, Int.toNat_natCast]
  unfold rng3T
  simp only
  have hs : Builtin.Range.small i j c = true := by
    have hz := size_up (i := i) (j := j) hc
    have hd : ((j - i).toNat + (c - 1)) / c ≤ (j - i).toNat + (c - 1) := Nat.div_le_self _ _
    unfold Builtin.Range.small
    generalize ((j - i).toNat + (c - 1)) / c = q at hd hz
    rw [hz, if_pos (show (c : Int) > 0 by omega)]
    simp only [Builtin.Range.rangeFitsLong, Bool.and_eq_true, Bool.or_eq_true, decide_eq_true_eq]
    refine ⟨⟨⟨⟨⟨by omega, by omega⟩, by omega, by omega⟩, by omega, by omega⟩, by omega, by omega⟩, .inr ⟨by omega, by omega⟩⟩
  rw [e, if_pos ⟨by omega, by omega, hs, size_up hc⟩]
end FM

namespace K12
open PySem PySem.Spec PyProof.Rows L2 EV
def topS (i : Nat) : Stmt := PySem.Challenge.pw_veiledcircles_k12_links_judged.main.body.getD i (.Pass ⟨0, 0, 0, 0⟩)
/-! _law_begin -/
def n__law_begin : List Str := ["script"]
theorem sc__law_begin : FnScope n__law_begin ["script"] (defScope (topS 7)) := ⟨rfl, rfl, rfl, by decide +kernel, rfl, by decide +kernel, by decide +kernel⟩
noncomputable def d__law_begin : DenS :=
  sSeqB (sRet (dLstB (aCons (dCB (wN oList) (aCons (dVar 0) aNil)) (aCons (dLit (.int 0)) (aCons (dLit (.int 0)) (aCons (dLit (.int 7)) (aCons (dLit (.int 0)) aNil))))))) <|
  sSkip
@[irreducible] noncomputable def fn__law_begin : FDen := fDen 1 1 d__law_begin
theorem e__law_begin : fn__law_begin = fDen 1 1 d__law_begin := by rw [fn__law_begin]
theorem c__law_begin : compSs 60 ⟨n__law_begin, defScope (topS 7), [], [], []⟩ (defBody (topS 7)) = some d__law_begin := by rfl
/-! _law_draw -/
def n__law_draw : List Str := ["d", "many", "cell", "found"]
theorem sc__law_draw : FnScope n__law_draw ["d", "many"] (defScope (topS 8)) := ⟨rfl, rfl, rfl, by decide +kernel, rfl, by decide +kernel, by decide +kernel⟩
noncomputable def d__law_draw : DenS :=
  sSeqB (sIfB (tVal (dOp (wO (oOrd (fun i j => decide (i < j)))) (dVar 1) (dLit (.int 2))))
  (sSeqB (sRet (dLit (.int 0))) <|
    sSkip)
  (sSkip)) <|
  sSeqB (sAsg (dOp (wO oAdd) (dOp (wO oMul) (dOp (wO oIx) (dVar 0) (dLit (.int 4))) (dLit (.int 977))) (dLit (.int 3))) (gNameB 2)) <|
  sSeqB (sIfB (tAndB (tVal (dOp (wO (oEq false)) (dOp (wO oIx) (dVar 0) (dLit (.int 2))) (dLit (.int 0)))) (tVal (dOp (wO (oOrd (fun i j => decide (i < j)))) (dOp (wO oIx) (dVar 0) (dLit (.int 1))) (dCB (wN oLen) (aCons (dOp (wO oIx) (dVar 0) (dLit (.int 0))) aNil)))))
  (sSeqB (sAsg (dOp (wO oIx) (dOp (wO oIx) (dVar 0) (dLit (.int 0))) (dOp (wO oIx) (dVar 0) (dLit (.int 1)))) (gNameB 2)) <|
    sSeqB (sAsg (dOp (wO oAdd) (dOp (wO oIx) (dVar 0) (dLit (.int 1))) (dLit (.int 1))) (gSub (dVar 0) (dLit (.int 1)) (wT oSet))) <|
    sSeqB (sIfB (tVal (dOp (wO (oOrd (fun i j => decide (i < j)))) (dVar 2) (dLit (.int 0))))
    (sSeqB (sAsg (dOp (wO (oInt (· - ·))) (dLit (.int 5)) (dOp (wO oMul) (dLit (.int 3)) (dVar 2))) (gNameB 2)) <|
      sSkip)
    (sSkip)) <|
    sSeqB (sIfB (tVal (dOp (wO (oOrd (fun i j => decide (j ≤ i)))) (dVar 2) (dLit (.int 1000000000000000000))))
    (sSeqB (sAsg (dOp (wO (oInt Builtin.bitAnd)) (dVar 2) (dOp (wO (oInt (· - ·))) (dOp (wO (oIntC CPow (fun i j => i * 2 ^ j.toNat))) (dLit (.int 1)) (dLit (.int 1400))) (dLit (.int 1)))) (gNameB 2)) <|
      sSeqB (sAsg (dVar 2) (gSub (dVar 0) (dLit (.int 2)) (wT oSet))) <|
      sSkip)
    (sSkip)) <|
    sSkip)
  (sSkip)) <|
  sSeqB (sIfB (tVal (dOp (wO (oOrd (fun i j => decide (j < i)))) (dOp (wO oIx) (dVar 0) (dLit (.int 2))) (dLit (.int 0))))
  (sSeqB (sAsg (dOp (wO (oIntC (fun _ j => 0 < j) (· % ·))) (dCB (wN oIntC1) (aCons (dOp (wO oIx) (dVar 0) (dLit (.int 2))) aNil)) (dVar 1)) (gNameB 3)) <|
    sSeqB (sAsg (dOp (wO (oIntC CDivW (· / ·))) (dOp (wO oIx) (dVar 0) (dLit (.int 2))) (dVar 1)) (gSub (dVar 0) (dLit (.int 2)) (wT oSet))) <|
    sSeqB (sRet (dVar 3)) <|
    sSkip)
  (sSkip)) <|
  sSeqB (sAsg (dOp (wO oAdd) (dOp (wO oIx) (dVar 0) (dLit (.int 4))) (dLit (.int 1))) (gSub (dVar 0) (dLit (.int 4)) (wT oSet))) <|
  sSeqB (sAsg (dOp (wO (oIntC (fun _ j => 0 < j) (· % ·))) (dCB (wN oIntC1) (aCons (dOp (wO oAdd) (dOp (wO oAdd) (dOp (wO oMul) (dOp (wO oIx) (dVar 0) (dLit (.int 3))) (dLit (.int 48271))) (dOp (wO oMul) (dVar 2) (dLit (.int 69621)))) (dOp (wO oMul) (dOp (wO oIx) (dVar 0) (dLit (.int 4))) (dLit (.int 7919)))) aNil)) (dLit (.int 2147483647))) (gSub (dVar 0) (dLit (.int 3)) (wT oSet))) <|
  sSeqB (sRet (dOp (wO (oIntC (fun _ j => 0 < j) (· % ·))) (dCB (wN oIntC1) (aCons (dOp (wO (oIntC (fun _ j => 0 < j) (· % ·))) (dCB (wN oIntC1) (aCons (dOp (wO oAdd) (dOp (wO oAdd) (dOp (wO oMul) (dOp (wO oIx) (dVar 0) (dLit (.int 3))) (dLit (.int 40692))) (dOp (wO oMul) (dOp (wO oIx) (dVar 0) (dLit (.int 4))) (dLit (.int 101)))) (dLit (.int 12345))) aNil)) (dLit (.int 2147483399))) aNil)) (dVar 1))) <|
  sSkip
@[irreducible] noncomputable def fn__law_draw : FDen := fDen 4 2 d__law_draw
theorem e__law_draw : fn__law_draw = fDen 4 2 d__law_draw := by rw [fn__law_draw]
theorem c__law_draw : compSs 60 ⟨n__law_draw, defScope (topS 8), [], [], []⟩ (defBody (topS 8)) = some d__law_draw := by rfl
/-! _law_pick -/
def n__law_pick : List Str := ["d", "row"]
theorem sc__law_pick : FnScope n__law_pick ["d", "row"] (defScope (topS 9)) := ⟨rfl, rfl, rfl, by decide +kernel, rfl, by decide +kernel, by decide +kernel⟩
noncomputable def d__law_pick : DenS :=
  sSeqB (sRet (dOp (wO oIx) (dVar 1) (dCall fn__law_draw (aCons (dVar 0) (aCons (dCB (wN oLen) (aCons (dVar 1) aNil)) aNil))))) <|
  sSkip
@[irreducible] noncomputable def fn__law_pick : FDen := fDen 2 2 d__law_pick
theorem e__law_pick : fn__law_pick = fDen 2 2 d__law_pick := by rw [fn__law_pick]
theorem c__law_pick : compSs 60 ⟨n__law_pick, defScope (topS 9), [⟨"_law_draw", 1, fn__law_draw⟩], [], []⟩ (defBody (topS 9)) = some d__law_pick := by rfl
/-! _law_fill_set -/
def n__law_fill_set : List Str := ["d", "turns", "sizes", "s", "found", "turn", "one", "many"]
theorem sc__law_fill_set : FnScope n__law_fill_set ["d", "turns"] (defScope (topS 14)) := ⟨rfl, rfl, rfl, by decide +kernel, rfl, by decide +kernel, by decide +kernel⟩
noncomputable def d__law_fill_set : DenS :=
  sSeqB (sAsg (dLcB (iRng1 (aCons (dCall fn__law_pick (aCons (dVar 0) (aCons (dLstB (aCons (dLit (.int 2)) (aCons (dLit (.int 1)) (aCons (dLit (.int 3)) (aCons (dLit (.int 2)) (aCons (dLit (.int 6)) aNil)))))) aNil))) aNil)) (.one 3) tYesV (dCall fn__law_pick (aCons (dVar 0) (aCons (dLstB (aCons (dLit (.int 2)) (aCons (dLit (.int 3)) (aCons (dLit (.int 1)) (aCons (dLit (.int 4)) aNil))))) aNil))) [3]) (gNameB 2)) <|
  sSeqB (sAsg (dLstB aNil) (gNameB 4)) <|
  sSeqB (sForB (iRng1 (aCons (dVar 1) aNil)) (gNameB 5)
  (sSeqB (sAsg (dCB (wN oTuple) (aCons (dLcB (iVal (dVar 2)) (.one 7) tYesV (dCall fn__law_draw (aCons (dVar 0) (aCons (dVar 7) aNil))) [7]) aNil)) (gNameB 6)) <|
    sSeqB (sIfB (tVal (dOp (wO (oIn true)) (dVar 6) (dVar 4)))
    (sSeqB (sExpr (dMe (wM mAppend) tyL (dVar 4) (aCons (dVar 6) aNil))) <|
      sSkip)
    (sSkip)) <|
    sSkip)) <|
  sSeqB (sRet (dTup (aCons (dVar 2) (aCons (dCB (wN oTuple) (aCons (dCB (wN oSorted) (aCons (dVar 4) aNil)) aNil)) aNil)))) <|
  sSkip
@[irreducible] noncomputable def fn__law_fill_set : FDen := fDen 8 2 d__law_fill_set
theorem e__law_fill_set : fn__law_fill_set = fDen 8 2 d__law_fill_set := by rw [fn__law_fill_set]
theorem c__law_fill_set : compSs 60 ⟨n__law_fill_set, defScope (topS 14), [⟨"_law_pick", 2, fn__law_pick⟩, ⟨"_law_draw", 1, fn__law_draw⟩], [], []⟩ (defBody (topS 14)) = some d__law_fill_set := by rfl
/-! _law_fill_counts -/
def n__law_fill_counts : List Str := ["d", "sizes", "fillings", "great", "counts", "s", "met", "one", "row", "shape", "low"]
theorem sc__law_fill_counts : FnScope n__law_fill_counts ["d", "sizes", "fillings", "great"] (defScope (topS 15)) := ⟨rfl, rfl, rfl, by decide +kernel, rfl, by decide +kernel, by decide +kernel⟩
noncomputable def d__law_fill_counts : DenS :=
  sSeqB (sAsg (dLstB aNil) (gNameB 4)) <|
  sSeqB (sForB (iRng1 (aCons (dCB (wN oLen) (aCons (dVar 1) aNil)) aNil)) (gNameB 5)
  (sSeqB (sAsg (dLcB (iVal (dVar 2)) (.one 7) tYesV (dOp (wO oIx) (dVar 7) (dVar 5)) [7]) (gNameB 6)) <|
    sSeqB (sAsg (dLstB aNil) (gNameB 8)) <|
    sSeqB (sForB (iRng1 (aCons (dOp (wO oIx) (dVar 1) (dVar 5)) aNil)) (gNameB 9)
    (sSeqB (sAsg (dIfB (tVal (dOp (wO (oIn false)) (dVar 9) (dVar 6))) (dLit (.int 1)) (dLit (.int 0))) (gNameB 10)) <|
      sSeqB (sExpr (dMe (wM mAppend) tyL (dVar 8) (aCons (dOp (wO oAdd) (dVar 10) (dCall fn__law_draw (aCons (dVar 0) (aCons (dVar 3) aNil)))) aNil))) <|
      sSkip)) <|
    sSeqB (sExpr (dMe (wM mAppend) tyL (dVar 4) (aCons (dCB (wN oTuple) (aCons (dVar 8) aNil)) aNil))) <|
    sSkip)) <|
  sSeqB (sRet (dCB (wN oTuple) (aCons (dVar 4) aNil))) <|
  sSkip
@[irreducible] noncomputable def fn__law_fill_counts : FDen := fDen 11 4 d__law_fill_counts
theorem e__law_fill_counts : fn__law_fill_counts = fDen 11 4 d__law_fill_counts := by rw [fn__law_fill_counts]
theorem c__law_fill_counts : compSs 60 ⟨n__law_fill_counts, defScope (topS 15), [⟨"_law_draw", 1, fn__law_draw⟩], [], []⟩ (defBody (topS 15)) = some d__law_fill_counts := by rfl
/-! _law_numbered -/
def n__law_numbered : List Str := ["values", "seen", "found", "value"]
theorem sc__law_numbered : FnScope n__law_numbered ["values"] (defScope (topS 13)) := ⟨rfl, rfl, rfl, by decide +kernel, rfl, by decide +kernel, by decide +kernel⟩
noncomputable def d__law_numbered : DenS :=
  sSeqB (sAsg (dLstB aNil) (gNameB 1)) <|
  sSeqB (sAsg (dLstB aNil) (gNameB 2)) <|
  sSeqB (sForB (iVal (dVar 0)) (gNameB 3)
  (sSeqB (sIfB (tVal (dOp (wO (oIn true)) (dVar 3) (dVar 1)))
    (sSeqB (sExpr (dMe (wM mAppend) tyL (dVar 1) (aCons (dVar 3) aNil))) <|
      sSkip)
    (sSkip)) <|
    sSeqB (sExpr (dMe (wM mAppend) tyL (dVar 2) (aCons (dMe (wM mIndex) tyL (dVar 1) (aCons (dVar 3) aNil)) aNil))) <|
    sSkip)) <|
  sSeqB (sRet (dCB (wN oTuple) (aCons (dVar 2) aNil))) <|
  sSkip
@[irreducible] noncomputable def fn__law_numbered : FDen := fDen 4 1 d__law_numbered
theorem e__law_numbered : fn__law_numbered = fDen 4 1 d__law_numbered := by rw [fn__law_numbered]
theorem c__law_numbered : compSs 60 ⟨n__law_numbered, defScope (topS 13), [], [], []⟩ (defBody (topS 13)) = some d__law_numbered := by rfl
/-! _law_marks -/
def n__law_marks : List Str := ["d", "n", "many", "k"]
theorem sc__law_marks : FnScope n__law_marks ["d", "n"] (defScope (topS 16)) := ⟨rfl, rfl, rfl, by decide +kernel, rfl, by decide +kernel, by decide +kernel⟩
noncomputable def d__law_marks : DenS :=
  sSeqB (sAsg (dCall fn__law_pick (aCons (dVar 0) (aCons (dLstB (aCons (dLit (.int 2)) (aCons (dLit (.int 1)) (aCons (dLit (.int 3)) (aCons (dVar 1) aNil))))) aNil))) (gNameB 2)) <|
  sSeqB (sRet (dCall fn__law_numbered (aCons (dLcB (iRng1 (aCons (dVar 1) aNil)) (.one 3) tYesV (dCall fn__law_draw (aCons (dVar 0) (aCons (dVar 2) aNil))) [3]) aNil))) <|
  sSkip
@[irreducible] noncomputable def fn__law_marks : FDen := fDen 4 2 d__law_marks
theorem e__law_marks : fn__law_marks = fDen 4 2 d__law_marks := by rw [fn__law_marks]
theorem c__law_marks : compSs 60 ⟨n__law_marks, defScope (topS 16), [⟨"_law_pick", 2, fn__law_pick⟩, ⟨"_law_numbered", 1, fn__law_numbered⟩, ⟨"_law_draw", 1, fn__law_draw⟩], [], []⟩ (defBody (topS 16)) = some d__law_marks := by rfl
/-! _law_opens -/
def n__law_opens : List Str := ["d", "fillings", "row", "found", "mark", "lot", "k", "told", "s", "one"]
theorem sc__law_opens : FnScope n__law_opens ["d", "fillings", "row"] (defScope (topS 17)) := ⟨rfl, rfl, rfl, by decide +kernel, rfl, by decide +kernel, by decide +kernel⟩
noncomputable def d__law_opens : DenS :=
  sSeqB (sAsg (dLstB aNil) (gNameB 3)) <|
  sSeqB (sForB (iRng1 (aCons (dOp (wO oAdd) (dLit (.int 1)) (dCB (wN oMax) (aCons (dVar 2) aNil))) aNil)) (gNameB 4)
  (sSeqB (sAsg (dLcB (iRng1 (aCons (dCB (wN oLen) (aCons (dVar 2) aNil)) aNil)) (.one 6) (tVal (dOp (wO (oEq false)) (dOp (wO oIx) (dVar 2) (dVar 6)) (dVar 4))) (dOp (wO oIx) (dVar 1) (dVar 6)) [6]) (gNameB 5)) <|
    sSeqB (sAsg (dLstB aNil) (gNameB 7)) <|
    sSeqB (sForB (iRng1 (aCons (dCB (wN oLen) (aCons (dOp (wO oIx) (dVar 1) (dLit (.int 0))) aNil)) aNil)) (gNameB 8)
    (sSeqB (sIfB (tAndB (tVal (dOp (wO (oEq false)) (dCB (wN oLen) (aCons (dLcB (iVal (dVar 5)) (.one 9) (tVal (dOp (wO (oEq true)) (dOp (wO oIx) (dVar 9) (dVar 8)) (dOp (wO oIx) (dOp (wO oIx) (dVar 5) (dLit (.int 0))) (dVar 8)))) (dVar 9) [9]) aNil)) (dLit (.int 0)))) (tVal (dOp (wO (oEq false)) (dCall fn__law_draw (aCons (dVar 0) (aCons (dLit (.int 3)) aNil))) (dLit (.int 1)))))
      (sSeqB (sExpr (dMe (wM mAppend) tyL (dVar 7) (aCons (dVar 8) aNil))) <|
        sSkip)
      (sSkip)) <|
      sSkip)) <|
    sSeqB (sExpr (dMe (wM mAppend) tyL (dVar 3) (aCons (dCB (wN oTuple) (aCons (dVar 7) aNil)) aNil))) <|
    sSkip)) <|
  sSeqB (sRet (dCB (wN oTuple) (aCons (dVar 3) aNil))) <|
  sSkip
@[irreducible] noncomputable def fn__law_opens : FDen := fDen 10 3 d__law_opens
theorem e__law_opens : fn__law_opens = fDen 10 3 d__law_opens := by rw [fn__law_opens]
theorem c__law_opens : compSs 60 ⟨n__law_opens, defScope (topS 17), [⟨"_law_draw", 1, fn__law_draw⟩], [], []⟩ (defBody (topS 17)) = some d__law_opens := by rfl
/-! _law_ledger -/
def n__law_ledger : List Str := ["d", "turns", "readers", "sizes", "fillings", "counts", "marks", "opens", "r", "row"]
theorem sc__law_ledger : FnScope n__law_ledger ["d", "turns", "readers"] (defScope (topS 18)) := ⟨rfl, rfl, rfl, by decide +kernel, rfl, by decide +kernel, by decide +kernel⟩
noncomputable def d__law_ledger : DenS :=
  sSeqB (sAsg (dCall fn__law_fill_set (aCons (dVar 0) (aCons (dVar 1) aNil))) (gTup 2 (gsCons (gNameB 3) (gsCons (gNameB 4) gsNil)))) <|
  sSeqB (sAsg (dCall fn__law_fill_counts (aCons (dVar 0) (aCons (dVar 3) (aCons (dVar 4) (aCons (dCall fn__law_pick (aCons (dVar 0) (aCons (dLstB (aCons (dLit (.int 3)) (aCons (dLit (.int 3)) (aCons (dLit (.int 5)) (aCons (dLit (.int 1000000000000)) aNil))))) aNil))) aNil))))) (gNameB 5)) <|
  sSeqB (sAsg (dLstB aNil) (gNameB 6)) <|
  sSeqB (sAsg (dLstB aNil) (gNameB 7)) <|
  sSeqB (sForB (iRng1 (aCons (dVar 2) aNil)) (gNameB 8)
  (sSeqB (sAsg (dCall fn__law_marks (aCons (dVar 0) (aCons (dCB (wN oLen) (aCons (dVar 4) aNil)) aNil))) (gNameB 9)) <|
    sSeqB (sExpr (dMe (wM mAppend) tyL (dVar 6) (aCons (dVar 9) aNil))) <|
    sSeqB (sExpr (dMe (wM mAppend) tyL (dVar 7) (aCons (dCall fn__law_opens (aCons (dVar 0) (aCons (dVar 4) (aCons (dVar 9) aNil)))) aNil))) <|
    sSkip)) <|
  sSeqB (sRet (dTup (aCons (dVar 4) (aCons (dVar 5) (aCons (dCB (wN oTuple) (aCons (dVar 6) aNil)) (aCons (dCB (wN oTuple) (aCons (dVar 7) aNil)) aNil)))))) <|
  sSkip
@[irreducible] noncomputable def fn__law_ledger : FDen := fDen 10 3 d__law_ledger
theorem e__law_ledger : fn__law_ledger = fDen 10 3 d__law_ledger := by rw [fn__law_ledger]
theorem c__law_ledger : compSs 60 ⟨n__law_ledger, defScope (topS 18), [⟨"_law_fill_set", 3, fn__law_fill_set⟩, ⟨"_law_fill_counts", 2, fn__law_fill_counts⟩, ⟨"_law_pick", 2, fn__law_pick⟩, ⟨"_law_marks", 3, fn__law_marks⟩, ⟨"_law_opens", 2, fn__law_opens⟩], [], []⟩ (defBody (topS 18)) = some d__law_ledger := by rfl
/-! _law_circle -/
def n__law_circle : List Str := ["d", "many", "r"]
theorem sc__law_circle : FnScope n__law_circle ["d", "many"] (defScope (topS 12)) := ⟨rfl, rfl, rfl, by decide +kernel, rfl, by decide +kernel, by decide +kernel⟩
noncomputable def d__law_circle : DenS :=
  sSeqB (sRet (dCB (wN oTuple) (aCons (dLcB (iRng1 (aCons (dVar 1) aNil)) (.one 2) (tVal (dOp (wO (oOrd (fun i j => decide (j < i)))) (dCall fn__law_draw (aCons (dVar 0) (aCons (dLit (.int 3)) aNil))) (dLit (.int 0)))) (dVar 2) [2]) aNil))) <|
  sSkip
@[irreducible] noncomputable def fn__law_circle : FDen := fDen 3 2 d__law_circle
theorem e__law_circle : fn__law_circle = fDen 3 2 d__law_circle := by rw [fn__law_circle]
theorem c__law_circle : compSs 60 ⟨n__law_circle, defScope (topS 12), [⟨"_law_draw", 1, fn__law_draw⟩], [], []⟩ (defBody (topS 12)) = some d__law_circle := by rfl
/-! _law_walk -/
def n__law_walk : List Str := ["d", "ledger", "circle", "j", "walk", "turn", "r", "near", "n"]
theorem sc__law_walk : FnScope n__law_walk ["d", "ledger", "circle", "j"] (defScope (topS 21)) := ⟨rfl, rfl, rfl, by decide +kernel, rfl, by decide +kernel, by decide +kernel⟩
noncomputable def d__law_walk : DenS :=
  sSeqB (sAsg (dLstB (aCons (dVar 3) aNil)) (gNameB 4)) <|
  sSeqB (sForB (iRng1 (aCons (dCall fn__law_draw (aCons (dVar 0) (aCons (dLit (.int 7)) aNil))) aNil)) (gNameB 5)
  (sSeqB (sAsg (dIfB (tAndB (tTru (dVar 2)) (tVal (dOp (wO (oOrd (fun i j => decide (j < i)))) (dCall fn__law_draw (aCons (dVar 0) (aCons (dLit (.int 8)) aNil))) (dLit (.int 0))))) (dCall fn__law_pick (aCons (dVar 0) (aCons (dVar 2) aNil))) (dCall fn__law_draw (aCons (dVar 0) (aCons (dCB (wN oLen) (aCons (dOp (wO oIx) (dVar 1) (dLit (.int 2))) aNil)) aNil)))) (gNameB 6)) <|
    sSeqB (sAsg (dLcB (iRng1 (aCons (dCB (wN oLen) (aCons (dOp (wO oIx) (dVar 1) (dLit (.int 0))) aNil)) aNil)) (.one 8) (tVal (dOp (wO (oEq false)) (dOp (wO oIx) (dOp (wO oIx) (dOp (wO oIx) (dVar 1) (dLit (.int 2))) (dVar 6)) (dVar 8)) (dOp (wO oIx) (dOp (wO oIx) (dOp (wO oIx) (dVar 1) (dLit (.int 2))) (dVar 6)) (dOp (wO oIx) (dVar 4) (dUn (wU oNeg) (dLit (.int 1))))))) (dVar 8) [8]) (gNameB 7)) <|
    sSeqB (sAsg (dOp (wO oAdd) (dVar 4) (dLstB (aCons (dVar 6) (aCons (dCall fn__law_pick (aCons (dVar 0) (aCons (dVar 7) aNil))) aNil)))) (gNameB 4)) <|
    sSkip)) <|
  sSeqB (sRet (dVar 4)) <|
  sSkip
@[irreducible] noncomputable def fn__law_walk : FDen := fDen 9 4 d__law_walk
theorem e__law_walk : fn__law_walk = fDen 9 4 d__law_walk := by rw [fn__law_walk]
theorem c__law_walk : compSs 60 ⟨n__law_walk, defScope (topS 21), [⟨"_law_draw", 1, fn__law_draw⟩, ⟨"_law_pick", 2, fn__law_pick⟩], [], []⟩ (defBody (topS 21)) = some d__law_walk := by rfl
/-! _law_bent -/
def n__law_bent : List Str := ["d", "row", "kind", "at"]
theorem sc__law_bent : FnScope n__law_bent ["d", "row"] (defScope (topS 22)) := ⟨rfl, rfl, rfl, by decide +kernel, rfl, by decide +kernel, by decide +kernel⟩
noncomputable def d__law_bent : DenS :=
  sSeqB (sAsg (dCall fn__law_draw (aCons (dVar 0) (aCons (dLit (.int 6)) aNil))) (gNameB 2)) <|
  sSeqB (sIfB (tAndB (tVal (dOp (wO (oEq false)) (dVar 2) (dLit (.int 0)))) (tTru (dVar 1)))
  (sSeqB (sAsg (dCall fn__law_draw (aCons (dVar 0) (aCons (dCB (wN oLen) (aCons (dVar 1) aNil)) aNil))) (gNameB 3)) <|
    sSeqB (sRet (dOp (wO oAdd) (dOp (wO oAdd) (dSl (dVar 1) pNo (pSo (dVar 3))) (dLstB (aCons (dOp (wO (oInt (· - ·))) (dCall fn__law_draw (aCons (dVar 0) (aCons (dLit (.int 14)) aNil))) (dLit (.int 1))) aNil))) (dSl (dVar 1) (pSo (dOp (wO oAdd) (dVar 3) (dLit (.int 1)))) pNo))) <|
    sSkip)
  (sSkip)) <|
  sSeqB (sIfB (tVal (dOp (wO (oEq false)) (dVar 2) (dLit (.int 1))))
  (sSeqB (sRet (dSl (dVar 1) pNo (pSo (dUn (wU oNeg) (dLit (.int 1)))))) <|
    sSkip)
  (sSkip)) <|
  sSeqB (sIfB (tVal (dOp (wO (oEq false)) (dVar 2) (dLit (.int 2))))
  (sSeqB (sRet (dOp (wO oAdd) (dVar 1) (dLstB (aCons (dOp (wO (oInt (· - ·))) (dCall fn__law_draw (aCons (dVar 0) (aCons (dLit (.int 14)) aNil))) (dLit (.int 1))) aNil)))) <|
    sSkip)
  (sSkip)) <|
  sSeqB (sRet (dIfB (tAndB (tVal (dOp (wO (oEq false)) (dVar 2) (dLit (.int 3)))) (tVal (dOp (wO (oEq false)) (dCall fn__law_draw (aCons (dVar 0) (aCons (dLit (.int 3)) aNil))) (dLit (.int 1))))) (dLstB aNil) (dVar 1))) <|
  sSkip
@[irreducible] noncomputable def fn__law_bent : FDen := fDen 4 2 d__law_bent
theorem e__law_bent : fn__law_bent = fDen 4 2 d__law_bent := by rw [fn__law_bent]
theorem c__law_bent : compSs 60 ⟨n__law_bent, defScope (topS 22), [⟨"_law_draw", 1, fn__law_draw⟩], [], []⟩ (defBody (topS 22)) = some d__law_bent := by rfl
/-! _law_link_right -/
def n__law_link_right : List Str := ["ledger", "circle", "j", "k", "link", "many", "n"]
theorem sc__law_link_right : FnScope n__law_link_right ["ledger", "circle", "j", "k", "link"] (defScope (topS 19)) := ⟨rfl, rfl, rfl, by decide +kernel, rfl, by decide +kernel, by decide +kernel⟩
noncomputable def d__law_link_right : DenS :=
  sSeqB (sAsg (dCB (wN oLen) (aCons (dOp (wO oIx) (dVar 0) (dLit (.int 0))) aNil)) (gNameB 5)) <|
  sSeqB (sIfB (tOrB (tVal (dOp (wO (oEq false)) (dOp (wO (oInt Builtin.bitAnd)) (dCB (wN oLen) (aCons (dVar 4) aNil)) (dLit (.int 1))) (dLit (.int 0)))) (tOrB (tVal (dOp (wO (oEq true)) (dOp (wO oIx) (dVar 4) (dLit (.int 0))) (dVar 2))) (tVal (dOp (wO (oEq true)) (dOp (wO oIx) (dVar 4) (dUn (wU oNeg) (dLit (.int 1)))) (dVar 3)))))
  (sSeqB (sRet (dLit (.bl false))) <|
    sSkip)
  (sSkip)) <|
  sSeqB (sForB (iRng3 (aCons (dLit (.int 1)) (aCons (dCB (wN oLen) (aCons (dVar 4) aNil)) (aCons (dLit (.int 2)) aNil)))) (gNameB 6)
  (sSeqB (sIfB (tOrB (tVal (dOp (wO (oIn true)) (dOp (wO oIx) (dVar 4) (dVar 6)) (dVar 1))) (tVal (dOp (wO (oIn true)) (dOp (wO oIx) (dVar 4) (dOp (wO oAdd) (dVar 6) (dLit (.int 1)))) (dLR1 (dVar 5)))))
    (sSeqB (sRet (dLit (.bl false))) <|
      sSkip)
    (sSkip)) <|
    sSeqB (sIfB (tVal (dOp (wO (oEq true)) (dOp (wO oIx) (dOp (wO oIx) (dOp (wO oIx) (dVar 0) (dLit (.int 2))) (dOp (wO oIx) (dVar 4) (dVar 6))) (dOp (wO oIx) (dVar 4) (dOp (wO (oInt (· - ·))) (dVar 6) (dLit (.int 1))))) (dOp (wO oIx) (dOp (wO oIx) (dOp (wO oIx) (dVar 0) (dLit (.int 2))) (dOp (wO oIx) (dVar 4) (dVar 6))) (dOp (wO oIx) (dVar 4) (dOp (wO oAdd) (dVar 6) (dLit (.int 1)))))))
    (sSeqB (sRet (dLit (.bl false))) <|
      sSkip)
    (sSkip)) <|
    sSkip)) <|
  sSeqB (sRet (dLit (.bl true))) <|
  sSkip
@[irreducible] noncomputable def fn__law_link_right : FDen := fDen 7 5 d__law_link_right
theorem e__law_link_right : fn__law_link_right = fDen 7 5 d__law_link_right := by rw [fn__law_link_right]
theorem c__law_link_right : compSs 60 ⟨n__law_link_right, defScope (topS 19), [], [], []⟩ (defBody (topS 19)) = some d__law_link_right := by rfl
/-! _law_exact -/
def n__law_exact : List Str := ["told", "due", "k"]
theorem sc__law_exact : FnScope n__law_exact ["told", "due"] (defScope (topS 11)) := ⟨rfl, rfl, rfl, by decide +kernel, rfl, by decide +kernel, by decide +kernel⟩
noncomputable def d__law_exact (self : FDen) : DenS :=
  sSeqB (sIfB (tTru (dCB (wN oIsi) (aCons (dVar 1) (aCons (dLit (.ty "tuple")) aNil))))
  (sSeqB (sIfB (tOrB (tNot (tTru (dCB (wN oIsi) (aCons (dVar 0) (aCons (dLit (.ty "tuple")) aNil))))) (tVal (dOp (wO (oEq true)) (dCB (wN oLen) (aCons (dVar 0) aNil)) (dCB (wN oLen) (aCons (dVar 1) aNil)))))
    (sSeqB (sRet (dLit (.bl false))) <|
      sSkip)
    (sSkip)) <|
    sSeqB (sForB (iRng1 (aCons (dCB (wN oLen) (aCons (dVar 1) aNil)) aNil)) (gNameB 2)
    (sSeqB (sIfB (tNot (tTru (dCall self (aCons (dOp (wO oIx) (dVar 0) (dVar 2)) (aCons (dOp (wO oIx) (dVar 1) (dVar 2)) aNil)))))
      (sSeqB (sRet (dLit (.bl false))) <|
        sSkip)
      (sSkip)) <|
      sSkip)) <|
    sSeqB (sRet (dLit (.bl true))) <|
    sSkip)
  (sSkip)) <|
  sSeqB (sIfB (tVal (dOp (wO (oIs false)) (dVar 1) (dLit .non)))
  (sSeqB (sRet (dOp (wO (oIs false)) (dVar 0) (dLit .non))) <|
    sSkip)
  (sSkip)) <|
  sSeqB (sIfB (tTru (dCB (wN oIsi) (aCons (dVar 1) (aCons (dLit (.ty "bool")) aNil))))
  (sSeqB (sRet (dAndB (dCB (wN oIsi) (aCons (dVar 0) (aCons (dLit (.ty "bool")) aNil))) (dOp (wO (oEq false)) (dVar 0) (dVar 1)))) <|
    sSkip)
  (sSkip)) <|
  sSeqB (sIfB (tTru (dCB (wN oIsi) (aCons (dVar 1) (aCons (dLit (.ty "int")) aNil))))
  (sSeqB (sRet (dAndB (dCB (wN oIsi) (aCons (dVar 0) (aCons (dLit (.ty "int")) aNil))) (dAndB (dNotV (dCB (wN oIsi) (aCons (dVar 0) (aCons (dLit (.ty "bool")) aNil)))) (dOp (wO (oEq false)) (dVar 0) (dVar 1))))) <|
    sSkip)
  (sSkip)) <|
  sSeqB (sRet (dAndB (dCB (wN oIsi) (aCons (dVar 0) (aCons (dLit (.ty "str")) aNil))) (dOp (wO (oEq false)) (dVar 0) (dVar 1)))) <|
  sSkip
noncomputable def fn__law_exactN (n : Nat) : FDen := Nat.rec (fun _ _ _ _ => False) (fun _ ih => fDen 3 2 (d__law_exact ih)) n
theorem e__law_exact (n : Nat) : fn__law_exactN (n + 1) = fDen 3 2 (d__law_exact (fn__law_exactN n)) := rfl
@[irreducible] noncomputable def fn__law_exact : FDen := fn__law_exactN 12
theorem c__law_exact (l : Nat) (self : FDen) : compSs 60 ⟨n__law_exact, defScope (topS 11), [⟨"_law_exact", l, self⟩], [], []⟩ (defBody (topS 11)) = some (d__law_exact self) := by rfl
/-! judge_link -/
def n_judge_link : List Str := ["ledger", "circle", "j", "k", "link", "n", "reader", "behind"]
theorem sc_judge_link : FnScope n_judge_link ["ledger", "circle", "j", "k", "link"] (defScope (topS 4)) := ⟨rfl, rfl, rfl, by decide +kernel, rfl, by decide +kernel, by decide +kernel⟩
noncomputable def d_judge_link : DenS :=
  sSeqB (sIfB (tOrB (tVal (dOp (wO (oEq false)) (dOp (wO (oInt Builtin.bitAnd)) (dCB (wN oLen) (aCons (dVar 4) aNil)) (dLit (.int 1))) (dLit (.int 0)))) (tOrB (tVal (dOp (wO (oEq true)) (dOp (wO oIx) (dVar 4) (dLit (.int 0))) (dVar 2))) (tVal (dOp (wO (oEq true)) (dOp (wO oIx) (dVar 4) (dUn (wU oNeg) (dLit (.int 1)))) (dVar 3)))))
  (sSeqB (sRet (dLit (.bl false))) <|
    sSkip)
  (sSkip)) <|
  sSeqB (sForB (iRng3 (aCons (dLit (.int 1)) (aCons (dCB (wN oLen) (aCons (dVar 4) aNil)) (aCons (dLit (.int 2)) aNil)))) (gNameB 5)
  (sSeqB (sAsg (dOp (wO oIx) (dVar 4) (dVar 5)) (gNameB 6)) <|
    sSeqB (sAsg (dOp (wO oIx) (dVar 4) (dOp (wO oAdd) (dVar 5) (dLit (.int 1)))) (gNameB 7)) <|
    sSeqB (sIfB (tOrB (tVal (dOp (wO (oIn true)) (dVar 6) (dVar 1))) (tOrB (tVal (dOp (wO (oOrd (fun i j => decide (i < j)))) (dVar 7) (dLit (.int 0)))) (tVal (dOp (wO (oOrd (fun i j => decide (j ≤ i)))) (dVar 7) (dCB (wN oLen) (aCons (dOp (wO oIx) (dVar 0) (dLit (.int 0))) aNil))))))
    (sSeqB (sRet (dLit (.bl false))) <|
      sSkip)
    (sSkip)) <|
    sSeqB (sIfB (tVal (dOp (wO (oEq true)) (dOp (wO oIx) (dOp (wO oIx) (dOp (wO oIx) (dVar 0) (dLit (.int 2))) (dVar 6)) (dOp (wO oIx) (dVar 4) (dOp (wO (oInt (· - ·))) (dVar 5) (dLit (.int 1))))) (dOp (wO oIx) (dOp (wO oIx) (dOp (wO oIx) (dVar 0) (dLit (.int 2))) (dVar 6)) (dVar 7))))
    (sSeqB (sRet (dLit (.bl false))) <|
      sSkip)
    (sSkip)) <|
    sSkip)) <|
  sSeqB (sRet (dLit (.bl true))) <|
  sSkip
@[irreducible] noncomputable def fn_judge_link : FDen := fDen 8 5 d_judge_link
theorem e_judge_link : fn_judge_link = fDen 8 5 d_judge_link := by rw [fn_judge_link]
theorem c_judge_link : compSs 60 ⟨n_judge_link, defScope (topS 4), [], [], []⟩ (defBody (topS 4)) = some d_judge_link := by rfl
/-! _law_shuffled -/
def n__law_shuffled : List Str := ["d", "row", "left", "found"]
theorem sc__law_shuffled : FnScope n__law_shuffled ["d", "row"] (defScope (topS 10)) := ⟨rfl, rfl, rfl, by decide +kernel, rfl, by decide +kernel, by decide +kernel⟩
noncomputable def d__law_shuffled : DenS :=
  sSeqB (sAsg (dCB (wN oList) (aCons (dVar 1) aNil)) (gNameB 2)) <|
  sSeqB (sAsg (dLstB aNil) (gNameB 3)) <|
  sSeqB (sWhileB (tTru (dVar 2))
  (sSeqB (sExpr (dMe (wM mAppend) tyL (dVar 3) (aCons (dMe (wM mPop) tyL (dVar 2) (aCons (dCall fn__law_draw (aCons (dVar 0) (aCons (dCB (wN oLen) (aCons (dVar 2) aNil)) aNil))) aNil)) aNil))) <|
    sSkip)) <|
  sSeqB (sRet (dVar 3)) <|
  sSkip
@[irreducible] noncomputable def fn__law_shuffled : FDen := fDen 4 2 d__law_shuffled
theorem e__law_shuffled : fn__law_shuffled = fDen 4 2 d__law_shuffled := by rw [fn__law_shuffled]
theorem c__law_shuffled : compSs 60 ⟨n__law_shuffled, defScope (topS 10), [⟨"_law_draw", 1, fn__law_draw⟩], [], []⟩ (defBody (topS 10)) = some d__law_shuffled := by rfl
/-! _law_hedge_right -/
def n__law_hedge_right : List Str := ["ledger", "circle", "j", "k", "hedge", "many", "n", "one", "r"]
theorem sc__law_hedge_right : FnScope n__law_hedge_right ["ledger", "circle", "j", "k", "hedge"] (defScope (topS 20)) := ⟨rfl, rfl, rfl, by decide +kernel, rfl, by decide +kernel, by decide +kernel⟩
noncomputable def d__law_hedge_right : DenS :=
  sSeqB (sAsg (dCB (wN oLen) (aCons (dOp (wO oIx) (dVar 0) (dLit (.int 0))) aNil)) (gNameB 5)) <|
  sSeqB (sIfB (tOrB (tVal (dOp (wO (oIn true)) (dVar 2) (dVar 4))) (tOrB (tVal (dOp (wO (oIn false)) (dVar 3) (dVar 4))) (tTru (dLcB (iVal (dVar 4)) (.one 6) (tVal (dOp (wO (oIn true)) (dVar 6) (dLR1 (dVar 5)))) (dVar 6) [6]))))
  (sSeqB (sRet (dLit (.bl false))) <|
    sSkip)
  (sSkip)) <|
  sSeqB (sForB (iVal (dVar 4)) (gNameB 7)
  (sSeqB (sForB (iVal (dVar 1)) (gNameB 8)
    (sSeqB (sIfB (tTru (dLcB (iRng1 (aCons (dVar 5) aNil)) (.one 6) (tAndB (tVal (dOp (wO (oEq false)) (dOp (wO oIx) (dOp (wO oIx) (dOp (wO oIx) (dVar 0) (dLit (.int 2))) (dVar 8)) (dVar 6)) (dOp (wO oIx) (dOp (wO oIx) (dOp (wO oIx) (dVar 0) (dLit (.int 2))) (dVar 8)) (dVar 7)))) (tVal (dOp (wO (oIn true)) (dVar 6) (dVar 4)))) (dVar 6) [6]))
      (sSeqB (sRet (dLit (.bl false))) <|
        sSkip)
      (sSkip)) <|
      sSkip)) <|
    sSkip)) <|
  sSeqB (sRet (dLit (.bl true))) <|
  sSkip
@[irreducible] noncomputable def fn__law_hedge_right : FDen := fDen 9 5 d__law_hedge_right
theorem e__law_hedge_right : fn__law_hedge_right = fDen 9 5 d__law_hedge_right := by rw [fn__law_hedge_right]
theorem c__law_hedge_right : compSs 60 ⟨n__law_hedge_right, defScope (topS 20), [], [], []⟩ (defBody (topS 20)) = some d__law_hedge_right := by rfl
/-! lot_at -/
def n_lot_at : List Str := ["ledger", "circle", "k", "found", "n", "unlike", "reader"]
theorem sc_lot_at : FnScope n_lot_at ["ledger", "circle", "k"] (defScope (topS 1)) := ⟨rfl, rfl, rfl, by decide +kernel, rfl, by decide +kernel, by decide +kernel⟩
noncomputable def d_lot_at : DenS :=
  sSeqB (sAsg (dLstB aNil) (gNameB 3)) <|
  sSeqB (sForB (iRng1 (aCons (dCB (wN oLen) (aCons (dOp (wO oIx) (dVar 0) (dLit (.int 0))) aNil)) aNil)) (gNameB 4)
  (sSeqB (sAsg (dLcB (iVal (dVar 1)) (.one 6) (tVal (dOp (wO (oEq true)) (dOp (wO oIx) (dOp (wO oIx) (dOp (wO oIx) (dVar 0) (dLit (.int 2))) (dVar 6)) (dVar 4)) (dOp (wO oIx) (dOp (wO oIx) (dOp (wO oIx) (dVar 0) (dLit (.int 2))) (dVar 6)) (dVar 2)))) (dVar 6) [6]) (gNameB 5)) <|
    sSeqB (sIfB (tNot (tTru (dVar 5)))
    (sSeqB (sExpr (dMe (wM mAppend) tyL (dVar 3) (aCons (dVar 4) aNil))) <|
      sSkip)
    (sSkip)) <|
    sSkip)) <|
  sSeqB (sRet (dCB (wN oTuple) (aCons (dVar 3) aNil))) <|
  sSkip
@[irreducible] noncomputable def fn_lot_at : FDen := fDen 7 3 d_lot_at
theorem e_lot_at : fn_lot_at = fDen 7 3 d_lot_at := by rw [fn_lot_at]
theorem c_lot_at : compSs 60 ⟨n_lot_at, defScope (topS 1), [], [], []⟩ (defBody (topS 1)) = some d_lot_at := by rfl
/-! steps_from -/
def n_steps_from : List Str := ["ledger", "circle", "k", "found", "reader", "n"]
theorem sc_steps_from : FnScope n_steps_from ["ledger", "circle", "k"] (defScope (topS 3)) := ⟨rfl, rfl, rfl, by decide +kernel, rfl, by decide +kernel, by decide +kernel⟩
noncomputable def d_steps_from : DenS :=
  sSeqB (sAsg (dLstB aNil) (gNameB 3)) <|
  sSeqB (sForB (iVal (dVar 1)) (gNameB 4)
  (sSeqB (sForB (iVal (dCall fn_lot_at (aCons (dVar 0) (aCons (dTup (aCons (dVar 4) aNil)) (aCons (dVar 2) aNil))))) (gNameB 5)
    (sSeqB (sExpr (dMe (wM mAppend) tyL (dVar 3) (aCons (dTup (aCons (dVar 4) (aCons (dVar 5) aNil))) aNil))) <|
      sSkip)) <|
    sSkip)) <|
  sSeqB (sRet (dVar 3)) <|
  sSkip
@[irreducible] noncomputable def fn_steps_from : FDen := fDen 6 3 d_steps_from
theorem e_steps_from : fn_steps_from = fDen 6 3 d_steps_from := by rw [fn_steps_from]
theorem c_steps_from : compSs 60 ⟨n_steps_from, defScope (topS 3), [⟨"lot_at", 1, fn_lot_at⟩], [], []⟩ (defBody (topS 3)) = some d_steps_from := by rfl
/-! judge_hedge -/
def n_judge_hedge : List Str := ["ledger", "circle", "j", "k", "hedge", "one", "reader", "n"]
theorem sc_judge_hedge : FnScope n_judge_hedge ["ledger", "circle", "j", "k", "hedge"] (defScope (topS 5)) := ⟨rfl, rfl, rfl, by decide +kernel, rfl, by decide +kernel, by decide +kernel⟩
noncomputable def d_judge_hedge : DenS :=
  sSeqB (sIfB (tOrB (tVal (dOp (wO (oIn true)) (dVar 2) (dVar 4))) (tVal (dOp (wO (oIn false)) (dVar 3) (dVar 4))))
  (sSeqB (sRet (dLit (.bl false))) <|
    sSkip)
  (sSkip)) <|
  sSeqB (sForB (iVal (dVar 4)) (gNameB 5)
  (sSeqB (sIfB (tOrB (tVal (dOp (wO (oOrd (fun i j => decide (i < j)))) (dVar 5) (dLit (.int 0)))) (tVal (dOp (wO (oOrd (fun i j => decide (j ≤ i)))) (dVar 5) (dCB (wN oLen) (aCons (dOp (wO oIx) (dVar 0) (dLit (.int 0))) aNil)))))
    (sSeqB (sRet (dLit (.bl false))) <|
      sSkip)
    (sSkip)) <|
    sSkip)) <|
  sSeqB (sForB (iVal (dVar 4)) (gNameB 5)
  (sSeqB (sForB (iVal (dCall fn_steps_from (aCons (dVar 0) (aCons (dVar 1) (aCons (dVar 5) aNil))))) (gTup 2 (gsCons (gNameB 6) (gsCons (gNameB 7) gsNil)))
    (sSeqB (sIfB (tVal (dOp (wO (oIn true)) (dVar 7) (dVar 4)))
      (sSeqB (sRet (dLit (.bl false))) <|
        sSkip)
      (sSkip)) <|
      sSkip)) <|
    sSkip)) <|
  sSeqB (sRet (dLit (.bl true))) <|
  sSkip
@[irreducible] noncomputable def fn_judge_hedge : FDen := fDen 8 5 d_judge_hedge
theorem e_judge_hedge : fn_judge_hedge = fDen 8 5 d_judge_hedge := by rw [fn_judge_hedge]
theorem c_judge_hedge : compSs 60 ⟨n_judge_hedge, defScope (topS 5), [⟨"steps_from", 2, fn_steps_from⟩], [], []⟩ (defBody (topS 5)) = some d_judge_hedge := by rfl
/-! law -/
def n_law : List Str := ["script", "d", "readers", "ledger", "circle", "many", "turn", "j", "walk", "k", "link", "due", "hedge", "step", "n", "r", "one"]
theorem sc_law : FnScope n_law ["script"] (defScope (topS 23)) := ⟨rfl, rfl, rfl, by decide +kernel, rfl, by decide +kernel, by decide +kernel⟩
noncomputable def d_law : DenS :=
  sSeqB (sAsg (dCall fn__law_begin (aCons (dVar 0) aNil)) (gNameB 1)) <|
  sSeqB (sAsg (dOp (wO oAdd) (dLit (.int 1)) (dCall fn__law_draw (aCons (dVar 1) (aCons (dLit (.int 4)) aNil)))) (gNameB 2)) <|
  sSeqB (sAsg (dCall fn__law_ledger (aCons (dVar 1) (aCons (dOp (wO oAdd) (dLit (.int 1)) (dCall fn__law_draw (aCons (dVar 1) (aCons (dLit (.int 8)) aNil)))) (aCons (dVar 2) aNil)))) (gNameB 3)) <|
  sSeqB (sAsg (dCall fn__law_circle (aCons (dVar 1) (aCons (dVar 2) aNil))) (gNameB 4)) <|
  sSeqB (sAsg (dCB (wN oLen) (aCons (dOp (wO oIx) (dVar 3) (dLit (.int 0))) aNil)) (gNameB 5)) <|
  sSeqB (sForB (iRng1 (aCons (dLit (.int 3)) aNil)) (gNameB 6)
  (sSeqB (sAsg (dCall fn__law_draw (aCons (dVar 1) (aCons (dVar 5) aNil))) (gNameB 7)) <|
    sSeqB (sAsg (dCall fn__law_walk (aCons (dVar 1) (aCons (dVar 3) (aCons (dVar 4) (aCons (dVar 7) aNil))))) (gNameB 8)) <|
    sSeqB (sAsg (dIfB (tVal (dOp (wO (oOrd (fun i j => decide (j < i)))) (dCall fn__law_draw (aCons (dVar 1) (aCons (dLit (.int 4)) aNil))) (dLit (.int 0)))) (dOp (wO oIx) (dVar 8) (dUn (wU oNeg) (dLit (.int 1)))) (dCall fn__law_draw (aCons (dVar 1) (aCons (dVar 5) aNil)))) (gNameB 9)) <|
    sSeqB (sAsg (dCall fn__law_bent (aCons (dVar 1) (aCons (dVar 8) aNil))) (gNameB 10)) <|
    sSeqB (sAsg (dCall fn__law_link_right (aCons (dVar 3) (aCons (dVar 4) (aCons (dVar 7) (aCons (dVar 9) (aCons (dVar 10) aNil)))))) (gNameB 11)) <|
    sSeqB (sIfB (tNot (tTru (dCall fn__law_exact (aCons (dCall fn_judge_link (aCons (dVar 3) (aCons (dVar 4) (aCons (dVar 7) (aCons (dVar 9) (aCons (dCB (wN oTuple) (aCons (dVar 10) aNil)) aNil)))))) (aCons (dVar 11) aNil)))))
    (sSeqB (sRet (dLit (.bl false))) <|
      sSkip)
    (sSkip)) <|
    sSeqB (sAsg (dLstB (aCons (dVar 7) aNil)) (gNameB 12)) <|
    sSeqB (sForB (iRng1 (aCons (dCall fn__law_pick (aCons (dVar 1) (aCons (dLstB (aCons (dVar 5) (aCons (dVar 5) (aCons (dLit (.int 1)) (aCons (dLit (.int 0)) aNil))))) aNil))) aNil)) (gNameB 13)
    (sSeqB (sAsg (dOp (wO oAdd) (dVar 12) (dLcB (iRng1 (aCons (dVar 5) aNil)) (.one 14) (tAndB (tVal (dOp (wO (oIn true)) (dVar 14) (dVar 12))) (tVal (dOp (wO (oOrd (fun i j => decide (j < i)))) (dCB (wN oLen) (aCons (dLcB (iVal (dVar 4)) (.one 15) (tVal (dOp (wO (oOrd (fun i j => decide (j < i)))) (dCB (wN oLen) (aCons (dLcB (iVal (dVar 12)) (.one 16) (tVal (dOp (wO (oEq false)) (dOp (wO oIx) (dOp (wO oIx) (dOp (wO oIx) (dVar 3) (dLit (.int 2))) (dVar 15)) (dVar 16)) (dOp (wO oIx) (dOp (wO oIx) (dOp (wO oIx) (dVar 3) (dLit (.int 2))) (dVar 15)) (dVar 14)))) (dVar 16) [16]) aNil)) (dLit (.int 0)))) (dVar 15) [15]) aNil)) (dLit (.int 0))))) (dVar 14) [14])) (gNameB 12)) <|
      sSkip)) <|
    sSeqB (sAsg (dCall fn__law_draw (aCons (dVar 1) (aCons (dVar 5) aNil))) (gNameB 9)) <|
    sSeqB (sAsg (dCall fn__law_bent (aCons (dVar 1) (aCons (dCall fn__law_shuffled (aCons (dVar 1) (aCons (dVar 12) aNil))) aNil))) (gNameB 12)) <|
    sSeqB (sAsg (dCall fn__law_hedge_right (aCons (dVar 3) (aCons (dVar 4) (aCons (dVar 7) (aCons (dVar 9) (aCons (dVar 12) aNil)))))) (gNameB 11)) <|
    sSeqB (sIfB (tNot (tTru (dCall fn__law_exact (aCons (dCall fn_judge_hedge (aCons (dVar 3) (aCons (dVar 4) (aCons (dVar 7) (aCons (dVar 9) (aCons (dCB (wN oTuple) (aCons (dVar 12) aNil)) aNil)))))) (aCons (dVar 11) aNil)))))
    (sSeqB (sRet (dLit (.bl false))) <|
      sSkip)
    (sSkip)) <|
    sSkip)) <|
  sSeqB (sRet (dLit (.bl true))) <|
  sSkip
@[irreducible] noncomputable def fn_law : FDen := fDen 17 1 d_law
theorem e_law : fn_law = fDen 17 1 d_law := by rw [fn_law]
theorem c_law : compSs 60 ⟨n_law, defScope (topS 23), [⟨"_law_begin", 1, fn__law_begin⟩, ⟨"_law_draw", 1, fn__law_draw⟩, ⟨"_law_ledger", 4, fn__law_ledger⟩, ⟨"_law_circle", 2, fn__law_circle⟩, ⟨"_law_walk", 3, fn__law_walk⟩, ⟨"_law_bent", 2, fn__law_bent⟩, ⟨"_law_link_right", 1, fn__law_link_right⟩, ⟨"_law_exact", 12, fn__law_exact⟩, ⟨"judge_link", 1, fn_judge_link⟩, ⟨"_law_pick", 2, fn__law_pick⟩, ⟨"_law_shuffled", 2, fn__law_shuffled⟩, ⟨"_law_hedge_right", 1, fn__law_hedge_right⟩, ⟨"judge_hedge", 3, fn_judge_hedge⟩], [], []⟩ (defBody (topS 23)) = some d_law := by rfl
section
variable {P : Program} {w : World} {G : Gc} {mg : Str → Option Value} {base : Heap}
theorem ok__law_begin  (F : Has G.K mg "_law_begin" (topS 7) ["script"]) (hb : ∀ y ∈ bltNames, mg y = none) : FOkM P w G mg base ⟨"_law_begin", 1, fn__law_begin⟩ := by
  rw [e__law_begin]; exact fok (n := 60) (C := ⟨n__law_begin, defScope (topS 7), [], [], []⟩) (lev := 0) F sc__law_begin rfl rfl (by decide) (fun fi h => by cases h) hb ⟨rfl, by decide, by decide⟩ c__law_begin
theorem ok__law_draw  (F : Has G.K mg "_law_draw" (topS 8) ["d", "many"]) (hb : ∀ y ∈ bltNames, mg y = none) : FOkM P w G mg base ⟨"_law_draw", 1, fn__law_draw⟩ := by
  rw [e__law_draw]; exact fok (n := 60) (C := ⟨n__law_draw, defScope (topS 8), [], [], []⟩) (lev := 0) F sc__law_draw rfl rfl (by decide) (fun fi h => by cases h) hb ⟨rfl, by decide, by decide⟩ c__law_draw
theorem ok__law_pick (h__law_draw : FOkM P w G mg base ⟨"_law_draw", 1, fn__law_draw⟩) (F : Has G.K mg "_law_pick" (topS 9) ["d", "row"]) (hb : ∀ y ∈ bltNames, mg y = none) : FOkM P w G mg base ⟨"_law_pick", 2, fn__law_pick⟩ := by
  rw [e__law_pick]; exact fok (n := 60) (C := ⟨n__law_pick, defScope (topS 9), [⟨"_law_draw", 1, fn__law_draw⟩], [], []⟩) (lev := 1) F sc__law_pick rfl rfl (by decide) (fun fi h => by simp only [List.mem_cons, List.not_mem_nil, or_false] at h; rcases h with rfl <;> assumption) hb ⟨rfl, by decide, by decide⟩ c__law_pick
theorem ok__law_fill_set (h__law_pick : FOkM P w G mg base ⟨"_law_pick", 2, fn__law_pick⟩) (h__law_draw : FOkM P w G mg base ⟨"_law_draw", 1, fn__law_draw⟩) (F : Has G.K mg "_law_fill_set" (topS 14) ["d", "turns"]) (hb : ∀ y ∈ bltNames, mg y = none) : FOkM P w G mg base ⟨"_law_fill_set", 3, fn__law_fill_set⟩ := by
  rw [e__law_fill_set]; exact fok (n := 60) (C := ⟨n__law_fill_set, defScope (topS 14), [⟨"_law_pick", 2, fn__law_pick⟩, ⟨"_law_draw", 1, fn__law_draw⟩], [], []⟩) (lev := 2) F sc__law_fill_set rfl rfl (by decide) (fun fi h => by simp only [List.mem_cons, List.not_mem_nil, or_false] at h; rcases h with rfl | rfl <;> assumption) hb ⟨rfl, by decide, by decide⟩ c__law_fill_set
theorem ok__law_fill_counts (h__law_draw : FOkM P w G mg base ⟨"_law_draw", 1, fn__law_draw⟩) (F : Has G.K mg "_law_fill_counts" (topS 15) ["d", "sizes", "fillings", "great"]) (hb : ∀ y ∈ bltNames, mg y = none) : FOkM P w G mg base ⟨"_law_fill_counts", 2, fn__law_fill_counts⟩ := by
  rw [e__law_fill_counts]; exact fok (n := 60) (C := ⟨n__law_fill_counts, defScope (topS 15), [⟨"_law_draw", 1, fn__law_draw⟩], [], []⟩) (lev := 1) F sc__law_fill_counts rfl rfl (by decide) (fun fi h => by simp only [List.mem_cons, List.not_mem_nil, or_false] at h; rcases h with rfl <;> assumption) hb ⟨rfl, by decide, by decide⟩ c__law_fill_counts
theorem ok__law_numbered  (F : Has G.K mg "_law_numbered" (topS 13) ["values"]) (hb : ∀ y ∈ bltNames, mg y = none) : FOkM P w G mg base ⟨"_law_numbered", 1, fn__law_numbered⟩ := by
  rw [e__law_numbered]; exact fok (n := 60) (C := ⟨n__law_numbered, defScope (topS 13), [], [], []⟩) (lev := 0) F sc__law_numbered rfl rfl (by decide) (fun fi h => by cases h) hb ⟨rfl, by decide, by decide⟩ c__law_numbered
theorem ok__law_marks (h__law_pick : FOkM P w G mg base ⟨"_law_pick", 2, fn__law_pick⟩) (h__law_numbered : FOkM P w G mg base ⟨"_law_numbered", 1, fn__law_numbered⟩) (h__law_draw : FOkM P w G mg base ⟨"_law_draw", 1, fn__law_draw⟩) (F : Has G.K mg "_law_marks" (topS 16) ["d", "n"]) (hb : ∀ y ∈ bltNames, mg y = none) : FOkM P w G mg base ⟨"_law_marks", 3, fn__law_marks⟩ := by
  rw [e__law_marks]; exact fok (n := 60) (C := ⟨n__law_marks, defScope (topS 16), [⟨"_law_pick", 2, fn__law_pick⟩, ⟨"_law_numbered", 1, fn__law_numbered⟩, ⟨"_law_draw", 1, fn__law_draw⟩], [], []⟩) (lev := 2) F sc__law_marks rfl rfl (by decide) (fun fi h => by simp only [List.mem_cons, List.not_mem_nil, or_false] at h; rcases h with rfl | rfl | rfl <;> assumption) hb ⟨rfl, by decide, by decide⟩ c__law_marks
theorem ok__law_opens (h__law_draw : FOkM P w G mg base ⟨"_law_draw", 1, fn__law_draw⟩) (F : Has G.K mg "_law_opens" (topS 17) ["d", "fillings", "row"]) (hb : ∀ y ∈ bltNames, mg y = none) : FOkM P w G mg base ⟨"_law_opens", 2, fn__law_opens⟩ := by
  rw [e__law_opens]; exact fok (n := 60) (C := ⟨n__law_opens, defScope (topS 17), [⟨"_law_draw", 1, fn__law_draw⟩], [], []⟩) (lev := 1) F sc__law_opens rfl rfl (by decide) (fun fi h => by simp only [List.mem_cons, List.not_mem_nil, or_false] at h; rcases h with rfl <;> assumption) hb ⟨rfl, by decide, by decide⟩ c__law_opens
theorem ok__law_ledger (h__law_fill_set : FOkM P w G mg base ⟨"_law_fill_set", 3, fn__law_fill_set⟩) (h__law_fill_counts : FOkM P w G mg base ⟨"_law_fill_counts", 2, fn__law_fill_counts⟩) (h__law_pick : FOkM P w G mg base ⟨"_law_pick", 2, fn__law_pick⟩) (h__law_marks : FOkM P w G mg base ⟨"_law_marks", 3, fn__law_marks⟩) (h__law_opens : FOkM P w G mg base ⟨"_law_opens", 2, fn__law_opens⟩) (F : Has G.K mg "_law_ledger" (topS 18) ["d", "turns", "readers"]) (hb : ∀ y ∈ bltNames, mg y = none) : FOkM P w G mg base ⟨"_law_ledger", 4, fn__law_ledger⟩ := by
  rw [e__law_ledger]; exact fok (n := 60) (C := ⟨n__law_ledger, defScope (topS 18), [⟨"_law_fill_set", 3, fn__law_fill_set⟩, ⟨"_law_fill_counts", 2, fn__law_fill_counts⟩, ⟨"_law_pick", 2, fn__law_pick⟩, ⟨"_law_marks", 3, fn__law_marks⟩, ⟨"_law_opens", 2, fn__law_opens⟩], [], []⟩) (lev := 3) F sc__law_ledger rfl rfl (by decide) (fun fi h => by simp only [List.mem_cons, List.not_mem_nil, or_false] at h; rcases h with rfl | rfl | rfl | rfl | rfl <;> assumption) hb ⟨rfl, by decide, by decide⟩ c__law_ledger
theorem ok__law_circle (h__law_draw : FOkM P w G mg base ⟨"_law_draw", 1, fn__law_draw⟩) (F : Has G.K mg "_law_circle" (topS 12) ["d", "many"]) (hb : ∀ y ∈ bltNames, mg y = none) : FOkM P w G mg base ⟨"_law_circle", 2, fn__law_circle⟩ := by
  rw [e__law_circle]; exact fok (n := 60) (C := ⟨n__law_circle, defScope (topS 12), [⟨"_law_draw", 1, fn__law_draw⟩], [], []⟩) (lev := 1) F sc__law_circle rfl rfl (by decide) (fun fi h => by simp only [List.mem_cons, List.not_mem_nil, or_false] at h; rcases h with rfl <;> assumption) hb ⟨rfl, by decide, by decide⟩ c__law_circle
theorem ok__law_walk (h__law_draw : FOkM P w G mg base ⟨"_law_draw", 1, fn__law_draw⟩) (h__law_pick : FOkM P w G mg base ⟨"_law_pick", 2, fn__law_pick⟩) (F : Has G.K mg "_law_walk" (topS 21) ["d", "ledger", "circle", "j"]) (hb : ∀ y ∈ bltNames, mg y = none) : FOkM P w G mg base ⟨"_law_walk", 3, fn__law_walk⟩ := by
  rw [e__law_walk]; exact fok (n := 60) (C := ⟨n__law_walk, defScope (topS 21), [⟨"_law_draw", 1, fn__law_draw⟩, ⟨"_law_pick", 2, fn__law_pick⟩], [], []⟩) (lev := 2) F sc__law_walk rfl rfl (by decide) (fun fi h => by simp only [List.mem_cons, List.not_mem_nil, or_false] at h; rcases h with rfl | rfl <;> assumption) hb ⟨rfl, by decide, by decide⟩ c__law_walk
theorem ok__law_bent (h__law_draw : FOkM P w G mg base ⟨"_law_draw", 1, fn__law_draw⟩) (F : Has G.K mg "_law_bent" (topS 22) ["d", "row"]) (hb : ∀ y ∈ bltNames, mg y = none) : FOkM P w G mg base ⟨"_law_bent", 2, fn__law_bent⟩ := by
  rw [e__law_bent]; exact fok (n := 60) (C := ⟨n__law_bent, defScope (topS 22), [⟨"_law_draw", 1, fn__law_draw⟩], [], []⟩) (lev := 1) F sc__law_bent rfl rfl (by decide) (fun fi h => by simp only [List.mem_cons, List.not_mem_nil, or_false] at h; rcases h with rfl <;> assumption) hb ⟨rfl, by decide, by decide⟩ c__law_bent
theorem ok__law_link_right  (F : Has G.K mg "_law_link_right" (topS 19) ["ledger", "circle", "j", "k", "link"]) (hb : ∀ y ∈ bltNames, mg y = none) : FOkM P w G mg base ⟨"_law_link_right", 1, fn__law_link_right⟩ := by
  rw [e__law_link_right]; exact fok (n := 60) (C := ⟨n__law_link_right, defScope (topS 19), [], [], []⟩) (lev := 0) F sc__law_link_right rfl rfl (by decide) (fun fi h => by cases h) hb ⟨rfl, by decide, by decide⟩ c__law_link_right
theorem okN__law_exact  (F : Has G.K mg "_law_exact" (topS 11) ["told", "due"]) (hb : ∀ y ∈ bltNames, mg y = none) : ∀ n : Nat, n ≤ 12 → FOkM P w G mg base ⟨"_law_exact", 0 + n, fn__law_exactN n⟩
  | 0, _ => F.none
  | n + 1, hn => by
    have ih := okN__law_exact  F hb n (by omega)
    rw [e__law_exact]
    exact fok (n := 60) (C := ⟨n__law_exact, defScope (topS 11), [⟨"_law_exact", 0 + n, fn__law_exactN n⟩], [], []⟩) (lev := 0 + n) F sc__law_exact rfl rfl (fun fi h => by simp only [List.mem_cons, List.not_mem_nil, or_false] at h; rcases h with rfl <;> (dsimp only; omega)) (fun fi h => by simp only [List.mem_cons, List.not_mem_nil, or_false] at h; rcases h with rfl <;> assumption) hb (Room.mono (k := 200) ⟨rfl, by decide, by decide⟩ (by omega)) (c__law_exact _ _)
theorem ok__law_exact  (F : Has G.K mg "_law_exact" (topS 11) ["told", "due"]) (hb : ∀ y ∈ bltNames, mg y = none) : FOkM P w G mg base ⟨"_law_exact", 12, fn__law_exact⟩ := by rw [fn__law_exact]; exact okN__law_exact  F hb 12 (Nat.le_refl _)
theorem ok_judge_link  (F : Has G.K mg "judge_link" (topS 4) ["ledger", "circle", "j", "k", "link"]) (hb : ∀ y ∈ bltNames, mg y = none) : FOkM P w G mg base ⟨"judge_link", 1, fn_judge_link⟩ := by
  rw [e_judge_link]; exact fok (n := 60) (C := ⟨n_judge_link, defScope (topS 4), [], [], []⟩) (lev := 0) F sc_judge_link rfl rfl (by decide) (fun fi h => by cases h) hb ⟨rfl, by decide, by decide⟩ c_judge_link
theorem ok__law_shuffled (h__law_draw : FOkM P w G mg base ⟨"_law_draw", 1, fn__law_draw⟩) (F : Has G.K mg "_law_shuffled" (topS 10) ["d", "row"]) (hb : ∀ y ∈ bltNames, mg y = none) : FOkM P w G mg base ⟨"_law_shuffled", 2, fn__law_shuffled⟩ := by
  rw [e__law_shuffled]; exact fok (n := 60) (C := ⟨n__law_shuffled, defScope (topS 10), [⟨"_law_draw", 1, fn__law_draw⟩], [], []⟩) (lev := 1) F sc__law_shuffled rfl rfl (by decide) (fun fi h => by simp only [List.mem_cons, List.not_mem_nil, or_false] at h; rcases h with rfl <;> assumption) hb ⟨rfl, by decide, by decide⟩ c__law_shuffled
theorem ok__law_hedge_right  (F : Has G.K mg "_law_hedge_right" (topS 20) ["ledger", "circle", "j", "k", "hedge"]) (hb : ∀ y ∈ bltNames, mg y = none) : FOkM P w G mg base ⟨"_law_hedge_right", 1, fn__law_hedge_right⟩ := by
  rw [e__law_hedge_right]; exact fok (n := 60) (C := ⟨n__law_hedge_right, defScope (topS 20), [], [], []⟩) (lev := 0) F sc__law_hedge_right rfl rfl (by decide) (fun fi h => by cases h) hb ⟨rfl, by decide, by decide⟩ c__law_hedge_right
theorem ok_lot_at  (F : Has G.K mg "lot_at" (topS 1) ["ledger", "circle", "k"]) (hb : ∀ y ∈ bltNames, mg y = none) : FOkM P w G mg base ⟨"lot_at", 1, fn_lot_at⟩ := by
  rw [e_lot_at]; exact fok (n := 60) (C := ⟨n_lot_at, defScope (topS 1), [], [], []⟩) (lev := 0) F sc_lot_at rfl rfl (by decide) (fun fi h => by cases h) hb ⟨rfl, by decide, by decide⟩ c_lot_at
theorem ok_steps_from (h_lot_at : FOkM P w G mg base ⟨"lot_at", 1, fn_lot_at⟩) (F : Has G.K mg "steps_from" (topS 3) ["ledger", "circle", "k"]) (hb : ∀ y ∈ bltNames, mg y = none) : FOkM P w G mg base ⟨"steps_from", 2, fn_steps_from⟩ := by
  rw [e_steps_from]; exact fok (n := 60) (C := ⟨n_steps_from, defScope (topS 3), [⟨"lot_at", 1, fn_lot_at⟩], [], []⟩) (lev := 1) F sc_steps_from rfl rfl (by decide) (fun fi h => by simp only [List.mem_cons, List.not_mem_nil, or_false] at h; rcases h with rfl <;> assumption) hb ⟨rfl, by decide, by decide⟩ c_steps_from
theorem ok_judge_hedge (h_steps_from : FOkM P w G mg base ⟨"steps_from", 2, fn_steps_from⟩) (F : Has G.K mg "judge_hedge" (topS 5) ["ledger", "circle", "j", "k", "hedge"]) (hb : ∀ y ∈ bltNames, mg y = none) : FOkM P w G mg base ⟨"judge_hedge", 3, fn_judge_hedge⟩ := by
  rw [e_judge_hedge]; exact fok (n := 60) (C := ⟨n_judge_hedge, defScope (topS 5), [⟨"steps_from", 2, fn_steps_from⟩], [], []⟩) (lev := 2) F sc_judge_hedge rfl rfl (by decide) (fun fi h => by simp only [List.mem_cons, List.not_mem_nil, or_false] at h; rcases h with rfl <;> assumption) hb ⟨rfl, by decide, by decide⟩ c_judge_hedge
theorem ok_law (F__law_begin : Has G.K mg "_law_begin" (topS 7) ["script"]) (F__law_draw : Has G.K mg "_law_draw" (topS 8) ["d", "many"]) (F__law_pick : Has G.K mg "_law_pick" (topS 9) ["d", "row"]) (F__law_fill_set : Has G.K mg "_law_fill_set" (topS 14) ["d", "turns"]) (F__law_fill_counts : Has G.K mg "_law_fill_counts" (topS 15) ["d", "sizes", "fillings", "great"]) (F__law_numbered : Has G.K mg "_law_numbered" (topS 13) ["values"]) (F__law_marks : Has G.K mg "_law_marks" (topS 16) ["d", "n"]) (F__law_opens : Has G.K mg "_law_opens" (topS 17) ["d", "fillings", "row"]) (F__law_ledger : Has G.K mg "_law_ledger" (topS 18) ["d", "turns", "readers"]) (F__law_circle : Has G.K mg "_law_circle" (topS 12) ["d", "many"]) (F__law_walk : Has G.K mg "_law_walk" (topS 21) ["d", "ledger", "circle", "j"]) (F__law_bent : Has G.K mg "_law_bent" (topS 22) ["d", "row"]) (F__law_link_right : Has G.K mg "_law_link_right" (topS 19) ["ledger", "circle", "j", "k", "link"]) (F__law_exact : Has G.K mg "_law_exact" (topS 11) ["told", "due"]) (F_judge_link : Has G.K mg "judge_link" (topS 4) ["ledger", "circle", "j", "k", "link"]) (F__law_shuffled : Has G.K mg "_law_shuffled" (topS 10) ["d", "row"]) (F__law_hedge_right : Has G.K mg "_law_hedge_right" (topS 20) ["ledger", "circle", "j", "k", "hedge"]) (F_lot_at : Has G.K mg "lot_at" (topS 1) ["ledger", "circle", "k"]) (F_steps_from : Has G.K mg "steps_from" (topS 3) ["ledger", "circle", "k"]) (F_judge_hedge : Has G.K mg "judge_hedge" (topS 5) ["ledger", "circle", "j", "k", "hedge"]) {fa : Addr} {fd : FuncData} (F : Fun G.K "law" "law" (topS 23) fa fd) (hb : ∀ y ∈ bltNames, mg y = none) : FnOk P w G.K mg base (L2.CX P w) 13 fa fd ["script"] (SpF G fn_law) ∧ MonoF fn_law := by
  have h__law_begin : FOkM P w G mg base ⟨"_law_begin", 1, fn__law_begin⟩ := ok__law_begin  F__law_begin hb
  have h__law_draw : FOkM P w G mg base ⟨"_law_draw", 1, fn__law_draw⟩ := ok__law_draw  F__law_draw hb
  have h__law_pick : FOkM P w G mg base ⟨"_law_pick", 2, fn__law_pick⟩ := ok__law_pick h__law_draw F__law_pick hb
  have h__law_fill_set : FOkM P w G mg base ⟨"_law_fill_set", 3, fn__law_fill_set⟩ := ok__law_fill_set h__law_pick h__law_draw F__law_fill_set hb
  have h__law_fill_counts : FOkM P w G mg base ⟨"_law_fill_counts", 2, fn__law_fill_counts⟩ := ok__law_fill_counts h__law_draw F__law_fill_counts hb
  have h__law_numbered : FOkM P w G mg base ⟨"_law_numbered", 1, fn__law_numbered⟩ := ok__law_numbered  F__law_numbered hb
  have h__law_marks : FOkM P w G mg base ⟨"_law_marks", 3, fn__law_marks⟩ := ok__law_marks h__law_pick h__law_numbered h__law_draw F__law_marks hb
  have h__law_opens : FOkM P w G mg base ⟨"_law_opens", 2, fn__law_opens⟩ := ok__law_opens h__law_draw F__law_opens hb
  have h__law_ledger : FOkM P w G mg base ⟨"_law_ledger", 4, fn__law_ledger⟩ := ok__law_ledger h__law_fill_set h__law_fill_counts h__law_pick h__law_marks h__law_opens F__law_ledger hb
  have h__law_circle : FOkM P w G mg base ⟨"_law_circle", 2, fn__law_circle⟩ := ok__law_circle h__law_draw F__law_circle hb
  have h__law_walk : FOkM P w G mg base ⟨"_law_walk", 3, fn__law_walk⟩ := ok__law_walk h__law_draw h__law_pick F__law_walk hb
  have h__law_bent : FOkM P w G mg base ⟨"_law_bent", 2, fn__law_bent⟩ := ok__law_bent h__law_draw F__law_bent hb
  have h__law_link_right : FOkM P w G mg base ⟨"_law_link_right", 1, fn__law_link_right⟩ := ok__law_link_right  F__law_link_right hb
  have h__law_exact : FOkM P w G mg base ⟨"_law_exact", 12, fn__law_exact⟩ := ok__law_exact  F__law_exact hb
  have h_judge_link : FOkM P w G mg base ⟨"judge_link", 1, fn_judge_link⟩ := ok_judge_link  F_judge_link hb
  have h__law_shuffled : FOkM P w G mg base ⟨"_law_shuffled", 2, fn__law_shuffled⟩ := ok__law_shuffled h__law_draw F__law_shuffled hb
  have h__law_hedge_right : FOkM P w G mg base ⟨"_law_hedge_right", 1, fn__law_hedge_right⟩ := ok__law_hedge_right  F__law_hedge_right hb
  have h_lot_at : FOkM P w G mg base ⟨"lot_at", 1, fn_lot_at⟩ := ok_lot_at  F_lot_at hb
  have h_steps_from : FOkM P w G mg base ⟨"steps_from", 2, fn_steps_from⟩ := ok_steps_from h_lot_at F_steps_from hb
  have h_judge_hedge : FOkM P w G mg base ⟨"judge_hedge", 3, fn_judge_hedge⟩ := ok_judge_hedge h_steps_from F_judge_hedge hb
  rw [e_law]
  exact fok_fn (n := 60) (C := ⟨n_law, defScope (topS 23), [⟨"_law_begin", 1, fn__law_begin⟩, ⟨"_law_draw", 1, fn__law_draw⟩, ⟨"_law_ledger", 4, fn__law_ledger⟩, ⟨"_law_circle", 2, fn__law_circle⟩, ⟨"_law_walk", 3, fn__law_walk⟩, ⟨"_law_bent", 2, fn__law_bent⟩, ⟨"_law_link_right", 1, fn__law_link_right⟩, ⟨"_law_exact", 12, fn__law_exact⟩, ⟨"judge_link", 1, fn_judge_link⟩, ⟨"_law_pick", 2, fn__law_pick⟩, ⟨"_law_shuffled", 2, fn__law_shuffled⟩, ⟨"_law_hedge_right", 1, fn__law_hedge_right⟩, ⟨"judge_hedge", 3, fn_judge_hedge⟩], [], []⟩) (lev := 12) F sc_law rfl rfl (by decide) (fun fi h => by simp only [List.mem_cons, List.not_mem_nil, or_false] at h; rcases h with rfl | rfl | rfl | rfl | rfl | rfl | rfl | rfl | rfl | rfl | rfl | rfl | rfl <;> assumption) hb ⟨rfl, by decide, by decide⟩ c_law
end
theorem all_mk {l : PySem.W.OpenLaw} {w : World} {K : PySem.W.Frag} {cn : Str → Value → Prop} {h : Heap} {mg : Str → Option Value} {fa : Addr} (X : K.In h) (GG : h.Ns mainGlobals mg) (hfa : mg "law" = some (.ref fa))
    {f0 : Addr} {od0 an0 : Option Addr} {sl0 : Array (Option Value)} {oc0 kV0 dc0 pm0 cd0 ct0 : Value}
    {f1 : Addr} {od1 an1 : Option Addr} {sl1 : Array (Option Value)} {oc1 kV1 dc1 pm1 cd1 ct1 : Value}
    {f2 : Addr} {od2 an2 : Option Addr} {sl2 : Array (Option Value)} {oc2 kV2 dc2 pm2 cd2 ct2 : Value}
    {f3 : Addr} {od3 an3 : Option Addr} {sl3 : Array (Option Value)} {oc3 kV3 dc3 pm3 cd3 ct3 : Value}
    {f4 : Addr} {od4 an4 : Option Addr} {sl4 : Array (Option Value)} {oc4 kV4 dc4 pm4 cd4 ct4 : Value}
    {f5 : Addr} {od5 an5 : Option Addr} {sl5 : Array (Option Value)} {oc5 kV5 dc5 pm5 cd5 ct5 : Value}
    {f6 : Addr} {od6 an6 : Option Addr} {sl6 : Array (Option Value)} {oc6 kV6 dc6 pm6 cd6 ct6 : Value}
    {f7 : Addr} {od7 an7 : Option Addr} {sl7 : Array (Option Value)} {oc7 kV7 dc7 pm7 cd7 ct7 : Value}
    {f8 : Addr} {od8 an8 : Option Addr} {sl8 : Array (Option Value)} {oc8 kV8 dc8 pm8 cd8 ct8 : Value}
    {f9 : Addr} {od9 an9 : Option Addr} {sl9 : Array (Option Value)} {oc9 kV9 dc9 pm9 cd9 ct9 : Value}
    {f10 : Addr} {od10 an10 : Option Addr} {sl10 : Array (Option Value)} {oc10 kV10 dc10 pm10 cd10 ct10 : Value}
    {f11 : Addr} {od11 an11 : Option Addr} {sl11 : Array (Option Value)} {oc11 kV11 dc11 pm11 cd11 ct11 : Value}
    {f12 : Addr} {od12 an12 : Option Addr} {sl12 : Array (Option Value)} {oc12 kV12 dc12 pm12 cd12 ct12 : Value}
    {f13 : Addr} {od13 an13 : Option Addr} {sl13 : Array (Option Value)} {oc13 kV13 dc13 pm13 cd13 ct13 : Value}
    {f14 : Addr} {od14 an14 : Option Addr} {sl14 : Array (Option Value)} {oc14 kV14 dc14 pm14 cd14 ct14 : Value}
    {f15 : Addr} {od15 an15 : Option Addr} {sl15 : Array (Option Value)} {oc15 kV15 dc15 pm15 cd15 ct15 : Value}
    {f16 : Addr} {od16 an16 : Option Addr} {sl16 : Array (Option Value)} {oc16 kV16 dc16 pm16 cd16 ct16 : Value}
    {f17 : Addr} {od17 an17 : Option Addr} {sl17 : Array (Option Value)} {oc17 kV17 dc17 pm17 cd17 ct17 : Value}
    {f18 : Addr} {od18 an18 : Option Addr} {sl18 : Array (Option Value)} {oc18 kV18 dc18 pm18 cd18 ct18 : Value}
    {f19 : Addr} {od19 an19 : Option Addr} {sl19 : Array (Option Value)} {oc19 kV19 dc19 pm19 cd19 ct19 : Value}
    {fL : Addr} {odL anL : Option Addr} {slL : Array (Option Value)} {ocL kVL dcL pmL cdL ctL : Value}
    (a0 : PySem.W.nsIn K mainGlobals "_law_begin" = some (some (.ref f0))) (l0 : K.lookup f0 = some ⟨oc0, od0, .func (PySem.W.fnOf "_law_begin" "_law_begin" (defArgs (topS 7)) (defBody (topS 7)) (defScope (topS 7)) .none kV0 dc0 pm0 an0 cd0 ct0), sl0⟩) (c0 : PySem.W.codeIn K cd0 "_law_begin" = true) (k0 : PySem.W.keepIn K (.ref f0) = true)
    (a1 : PySem.W.nsIn K mainGlobals "_law_draw" = some (some (.ref f1))) (l1 : K.lookup f1 = some ⟨oc1, od1, .func (PySem.W.fnOf "_law_draw" "_law_draw" (defArgs (topS 8)) (defBody (topS 8)) (defScope (topS 8)) .none kV1 dc1 pm1 an1 cd1 ct1), sl1⟩) (c1 : PySem.W.codeIn K cd1 "_law_draw" = true) (k1 : PySem.W.keepIn K (.ref f1) = true)
    (a2 : PySem.W.nsIn K mainGlobals "_law_pick" = some (some (.ref f2))) (l2 : K.lookup f2 = some ⟨oc2, od2, .func (PySem.W.fnOf "_law_pick" "_law_pick" (defArgs (topS 9)) (defBody (topS 9)) (defScope (topS 9)) .none kV2 dc2 pm2 an2 cd2 ct2), sl2⟩) (c2 : PySem.W.codeIn K cd2 "_law_pick" = true) (k2 : PySem.W.keepIn K (.ref f2) = true)
    (a3 : PySem.W.nsIn K mainGlobals "_law_fill_set" = some (some (.ref f3))) (l3 : K.lookup f3 = some ⟨oc3, od3, .func (PySem.W.fnOf "_law_fill_set" "_law_fill_set" (defArgs (topS 14)) (defBody (topS 14)) (defScope (topS 14)) .none kV3 dc3 pm3 an3 cd3 ct3), sl3⟩) (c3 : PySem.W.codeIn K cd3 "_law_fill_set" = true) (k3 : PySem.W.keepIn K (.ref f3) = true)
    (a4 : PySem.W.nsIn K mainGlobals "_law_fill_counts" = some (some (.ref f4))) (l4 : K.lookup f4 = some ⟨oc4, od4, .func (PySem.W.fnOf "_law_fill_counts" "_law_fill_counts" (defArgs (topS 15)) (defBody (topS 15)) (defScope (topS 15)) .none kV4 dc4 pm4 an4 cd4 ct4), sl4⟩) (c4 : PySem.W.codeIn K cd4 "_law_fill_counts" = true) (k4 : PySem.W.keepIn K (.ref f4) = true)
    (a5 : PySem.W.nsIn K mainGlobals "_law_numbered" = some (some (.ref f5))) (l5 : K.lookup f5 = some ⟨oc5, od5, .func (PySem.W.fnOf "_law_numbered" "_law_numbered" (defArgs (topS 13)) (defBody (topS 13)) (defScope (topS 13)) .none kV5 dc5 pm5 an5 cd5 ct5), sl5⟩) (c5 : PySem.W.codeIn K cd5 "_law_numbered" = true) (k5 : PySem.W.keepIn K (.ref f5) = true)
    (a6 : PySem.W.nsIn K mainGlobals "_law_marks" = some (some (.ref f6))) (l6 : K.lookup f6 = some ⟨oc6, od6, .func (PySem.W.fnOf "_law_marks" "_law_marks" (defArgs (topS 16)) (defBody (topS 16)) (defScope (topS 16)) .none kV6 dc6 pm6 an6 cd6 ct6), sl6⟩) (c6 : PySem.W.codeIn K cd6 "_law_marks" = true) (k6 : PySem.W.keepIn K (.ref f6) = true)
    (a7 : PySem.W.nsIn K mainGlobals "_law_opens" = some (some (.ref f7))) (l7 : K.lookup f7 = some ⟨oc7, od7, .func (PySem.W.fnOf "_law_opens" "_law_opens" (defArgs (topS 17)) (defBody (topS 17)) (defScope (topS 17)) .none kV7 dc7 pm7 an7 cd7 ct7), sl7⟩) (c7 : PySem.W.codeIn K cd7 "_law_opens" = true) (k7 : PySem.W.keepIn K (.ref f7) = true)
    (a8 : PySem.W.nsIn K mainGlobals "_law_ledger" = some (some (.ref f8))) (l8 : K.lookup f8 = some ⟨oc8, od8, .func (PySem.W.fnOf "_law_ledger" "_law_ledger" (defArgs (topS 18)) (defBody (topS 18)) (defScope (topS 18)) .none kV8 dc8 pm8 an8 cd8 ct8), sl8⟩) (c8 : PySem.W.codeIn K cd8 "_law_ledger" = true) (k8 : PySem.W.keepIn K (.ref f8) = true)
    (a9 : PySem.W.nsIn K mainGlobals "_law_circle" = some (some (.ref f9))) (l9 : K.lookup f9 = some ⟨oc9, od9, .func (PySem.W.fnOf "_law_circle" "_law_circle" (defArgs (topS 12)) (defBody (topS 12)) (defScope (topS 12)) .none kV9 dc9 pm9 an9 cd9 ct9), sl9⟩) (c9 : PySem.W.codeIn K cd9 "_law_circle" = true) (k9 : PySem.W.keepIn K (.ref f9) = true)
    (a10 : PySem.W.nsIn K mainGlobals "_law_walk" = some (some (.ref f10))) (l10 : K.lookup f10 = some ⟨oc10, od10, .func (PySem.W.fnOf "_law_walk" "_law_walk" (defArgs (topS 21)) (defBody (topS 21)) (defScope (topS 21)) .none kV10 dc10 pm10 an10 cd10 ct10), sl10⟩) (c10 : PySem.W.codeIn K cd10 "_law_walk" = true) (k10 : PySem.W.keepIn K (.ref f10) = true)
    (a11 : PySem.W.nsIn K mainGlobals "_law_bent" = some (some (.ref f11))) (l11 : K.lookup f11 = some ⟨oc11, od11, .func (PySem.W.fnOf "_law_bent" "_law_bent" (defArgs (topS 22)) (defBody (topS 22)) (defScope (topS 22)) .none kV11 dc11 pm11 an11 cd11 ct11), sl11⟩) (c11 : PySem.W.codeIn K cd11 "_law_bent" = true) (k11 : PySem.W.keepIn K (.ref f11) = true)
    (a12 : PySem.W.nsIn K mainGlobals "_law_link_right" = some (some (.ref f12))) (l12 : K.lookup f12 = some ⟨oc12, od12, .func (PySem.W.fnOf "_law_link_right" "_law_link_right" (defArgs (topS 19)) (defBody (topS 19)) (defScope (topS 19)) .none kV12 dc12 pm12 an12 cd12 ct12), sl12⟩) (c12 : PySem.W.codeIn K cd12 "_law_link_right" = true) (k12 : PySem.W.keepIn K (.ref f12) = true)
    (a13 : PySem.W.nsIn K mainGlobals "_law_exact" = some (some (.ref f13))) (l13 : K.lookup f13 = some ⟨oc13, od13, .func (PySem.W.fnOf "_law_exact" "_law_exact" (defArgs (topS 11)) (defBody (topS 11)) (defScope (topS 11)) .none kV13 dc13 pm13 an13 cd13 ct13), sl13⟩) (c13 : PySem.W.codeIn K cd13 "_law_exact" = true) (k13 : PySem.W.keepIn K (.ref f13) = true)
    (a14 : PySem.W.nsIn K mainGlobals "judge_link" = some (some (.ref f14))) (l14 : K.lookup f14 = some ⟨oc14, od14, .func (PySem.W.fnOf "judge_link" "judge_link" (defArgs (topS 4)) (defBody (topS 4)) (defScope (topS 4)) .none kV14 dc14 pm14 an14 cd14 ct14), sl14⟩) (c14 : PySem.W.codeIn K cd14 "judge_link" = true) (k14 : PySem.W.keepIn K (.ref f14) = true)
    (a15 : PySem.W.nsIn K mainGlobals "_law_shuffled" = some (some (.ref f15))) (l15 : K.lookup f15 = some ⟨oc15, od15, .func (PySem.W.fnOf "_law_shuffled" "_law_shuffled" (defArgs (topS 10)) (defBody (topS 10)) (defScope (topS 10)) .none kV15 dc15 pm15 an15 cd15 ct15), sl15⟩) (c15 : PySem.W.codeIn K cd15 "_law_shuffled" = true) (k15 : PySem.W.keepIn K (.ref f15) = true)
    (a16 : PySem.W.nsIn K mainGlobals "_law_hedge_right" = some (some (.ref f16))) (l16 : K.lookup f16 = some ⟨oc16, od16, .func (PySem.W.fnOf "_law_hedge_right" "_law_hedge_right" (defArgs (topS 20)) (defBody (topS 20)) (defScope (topS 20)) .none kV16 dc16 pm16 an16 cd16 ct16), sl16⟩) (c16 : PySem.W.codeIn K cd16 "_law_hedge_right" = true) (k16 : PySem.W.keepIn K (.ref f16) = true)
    (a17 : PySem.W.nsIn K mainGlobals "lot_at" = some (some (.ref f17))) (l17 : K.lookup f17 = some ⟨oc17, od17, .func (PySem.W.fnOf "lot_at" "lot_at" (defArgs (topS 1)) (defBody (topS 1)) (defScope (topS 1)) .none kV17 dc17 pm17 an17 cd17 ct17), sl17⟩) (c17 : PySem.W.codeIn K cd17 "lot_at" = true) (k17 : PySem.W.keepIn K (.ref f17) = true)
    (a18 : PySem.W.nsIn K mainGlobals "steps_from" = some (some (.ref f18))) (l18 : K.lookup f18 = some ⟨oc18, od18, .func (PySem.W.fnOf "steps_from" "steps_from" (defArgs (topS 3)) (defBody (topS 3)) (defScope (topS 3)) .none kV18 dc18 pm18 an18 cd18 ct18), sl18⟩) (c18 : PySem.W.codeIn K cd18 "steps_from" = true) (k18 : PySem.W.keepIn K (.ref f18) = true)
    (a19 : PySem.W.nsIn K mainGlobals "judge_hedge" = some (some (.ref f19))) (l19 : K.lookup f19 = some ⟨oc19, od19, .func (PySem.W.fnOf "judge_hedge" "judge_hedge" (defArgs (topS 5)) (defBody (topS 5)) (defScope (topS 5)) .none kV19 dc19 pm19 an19 cd19 ct19), sl19⟩) (c19 : PySem.W.codeIn K cd19 "judge_hedge" = true) (k19 : PySem.W.keepIn K (.ref f19) = true)
    (aL : PySem.W.nsIn K mainGlobals "law" = some (some (.ref fL))) (lL : K.lookup fL = some ⟨ocL, odL, .func (PySem.W.fnOf "law" "law" (defArgs (topS 23)) (defBody (topS 23)) (defScope (topS 23)) .none kVL dcL pmL anL cdL ctL), slL⟩) (cL : PySem.W.codeIn K cdL "law" = true) (kL : PySem.W.keepIn K (.ref fL) = true)
    (z0 : PySem.W.nsIn K mainGlobals "len" = some none)
    (z1 : PySem.W.nsIn K mainGlobals "list" = some none)
    (z2 : PySem.W.nsIn K mainGlobals "tuple" = some none)
    (z3 : PySem.W.nsIn K mainGlobals "int" = some none)
    (z4 : PySem.W.nsIn K mainGlobals "sum" = some none)
    (z5 : PySem.W.nsIn K mainGlobals "max" = some none)
    (z6 : PySem.W.nsIn K mainGlobals "min" = some none)
    (z7 : PySem.W.nsIn K mainGlobals "sorted" = some none)
    (z8 : PySem.W.nsIn K mainGlobals "isinstance" = some none)
    (z9 : PySem.W.nsIn K mainGlobals "range" = some none)
    (z10 : PySem.W.nsIn K mainGlobals "enumerate" = some none)
    (z11 : PySem.W.nsIn K mainGlobals "zip" = some none)
    (z12 : PySem.W.nsIn K mainGlobals "reversed" = some none)
    (z13 : PySem.W.nsIn K mainGlobals "str" = some none)
    (z14 : PySem.W.nsIn K mainGlobals "bool" = some none)
    (z15 : PySem.W.nsIn K mainGlobals "all" = some none)
    (z16 : PySem.W.nsIn K mainGlobals "any" = some none)
    : ∃ fd : FuncData, (∀ (s : Shared) (v : Value), BindsTo s fd ⟨[v], []⟩ [("script", v)]) ∧ ∀ base : Heap, K.In base → base.Ns mainGlobals mg → FnOk l.prog w K mg base (L2.CX l.prog w) 13 fa fd ["script"] (SpF ⟨K, cn⟩ fn_law) ∧ MonoF fn_law := by
  have e := hfa.symm.trans (PySem.W.mg_of X GG aL)
  cases e
  have F0 : Has K mg "_law_begin" (topS 7) ["script"] := has_mk (PySem.W.mg_of X GG a0) l0 c0 k0 fun _ _ _ _ _ _ us hl => match us, hl with | [_], _ => rfl
  have F1 : Has K mg "_law_draw" (topS 8) ["d", "many"] := has_mk (PySem.W.mg_of X GG a1) l1 c1 k1 fun _ _ _ _ _ _ us hl => match us, hl with | [_, _], _ => rfl
  have F2 : Has K mg "_law_pick" (topS 9) ["d", "row"] := has_mk (PySem.W.mg_of X GG a2) l2 c2 k2 fun _ _ _ _ _ _ us hl => match us, hl with | [_, _], _ => rfl
  have F3 : Has K mg "_law_fill_set" (topS 14) ["d", "turns"] := has_mk (PySem.W.mg_of X GG a3) l3 c3 k3 fun _ _ _ _ _ _ us hl => match us, hl with | [_, _], _ => rfl
  have F4 : Has K mg "_law_fill_counts" (topS 15) ["d", "sizes", "fillings", "great"] := has_mk (PySem.W.mg_of X GG a4) l4 c4 k4 fun _ _ _ _ _ _ us hl => match us, hl with | [_, _, _, _], _ => rfl
  have F5 : Has K mg "_law_numbered" (topS 13) ["values"] := has_mk (PySem.W.mg_of X GG a5) l5 c5 k5 fun _ _ _ _ _ _ us hl => match us, hl with | [_], _ => rfl
  have F6 : Has K mg "_law_marks" (topS 16) ["d", "n"] := has_mk (PySem.W.mg_of X GG a6) l6 c6 k6 fun _ _ _ _ _ _ us hl => match us, hl with | [_, _], _ => rfl
  have F7 : Has K mg "_law_opens" (topS 17) ["d", "fillings", "row"] := has_mk (PySem.W.mg_of X GG a7) l7 c7 k7 fun _ _ _ _ _ _ us hl => match us, hl with | [_, _, _], _ => rfl
  have F8 : Has K mg "_law_ledger" (topS 18) ["d", "turns", "readers"] := has_mk (PySem.W.mg_of X GG a8) l8 c8 k8 fun _ _ _ _ _ _ us hl => match us, hl with | [_, _, _], _ => rfl
  have F9 : Has K mg "_law_circle" (topS 12) ["d", "many"] := has_mk (PySem.W.mg_of X GG a9) l9 c9 k9 fun _ _ _ _ _ _ us hl => match us, hl with | [_, _], _ => rfl
  have F10 : Has K mg "_law_walk" (topS 21) ["d", "ledger", "circle", "j"] := has_mk (PySem.W.mg_of X GG a10) l10 c10 k10 fun _ _ _ _ _ _ us hl => match us, hl with | [_, _, _, _], _ => rfl
  have F11 : Has K mg "_law_bent" (topS 22) ["d", "row"] := has_mk (PySem.W.mg_of X GG a11) l11 c11 k11 fun _ _ _ _ _ _ us hl => match us, hl with | [_, _], _ => rfl
  have F12 : Has K mg "_law_link_right" (topS 19) ["ledger", "circle", "j", "k", "link"] := has_mk (PySem.W.mg_of X GG a12) l12 c12 k12 fun _ _ _ _ _ _ us hl => match us, hl with | [_, _, _, _, _], _ => rfl
  have F13 : Has K mg "_law_exact" (topS 11) ["told", "due"] := has_mk (PySem.W.mg_of X GG a13) l13 c13 k13 fun _ _ _ _ _ _ us hl => match us, hl with | [_, _], _ => rfl
  have F14 : Has K mg "judge_link" (topS 4) ["ledger", "circle", "j", "k", "link"] := has_mk (PySem.W.mg_of X GG a14) l14 c14 k14 fun _ _ _ _ _ _ us hl => match us, hl with | [_, _, _, _, _], _ => rfl
  have F15 : Has K mg "_law_shuffled" (topS 10) ["d", "row"] := has_mk (PySem.W.mg_of X GG a15) l15 c15 k15 fun _ _ _ _ _ _ us hl => match us, hl with | [_, _], _ => rfl
  have F16 : Has K mg "_law_hedge_right" (topS 20) ["ledger", "circle", "j", "k", "hedge"] := has_mk (PySem.W.mg_of X GG a16) l16 c16 k16 fun _ _ _ _ _ _ us hl => match us, hl with | [_, _, _, _, _], _ => rfl
  have F17 : Has K mg "lot_at" (topS 1) ["ledger", "circle", "k"] := has_mk (PySem.W.mg_of X GG a17) l17 c17 k17 fun _ _ _ _ _ _ us hl => match us, hl with | [_, _, _], _ => rfl
  have F18 : Has K mg "steps_from" (topS 3) ["ledger", "circle", "k"] := has_mk (PySem.W.mg_of X GG a18) l18 c18 k18 fun _ _ _ _ _ _ us hl => match us, hl with | [_, _, _], _ => rfl
  have F19 : Has K mg "judge_hedge" (topS 5) ["ledger", "circle", "j", "k", "hedge"] := has_mk (PySem.W.mg_of X GG a19) l19 c19 k19 fun _ _ _ _ _ _ us hl => match us, hl with | [_, _, _, _, _], _ => rfl
  have FL := fun_mk (st := topS 23) lL cL kL
  have hb : ∀ y ∈ bltNames, mg y = none := fun y hy => by
    simp only [bltNames, List.mem_cons, List.not_mem_nil, or_false] at hy
    rcases hy with rfl | rfl | rfl | rfl | rfl | rfl | rfl | rfl | rfl | rfl | rfl | rfl | rfl | rfl | rfl | rfl | rfl
    · exact PySem.W.mg_none_of X GG z0
    · exact PySem.W.mg_none_of X GG z1
    · exact PySem.W.mg_none_of X GG z2
    · exact PySem.W.mg_none_of X GG z3
    · exact PySem.W.mg_none_of X GG z4
    · exact PySem.W.mg_none_of X GG z5
    · exact PySem.W.mg_none_of X GG z6
    · exact PySem.W.mg_none_of X GG z7
    · exact PySem.W.mg_none_of X GG z8
    · exact PySem.W.mg_none_of X GG z9
    · exact PySem.W.mg_none_of X GG z10
    · exact PySem.W.mg_none_of X GG z11
    · exact PySem.W.mg_none_of X GG z12
    · exact PySem.W.mg_none_of X GG z13
    · exact PySem.W.mg_none_of X GG z14
    · exact PySem.W.mg_none_of X GG z15
    · exact PySem.W.mg_none_of X GG z16
  exact ⟨_, fun s v => .of_eq rfl, fun base _ _ => ok_law (G := ⟨K, cn⟩) F0 F1 F2 F3 F4 F5 F6 F7 F8 F9 F10 F11 F12 F13 F14 F15 F16 F17 F18 F19 FL hb⟩
end K12
open PySem PySem.Spec PyProof.Rows L2 EV FM
local macro_rules
  | `(tactic| sizeOf_list_dec) => `(tactic| first | (simp only [ds_set, ds_len, set_app, set_app0, List.append_assoc, List.cons_append, List.nil_append, List.set_cons_zero, List.set_cons_succ, List.length_append, List.length_cons, List.length_nil, Nat.zero_add, Nat.reduceAdd, Int.reduceToNat]; first | done | rfl) | rfl)
local macro_rules
  | `(tactic| array_mem_dec) => `(tactic| first | rfl | assumption | (refine at_old ?_; assumption) | (simp only [ds_at, ds_at0, at_app, at_app0, List.append_assoc, List.cons_append, List.nil_append, List.getElem?_cons_zero, List.getElem?_cons_succ, List.length_append, List.length_cons, List.length_nil]; first | done | rfl | assumption | (refine at_old ?_; assumption)))
local macro_rules
  | `(tactic| decreasing_trivial_pre_omega) => `(tactic| first | omega | assumption | (unfold CMul; omega) | (exact L2.wide_div (b := 9000) (by omega) (by first | omega | (refine Nat.lt_of_lt_of_le (m := 2 ^ 64) ?_ (Nat.pow_le_pow_right (by decide) (by decide)); omega)) (by decide) (by decide)) | (dsimp only; omega) | exact ⟨by decide, by decide, by decide⟩ | exact ⟨by omega, by omega, by decide⟩ | (simp only [List.length_map, List.length_append, List.length_cons, List.length_nil, List.length_range, List.length_replicate, List.length_set, sizeLine_eq]; omega))
local macro_rules
  | `(tactic| trivial) => `(tactic| first | (simp only [isNonV, Bool.false_xor, Bool.true_xor, Bool.xor_false, Bool.not_true, Bool.not_false, decide_true, decide_false, Int.reduceEq, reduceCtorEq]; first | done | rfl) | rfl)
local macro_rules
  | `(tactic| array_get_dec) => `(tactic| (first
    | ((with_reducible apply s_kT); sizeOf_list_dec) | ((with_reducible apply s_kA); sizeOf_list_dec; sizeOf_list_dec)
    | (with_reducible apply s_addI) | (with_reducible apply s_int) | ((with_reducible apply s_intC); decreasing_trivial_pre_omega) | ((with_reducible apply s_mulI); decreasing_trivial_pre_omega) | (with_reducible apply s_ord) | ((with_reducible apply s_eqI); trivial) | ((with_reducible apply s_isN); trivial) | ((with_reducible apply s_ixT); first | rfl | assumption)
    | ((with_reducible apply s_ixL); array_mem_dec; first | rfl | assumption)
    | ((with_reducible apply s_setL); array_mem_dec; rfl; sizeOf_list_dec; sizeOf_list_dec) | (with_reducible apply s_lenT) | ((with_reducible apply s_lenL); array_mem_dec) | (with_reducible apply s_intc) | ((with_reducible apply s_list); rfl) | (with_reducible apply s_tupT) | ((with_reducible apply s_tupL); array_mem_dec)
    | ((with_reducible apply s_eqS); trivial) | ((with_reducible apply s_eqB); trivial) | ((with_reducible apply s_isB); trivial) | (with_reducible apply s_max2) | (with_reducible apply s_min2) | ((with_reducible apply s_isi); rfl; rfl) | (with_reducible apply s_neg) | ((with_reducible apply s_inD); array_mem_dec; rfl; trivial) | ((with_reducible apply s_ixK); array_mem_dec; first | rfl | assumption) | ((with_reducible apply s_ixZ); array_mem_dec; rfl; first | rfl | assumption) | ((with_reducible apply s_inK); array_mem_dec; rfl; trivial) | ((with_reducible apply s_inZ); array_mem_dec; rfl; trivial) | ((with_reducible apply s_setK); array_mem_dec; rfl; decreasing_trivial_pre_omega; sizeOf_list_dec) | ((with_reducible apply s_ixD); array_mem_dec; rfl; first | rfl | assumption) | ((with_reducible apply s_setD); array_mem_dec; rfl; decreasing_trivial_pre_omega; sizeOf_list_dec) | ((with_reducible apply s_mulL); array_mem_dec; decreasing_trivial_pre_omega) | ((with_reducible apply s_addL); array_mem_dec; array_mem_dec; decreasing_trivial_pre_omega)
    | ((with_reducible apply s_app); array_mem_dec; decreasing_trivial_pre_omega; sizeOf_list_dec)
    | ((with_reducible apply bI_tt); rfl) | ((with_reducible apply bI_ff); rfl)
    | refine ⟨_, rfl, ?_⟩ | refine ⟨_, _, rfl, ?_⟩ | refine ⟨_, Or.inl rfl, rfl, ?_⟩ | refine ⟨rfl, ?_⟩ | refine ⟨tyL_of (by array_mem_dec), ?_⟩ | refine ⟨by unfold sm62; omega, ?_⟩ | refine ⟨_, truB_lst (by array_mem_dec), ?_⟩ | refine Or.inl ⟨⟨_, lstAt_of (by array_mem_dec)⟩, ?_⟩ | refine Or.inr ⟨_, _, by array_mem_dec, ?_⟩); try (conv => whnf))

namespace K12
def fuel : Nat := 1000000
theorem s_begin {ns : List Int} {Q : VQ} {E : XQ} (h : ∀ s, Q (.ref 1) (DS s)) : fn__law_begin [.wl (ns.map .int)] [] Q E := by
  rw [e__law_begin]
  refine fd_in rfl (by dsimp only [List.map, List.replicate, List.append_eq, List.cons_append, List.nil_append, Nat.reduceSub]) ?_; (conv => whnf)
  repeat array_get_dec
  exact h ⟨ns, 0, 0, 7, 0⟩
theorem s_drawX {many : Int} {s : Drw} {R : AH} {Q : VQ} {E : XQ} (hm : many < 2 ^ 64) (h : Q (.int (drawF s many).1) (DS (drawF s many).2 ++ R)) : fn__law_draw [.ref 1, .int many] (DS s ++ R) Q E := by
  obtain ⟨xs, i, x, s, c⟩ := s
  rw [e__law_draw]
  show fDen _ _ _ _ (Ob.lst (xs.map Val.int) :: Ob.lst [.ref 0, .int i, .int x, .int s, .int c] :: R) _ _
  have hd : ∀ z : Int × Drw, drawF ⟨xs, i, x, s, c⟩ many = z → Q (.int z.1) (Ob.lst (z.2.xs.map Val.int) :: Ob.lst [.ref 0, .int z.2.i, .int z.2.x, .int z.2.s, .int z.2.c] :: R) := fun z e => by rw [← e]; exact h
  refine fd_in rfl (by dsimp only [List.map, List.replicate, List.append_eq, List.cons_append, List.nil_append, Nat.reduceSub]) ?_; (conv => whnf)
  repeat array_get_dec
  refine bI_in (fun e => ?_) (fun e => ?_)
  · (conv => whnf)
    refine hd (0, ⟨xs, i, x, s, c⟩) ?_
    unfold drawF; rw [if_pos (by simpa using e)]
  · (conv => whnf)
    have e : ¬ many < 2 := by simpa using e
    repeat array_get_dec
    refine bI_in (fun e1 => ?_) (fun e1 => ?_)
    · (conv => whnf)
      have e1 : x = 0 := by simpa using e1
      repeat array_get_dec
      refine bI_in (fun e2 => ?_) (fun e2 => ?_)
      · (conv => whnf)
        repeat array_get_dec
        have hi : i < xs.length := by simpa using e2
        refine s_ixL (xs := xs.map Val.int) (v := .int xs[i]) rfl (atI_nat' (by simp [hi])) ?_
        (conv => whnf)
        have hx : xs[i]? = some xs[i] := List.getElem?_eq_getElem hi
        generalize xs[i] = cell at hx ⊢
        repeat array_get_dec
        refine bI_in (fun e4 => ?_) (fun e4 => ?_)
        all_goals (conv => whnf)
        all_goals (repeat array_get_dec)
        all_goals refine bI_in (fun e5 => ?_) (fun e5 => ?_)
        all_goals (conv => whnf)
        all_goals (repeat array_get_dec)
        all_goals refine bI_in (fun e6 => ?_) (fun e6 => ?_)
        all_goals (conv => whnf)
        all_goals (repeat array_get_dec)
        all_goals refine hd (_, ⟨xs, i + 1, _, _, _⟩) ?_
        all_goals unfold drawF; rw [if_neg e]; dsimp only; rw [if_pos e1, hx]; dsimp only
        all_goals first | rw [if_pos (of_decide_eq_true e4)] | rw [if_neg (of_decide_eq_false e4)]
        all_goals unfold drawC
        all_goals first | rw [if_pos (of_decide_eq_true e5)] | rw [if_neg (of_decide_eq_false e5)]
        all_goals unfold drawE
        all_goals first | (rw [if_pos (of_decide_eq_true e6)]; done) | (rw [if_neg (of_decide_eq_false e6)]; done) | (rw [if_pos (of_decide_eq_true e6)]; rfl) | (rw [if_neg (of_decide_eq_false e6)]; rfl)
      · (conv => whnf)
        have e2 : xs.length ≤ i := by simpa using e2
        repeat array_get_dec
        refine bI_in (fun e3 => ?_) (fun e3 => ?_)
        · (conv => whnf)
          repeat array_get_dec
          refine hd (_, ⟨xs, i, _, _, _⟩) ?_
          unfold drawF; rw [if_neg e]; dsimp only; rw [if_pos e1, List.getElem?_eq_none e2]; dsimp only; unfold drawE; rw [if_pos (by simpa using e3)]
        · (conv => whnf)
          repeat array_get_dec
          refine hd (_, ⟨xs, i, _, _, _⟩) ?_
          unfold drawF; rw [if_neg e]; dsimp only; rw [if_pos e1, List.getElem?_eq_none e2]; dsimp only; unfold drawE; rw [if_neg (by simpa using e3)]
    · (conv => whnf)
      have e1 : x ≠ 0 := by simpa using e1
      repeat array_get_dec
      refine bI_in (fun e3 => ?_) (fun e3 => ?_)
      · (conv => whnf)
        repeat array_get_dec
        refine hd (_, ⟨xs, i, _, _, _⟩) ?_
        unfold drawF; rw [if_neg e]; dsimp only; rw [if_neg e1]; unfold drawE; rw [if_pos (by simpa using e3)]
      · (conv => whnf)
        repeat array_get_dec
        refine hd (_, ⟨xs, i, _, _, _⟩) ?_
        unfold drawF; rw [if_neg e]; dsimp only; rw [if_neg e1]; unfold drawE; rw [if_neg (by simpa using e3)]
noncomputable def m__law_draw : List T → M T := drawT
theorem r__law_draw : RF fn__law_draw m__law_draw := fun F A s xs vs I r Q E p => by
  have key : ∀ many : Int, rds F A [.tok, .int many] vs → PX (Kd.rel .fz) F A (drawT [.tok, .int many] s) Q E → fn__law_draw vs A Q E := fun many r p => by
    by_cases hm : many < 2 ^ 64
    · have e : drawT [.tok, .int many] s = .ok (.int (drawF s many).1) (drawF s many).2 := by show drawM many s = _; unfold drawM; exact if_pos hm
      rw [e] at p
      obtain ⟨v1, r1, rfl, h1, v2, r2, rfl, h2, h3⟩ := r
      cases h3
      simp only [rd] at h1 h2
      subst h1; subst h2
      obtain ⟨R, rfl⟩ := I.ds
      refine s_drawX hm (p _ (DS (drawF s many).2 ++ R) F ⟨fun n z => z, fun n z => .inl z, fun n h2 hl _ => ?_, by simp [ds_len]⟩ ⟨fun n z => ?_, ⟨R, rfl⟩⟩ (by simp only [Kd.rel, rd]))
      · obtain ⟨k, rfl⟩ : ∃ k, n = 2 + k := ⟨n - 2, by omega⟩
        rw [ds_at, ds_at]
      · have := I.fz n z; simpa [ds_len] using this
    · have e : drawT [.tok, .int many] s = .no := by show drawM many s = _; unfold drawM; exact if_neg hm
      rw [e] at p; exact p.elim
  unfold m__law_draw at p
  cases h : drawO xs with
  | none => unfold drawT at p; rw [h] at p; exact p.elim
  | some many =>
    have := drawO_some h
    subst this
    exact key many r p

end K12
namespace K12
open PySem PySem.Spec PyProof.Rows L2 EV FM
noncomputable def m__law_pick : List T → M T
  | [d1, row2] => runF (bnd (bnd (mret row2) fun x10 => bnd (bnd (bnd (mret d1) fun a8 => bnd (bnd (bnd (bnd (mret row2) fun a3 => bnd (mret []) fun l4 => mret (a3 :: l4)) fun l5 => ofO (lenT l5)) fun a6 => bnd (mret []) fun l7 => mret (a6 :: l7)) fun l9 => mret (a8 :: l9)) m__law_draw) fun y11 => ofO (ixB x10 y11)) fun x12 => mret (.rt x12))
  | _ => stuck
theorem r__law_pick : RF fn__law_pick m__law_pick := by
  rw [e__law_pick]; exact rf_of fun xs => match xs with | [d1, row2] => .inl ⟨_, rfl, rfl, (show RS false [.fz d1, .fz row2] _ (fun _ => [.un, .un]) _ from (rs_ret (rx_op s2_ix (rx_ro (rx_var rfl)) (rx_ro (rx_call r__law_draw (ra_consF (rx_var rfl) (ra_consF (rx_cb sn_len (ra_consO (rx_ro (rx_var rfl)) ra_nil)) ra_nil)))))))⟩ | [] => .inr rfl | [_] => .inr rfl | _ :: _ :: _ :: _ => .inr rfl
noncomputable def m__law_fill_set : List T → M T
  | [d1, turns2] => runF (bnd (bnd (bnd (bnd (bnd (bnd (mret d1) fun a31 => bnd (bnd (bnd (bnd (mret (.int 2)) fun a26 => bnd (bnd (mret (.int 1)) fun a24 => bnd (bnd (mret (.int 3)) fun a22 => bnd (bnd (mret (.int 2)) fun a20 => bnd (bnd (mret (.int 6)) fun a18 => bnd (mret []) fun l19 => mret (a18 :: l19)) fun l21 => mret (a20 :: l21)) fun l23 => mret (a22 :: l23)) fun l25 => mret (a24 :: l25)) fun l27 => mret (a26 :: l27)) fun l28 => mret (.lst l28)) fun a29 => bnd (mret []) fun l30 => mret (a29 :: l30)) fun l32 => mret (a31 :: l32)) m__law_pick) fun a33 => bnd (mret []) fun l34 => mret (a33 :: l34)) fun l17 => ofO (rng1T l17)) fun xs35 => lcM (fun s3 => gIt (mret true) (bnd (bnd (mret d1) fun a15 => bnd (bnd (bnd (bnd (mret (.int 2)) fun a10 => bnd (bnd (mret (.int 3)) fun a8 => bnd (bnd (mret (.int 1)) fun a6 => bnd (bnd (mret (.int 4)) fun a4 => bnd (mret []) fun l5 => mret (a4 :: l5)) fun l7 => mret (a6 :: l7)) fun l9 => mret (a8 :: l9)) fun l11 => mret (a10 :: l11)) fun l12 => mret (.lst l12)) fun a13 => bnd (mret []) fun l14 => mret (a13 :: l14)) fun l16 => mret (a15 :: l16)) m__law_pick)) xs35 []) fun sizes36 => (bnd (bnd (mret []) fun l37 => mret (.lst l37)) fun found38 => (bnd (bnd (bnd (mret turns2) fun a71 => bnd (mret []) fun l72 => mret (a71 :: l72)) fun l70 => ofO (rng1T l70)) fun xs73 => bndX (forE (fun (s39 : T) => fun turn40 => (bnd (bnd (bnd (bnd (bnd (mret sizes36) fun x46 => ofO (valT x46)) fun xs47 => lcM (fun many41 => gIt (mret true) (bnd (bnd (mret d1) fun a44 => bnd (bnd (mret many41) fun a42 => bnd (mret []) fun l43 => mret (a42 :: l43)) fun l45 => mret (a44 :: l45)) m__law_draw)) xs47 []) fun a48 => bnd (mret []) fun l49 => mret (a48 :: l49)) fun l50 => ofO (tupT l50)) fun one51 => (bnd (bnd (bnd (mret one51) fun x52 => bnd (mret s39) fun y53 => ofO (inT true x52 y53)) fun x54 => ofO (blT x54)) fun b => if b = true then (bnd (ofO (asL s39)) fun ts56 => bnd (mret one51) fun y57 => bnd (ofO (appT ts56 y57)) fun found55 => (mret (.nx found55))) else (mret (.nx s39))))) xs73 found38) fun (s39 : T) => (bnd (bnd (bnd (mret sizes36) fun a66 => bnd (bnd (bnd (bnd (bnd (bnd (mret s39) fun a58 => bnd (mret []) fun l59 => mret (a58 :: l59)) fun l60 => ofO (sortedT l60)) fun a61 => bnd (mret []) fun l62 => mret (a61 :: l62)) fun l63 => ofO (tupT l63)) fun a64 => bnd (mret []) fun l65 => mret (a64 :: l65)) fun l67 => mret (a66 :: l67)) fun l68 => mret (.tup l68)) fun x69 => mret (.rt x69)))))
  | _ => stuck
theorem r__law_fill_set : RF fn__law_fill_set m__law_fill_set := by
  rw [e__law_fill_set]; exact rf_of fun xs => match xs with | [d1, turns2] => .inl ⟨_, rfl, rfl, (show RS false [.fz d1, .fz turns2, .un, .un, .un, .un, .un, .un] _ (fun _ => [.un, .un, .un, .un, .un, .un, .un, .un]) _ from (rs_asg (rx_fr (rx_lc (ri_rng1 (ro := true) (ra_consF (rx_call r__law_pick (ra_consF (rx_var rfl) (ra_consF (rx_fr (rx_lst (ra_consF (rx_lit rfl) (ra_consF (rx_lit rfl) (ra_consF (rx_lit rfl) (ra_consF (rx_lit rfl) (ra_consF (rx_lit rfl) ra_nil))))))) ra_nil))) ra_nil)) (item1 (fun s3 => (show RT [.fz d1, .fz turns2, .un, .fz s3, .un, .un, .un, .un] _ _ from rt_yes)) (fun s3 => (show RX .fz [.fz d1, .fz turns2, .un, .fz s3, .un, .un, .un, .un] _ _ from (rx_call r__law_pick (ra_consF (rx_var rfl) (ra_consF (rx_fr (rx_lst (ra_consF (rx_lit rfl) (ra_consF (rx_lit rfl) (ra_consF (rx_lit rfl) (ra_consF (rx_lit rfl) ra_nil)))))) ra_nil)))))))) fun sizes36 => (show RS _ [.fz d1, .fz turns2, .fz sizes36, .un, .un, .un, .un, .un] _ _ _ from (rs_asgO (rx_lst ra_nil) fun found38 => (show RS _ [.fz d1, .fz turns2, .fz sizes36, .un, .ow found38, .un, .un, .un] _ _ _ from (rs_for (L := fun (s39 : T) => [.fz d1, .fz turns2, .fz sizes36, .un, .ow s39, .un, .un, .un]) (x0 := found38) (ri_rng1 (ro := false) (ra_consF (rx_var rfl) ra_nil)) (.cons (.cons (.cons (.un (.cons (.un (.un (.un .nil)))))))) (fun s39 => (tb1 fun turn40 => (show RS _ [.fz d1, .fz turns2, .fz sizes36, .un, .ow s39, .fz turn40, .un, .un] _ _ _ from (rs_asg (rx_cb sn_tup (ra_consO (rx_ro (rx_fr (rx_lc (ri_val (rx_var rfl)) (item1 (fun many41 => (show RT [.fz d1, .fz turns2, .fz sizes36, .un, .ow s39, .fz turn40, .un, .fz many41] _ _ from rt_yes)) (fun many41 => (show RX .fz [.fz d1, .fz turns2, .fz sizes36, .un, .ow s39, .fz turn40, .un, .fz many41] _ _ from (rx_call r__law_draw (ra_consF (rx_var rfl) (ra_consF (rx_var rfl) ra_nil))))))))) ra_nil)) fun one51 => (show RS _ [.fz d1, .fz turns2, .fz sizes36, .un, .ow s39, .fz turn40, .fz one51, .un] _ _ _ from (rs_if (rt_val (rx_op (s2_in true) (rx_ro (rx_var rfl)) (rx_varO rfl))) (rs_assoc (FM.rs_app (j := 4) rfl (rx_var rfl) fun found55 => (show RS _ [.fz d1, .fz turns2, .fz sizes36, .un, .ow found55, .fz turn40, .fz one51, .un] _ _ _ from (rs_skip (rs_end (.cons (.cons (.cons (.un (.cons (.un (.un (.un .nil))))))))))))) (rs_skip (rs_end (.cons (.cons (.cons (.un (.cons (.un (.un (.un .nil)))))))))))))))) fun s39 => (show RS _ [.fz d1, .fz turns2, .fz sizes36, .un, .ow s39, .un, .un, .un] _ _ _ from (rs_ret (rx_tup (ra_consF (rx_var rfl) (ra_consF (rx_cb sn_tup (ra_consO (rx_ro (rx_fr (rx_cb sn_sorted (ra_consO (rx_varO rfl) ra_nil)))) ra_nil)) ra_nil)))))))))))⟩ | [] => .inr rfl | [_] => .inr rfl | _ :: _ :: _ :: _ => .inr rfl
noncomputable def m__law_fill_counts : List T → M T
  | [d1, sizes2, fillings3, great4] => runF (bnd (bnd (mret []) fun l5 => mret (.lst l5)) fun counts6 => (bnd (bnd (bnd (bnd (bnd (mret sizes2) fun a49 => bnd (mret []) fun l50 => mret (a49 :: l50)) fun l51 => ofO (lenT l51)) fun a52 => bnd (mret []) fun l53 => mret (a52 :: l53)) fun l48 => ofO (rng1T l48)) fun xs54 => bndX (forE (fun (s7 : T) => fun s8 => (bnd (bnd (bnd (mret fillings3) fun x12 => ofO (valT x12)) fun xs13 => lcM (fun one9 => gIt (mret true) (bnd (mret one9) fun x10 => bnd (mret s8) fun y11 => ofO (ixB x10 y11))) xs13 []) fun met14 => (bnd (bnd (mret []) fun l15 => mret (.lst l15)) fun row16 => (bnd (bnd (bnd (bnd (mret sizes2) fun x39 => bnd (mret s8) fun y40 => ofO (ixB x39 y40)) fun a41 => bnd (mret []) fun l42 => mret (a41 :: l42)) fun l38 => ofO (rng1T l38)) fun xs43 => bndX (forE (fun (s17 : T) => fun shape18 => (bnd (bnd (bnd (bnd (mret shape18) fun x19 => bnd (mret met14) fun y20 => ofO (inT false x19 y20)) fun x21 => ofO (blT x21)) fun b => if b = true then (mret (.int 1)) else (mret (.int 0))) fun low22 => (bnd (ofO (asL s17)) fun ts30 => bnd (bnd (mret low22) fun x27 => bnd (bnd (bnd (mret d1) fun a25 => bnd (bnd (mret great4) fun a23 => bnd (mret []) fun l24 => mret (a23 :: l24)) fun l26 => mret (a25 :: l26)) m__law_draw) fun y28 => ofO (addT x27 y28)) fun y31 => bnd (ofO (appT ts30 y31)) fun row29 => (mret (.nx row29))))) xs43 row16) fun (s17 : T) => (bnd (ofO (asL s7)) fun ts36 => bnd (bnd (bnd (mret s17) fun a32 => bnd (mret []) fun l33 => mret (a32 :: l33)) fun l34 => ofO (tupT l34)) fun y37 => bnd (ofO (appT ts36 y37)) fun counts35 => (mret (.nx counts35))))))) xs54 counts6) fun (s7 : T) => (bnd (bnd (bnd (mret s7) fun a44 => bnd (mret []) fun l45 => mret (a44 :: l45)) fun l46 => ofO (tupT l46)) fun x47 => mret (.rt x47))))
  | _ => stuck
theorem r__law_fill_counts : RF fn__law_fill_counts m__law_fill_counts := by
  rw [e__law_fill_counts]; exact rf_of fun xs => match xs with | [d1, sizes2, fillings3, great4] => .inl ⟨_, rfl, rfl, (show RS false [.fz d1, .fz sizes2, .fz fillings3, .fz great4, .un, .un, .un, .un, .un, .un, .un] _ (fun _ => [.un, .un, .un, .un, .un, .un, .un, .un, .un, .un, .un]) _ from (rs_asgO (rx_lst ra_nil) fun counts6 => (show RS _ [.fz d1, .fz sizes2, .fz fillings3, .fz great4, .ow counts6, .un, .un, .un, .un, .un, .un] _ _ _ from (rs_for (L := fun (s7 : T) => [.fz d1, .fz sizes2, .fz fillings3, .fz great4, .ow s7, .un, .un, .un, .un, .un, .un]) (x0 := counts6) (ri_rng1 (ro := false) (ra_consF (rx_cb sn_len (ra_consO (rx_ro (rx_var rfl)) ra_nil)) ra_nil)) (.cons (.cons (.cons (.cons (.cons (.un (.un (.un (.un (.un (.un .nil))))))))))) (fun s7 => (tb1 fun s8 => (show RS _ [.fz d1, .fz sizes2, .fz fillings3, .fz great4, .ow s7, .fz s8, .un, .un, .un, .un, .un] _ _ _ from (rs_asg (rx_fr (rx_lc (ri_val (rx_var rfl)) (item1 (fun one9 => (show RT [.fz d1, .fz sizes2, .fz fillings3, .fz great4, .ow s7, .fz s8, .un, .fz one9, .un, .un, .un] _ _ from rt_yes)) (fun one9 => (show RX .fz [.fz d1, .fz sizes2, .fz fillings3, .fz great4, .ow s7, .fz s8, .un, .fz one9, .un, .un, .un] _ _ from (rx_op s2_ix (rx_ro (rx_var rfl)) (rx_ro (rx_var rfl)))))))) fun met14 => (show RS _ [.fz d1, .fz sizes2, .fz fillings3, .fz great4, .ow s7, .fz s8, .fz met14, .un, .un, .un, .un] _ _ _ from (rs_asgO (rx_lst ra_nil) fun row16 => (show RS _ [.fz d1, .fz sizes2, .fz fillings3, .fz great4, .ow s7, .fz s8, .fz met14, .un, .ow row16, .un, .un] _ _ _ from (rs_for (L := fun (s17 : T) => [.fz d1, .fz sizes2, .fz fillings3, .fz great4, .ow s7, .fz s8, .fz met14, .un, .ow s17, .un, .un]) (x0 := row16) (ri_rng1 (ro := false) (ra_consF (rx_op s2_ix (rx_ro (rx_var rfl)) (rx_ro (rx_var rfl))) ra_nil)) (.cons (.cons (.cons (.cons (.cons (.cons (.cons (.un (.cons (.un (.un .nil))))))))))) (fun s17 => (tb1 fun shape18 => (show RS _ [.fz d1, .fz sizes2, .fz fillings3, .fz great4, .ow s7, .fz s8, .fz met14, .un, .ow s17, .fz shape18, .un] _ _ _ from (rs_asg (rx_if (rt_val (rx_op (s2_in false) (rx_ro (rx_var rfl)) (rx_ro (rx_var rfl)))) (rx_lit rfl) (rx_lit rfl)) fun low22 => (show RS _ [.fz d1, .fz sizes2, .fz fillings3, .fz great4, .ow s7, .fz s8, .fz met14, .un, .ow s17, .fz shape18, .fz low22] _ _ _ from (FM.rs_app (j := 8) rfl (rx_fr (rx_op s2_add (rx_ro (rx_var rfl)) (rx_ro (rx_call r__law_draw (ra_consF (rx_var rfl) (ra_consF (rx_var rfl) ra_nil)))))) fun row29 => (show RS _ [.fz d1, .fz sizes2, .fz fillings3, .fz great4, .ow s7, .fz s8, .fz met14, .un, .ow row29, .fz shape18, .fz low22] _ _ _ from (rs_end (.cons (.cons (.cons (.cons (.cons (.cons (.cons (.un (.cons (.un (.un .nil))))))))))))))))))) fun s17 => (show RS _ [.fz d1, .fz sizes2, .fz fillings3, .fz great4, .ow s7, .fz s8, .fz met14, .un, .ow s17, .un, .un] _ _ _ from (FM.rs_app (j := 4) rfl (rx_cb sn_tup (ra_consO (rx_varO rfl) ra_nil)) fun counts35 => (show RS _ [.fz d1, .fz sizes2, .fz fillings3, .fz great4, .ow counts35, .fz s8, .fz met14, .un, .ow s17, .un, .un] _ _ _ from (rs_end (.cons (.cons (.cons (.cons (.cons (.un (.un (.un (.un (.un (.un .nil))))))))))))))))))))))) fun s7 => (show RS _ [.fz d1, .fz sizes2, .fz fillings3, .fz great4, .ow s7, .un, .un, .un, .un, .un, .un] _ _ _ from (rs_ret (rx_cb sn_tup (ra_consO (rx_varO rfl) ra_nil))))))))⟩ | [] => .inr rfl | [_] => .inr rfl | [_, _] => .inr rfl | [_, _, _] => .inr rfl | _ :: _ :: _ :: _ :: _ :: _ => .inr rfl
noncomputable def m__law_numbered : List T → M T
  | [values1] => runF (bnd (bnd (mret []) fun l2 => mret (.lst l2)) fun seen3 => (bnd (bnd (mret []) fun l4 => mret (.lst l4)) fun found5 => (bnd (bnd (mret values1) fun x28 => ofO (valT x28)) fun xs29 => bndX (forE (fun (s6 : T × T) => fun value7 => (bnd (bnd (bnd (mret value7) fun x8 => bnd (mret s6.1) fun y9 => ofO (inT true x8 y9)) fun x10 => ofO (blT x10)) fun b => bndX (if b = true then (bnd (ofO (asL s6.1)) fun ts16 => bnd (mret value7) fun y17 => bnd (ofO (appT ts16 y17)) fun seen15 => (mret (.nx seen15))) else (mret (.nx s6.1))) fun (s14 : T) => (bnd (ofO (asL s6.2)) fun ts22 => bnd (bnd (mret s14) fun x18 => bnd (ofO (asL x18)) fun ts19 => bnd (mret value7) fun y20 => ofO (indexT ts19 y20)) fun y23 => bnd (ofO (appT ts22 y23)) fun found21 => (mret (.nx (s14, found21)))))) xs29 (seen3, found5)) fun (s6 : T × T) => (bnd (bnd (bnd (mret s6.2) fun a24 => bnd (mret []) fun l25 => mret (a24 :: l25)) fun l26 => ofO (tupT l26)) fun x27 => mret (.rt x27)))))
  | _ => stuck
theorem r__law_numbered : RF fn__law_numbered m__law_numbered := by
  rw [e__law_numbered]; exact rf_of fun xs => match xs with | [values1] => .inl ⟨_, rfl, rfl, (show RS false [.fz values1, .un, .un, .un] _ (fun _ => [.un, .un, .un, .un]) _ from (rs_asgO (rx_lst ra_nil) fun seen3 => (show RS _ [.fz values1, .ow seen3, .un, .un] _ _ _ from (rs_asgO (rx_lst ra_nil) fun found5 => (show RS _ [.fz values1, .ow seen3, .ow found5, .un] _ _ _ from (rs_for (L := fun (s6 : T × T) => [.fz values1, .ow s6.1, .ow s6.2, .un]) (x0 := (seen3, found5)) (ri_val (rx_var rfl)) (.cons (.cons (.cons (.un .nil)))) (fun s6 => (tb1 fun value7 => (show RS _ [.fz values1, .ow s6.1, .ow s6.2, .fz value7] _ _ _ from (rs_ifJ (J := fun (s14 : T) => [.fz values1, .ow s14, .ow s6.2, .fz value7]) (rt_val (rx_op (s2_in true) (rx_ro (rx_var rfl)) (rx_varO rfl))) (FM.rs_app (j := 1) rfl (rx_var rfl) fun seen15 => (show RS _ [.fz values1, .ow seen15, .ow s6.2, .fz value7] _ _ _ from (rs_end (.cons (.cons (.cons (.cons .nil))))))) (rs_end (.cons (.cons (.cons (.cons .nil))))) fun s14 => (show RS _ [.fz values1, .ow s14, .ow s6.2, .fz value7] _ _ _ from (FM.rs_app (j := 2) rfl (rx_index (rx_varO rfl) (rx_ro (rx_var rfl))) fun found21 => (show RS _ [.fz values1, .ow s14, .ow found21, .fz value7] _ _ _ from (rs_end (.cons (.cons (.cons (.un .nil)))))))))))) fun s6 => (show RS _ [.fz values1, .ow s6.1, .ow s6.2, .un] _ _ _ from (rs_ret (rx_cb sn_tup (ra_consO (rx_varO rfl) ra_nil))))))))))⟩ | [] => .inr rfl | _ :: _ :: _ => .inr rfl
noncomputable def m__law_marks : List T → M T
  | [d1, n2] => runF (bnd (bnd (bnd (mret d1) fun a14 => bnd (bnd (bnd (bnd (mret (.int 2)) fun a9 => bnd (bnd (mret (.int 1)) fun a7 => bnd (bnd (mret (.int 3)) fun a5 => bnd (bnd (mret n2) fun a3 => bnd (mret []) fun l4 => mret (a3 :: l4)) fun l6 => mret (a5 :: l6)) fun l8 => mret (a7 :: l8)) fun l10 => mret (a9 :: l10)) fun l11 => mret (.lst l11)) fun a12 => bnd (mret []) fun l13 => mret (a12 :: l13)) fun l15 => mret (a14 :: l15)) m__law_pick) fun many16 => (bnd (bnd (bnd (bnd (bnd (bnd (mret n2) fun a23 => bnd (mret []) fun l24 => mret (a23 :: l24)) fun l22 => ofO (rng1T l22)) fun xs25 => lcM (fun k17 => gIt (mret true) (bnd (bnd (mret d1) fun a20 => bnd (bnd (mret many16) fun a18 => bnd (mret []) fun l19 => mret (a18 :: l19)) fun l21 => mret (a20 :: l21)) m__law_draw)) xs25 []) fun a26 => bnd (mret []) fun l27 => mret (a26 :: l27)) m__law_numbered) fun x28 => mret (.rt x28)))
  | _ => stuck
theorem r__law_marks : RF fn__law_marks m__law_marks := by
  rw [e__law_marks]; exact rf_of fun xs => match xs with | [d1, n2] => .inl ⟨_, rfl, rfl, (show RS false [.fz d1, .fz n2, .un, .un] _ (fun _ => [.un, .un, .un, .un]) _ from (rs_asg (rx_call r__law_pick (ra_consF (rx_var rfl) (ra_consF (rx_fr (rx_lst (ra_consF (rx_lit rfl) (ra_consF (rx_lit rfl) (ra_consF (rx_lit rfl) (ra_consF (rx_var rfl) ra_nil)))))) ra_nil))) fun many16 => (show RS _ [.fz d1, .fz n2, .fz many16, .un] _ _ _ from (rs_ret (rx_call r__law_numbered (ra_consF (rx_fr (rx_lc (ri_rng1 (ro := true) (ra_consF (rx_var rfl) ra_nil)) (item1 (fun k17 => (show RT [.fz d1, .fz n2, .fz many16, .fz k17] _ _ from rt_yes)) (fun k17 => (show RX .fz [.fz d1, .fz n2, .fz many16, .fz k17] _ _ from (rx_call r__law_draw (ra_consF (rx_var rfl) (ra_consF (rx_var rfl) ra_nil)))))))) ra_nil))))))⟩ | [] => .inr rfl | [_] => .inr rfl | _ :: _ :: _ :: _ => .inr rfl
noncomputable def m__law_opens : List T → M T
  | [d1, fillings2, row3] => runF (bnd (bnd (mret []) fun l4 => mret (.lst l4)) fun found5 => (bnd (bnd (bnd (bnd (mret (.int 1)) fun x79 => bnd (bnd (bnd (mret row3) fun a76 => bnd (mret []) fun l77 => mret (a76 :: l77)) fun l78 => ofO ((mxT maxL fun i j => if j > i then j else i) l78)) fun y80 => ofO (addT x79 y80)) fun a81 => bnd (mret []) fun l82 => mret (a81 :: l82)) fun l75 => ofO (rng1T l75)) fun xs83 => bndX (forE (fun (s6 : T) => fun mark7 => (bnd (bnd (bnd (bnd (bnd (bnd (mret row3) fun a17 => bnd (mret []) fun l18 => mret (a17 :: l18)) fun l19 => ofO (lenT l19)) fun a20 => bnd (mret []) fun l21 => mret (a20 :: l21)) fun l16 => ofO (rng1T l16)) fun xs22 => lcM (fun k8 => gIt (bnd (bnd (bnd (mret row3) fun x9 => bnd (mret k8) fun y10 => ofO (ixB x9 y10)) fun x11 => bnd (mret mark7) fun y12 => ofO (cmpT false x11 y12)) fun x13 => ofO (blT x13)) (bnd (mret fillings2) fun x14 => bnd (mret k8) fun y15 => ofO (ixB x14 y15))) xs22 []) fun lot23 => (bnd (bnd (mret []) fun l24 => mret (.lst l24)) fun told25 => (bnd (bnd (bnd (bnd (bnd (bnd (mret fillings2) fun x63 => bnd (mret (.int 0)) fun y64 => ofO (ixB x63 y64)) fun a65 => bnd (mret []) fun l66 => mret (a65 :: l66)) fun l67 => ofO (lenT l67)) fun a68 => bnd (mret []) fun l69 => mret (a68 :: l69)) fun l62 => ofO (rng1T l62)) fun xs70 => bndX (forE (fun (s26 : T) => fun s27 => (bnd (bnd (bnd (bnd (bnd (bnd (bnd (bnd (mret lot23) fun x45 => ofO (valT x45)) fun xs46 => lcM (fun one35 => gIt (bnd (bnd (bnd (mret one35) fun x36 => bnd (mret s27) fun y37 => ofO (ixB x36 y37)) fun x42 => bnd (bnd (bnd (mret lot23) fun x38 => bnd (mret (.int 0)) fun y39 => ofO (ixB x38 y39)) fun x40 => bnd (mret s27) fun y41 => ofO (ixB x40 y41)) fun y43 => ofO (cmpT true x42 y43)) fun x44 => ofO (blT x44)) (mret one35)) xs46 []) fun a47 => bnd (mret []) fun l48 => mret (a47 :: l48)) fun l49 => ofO (lenT l49)) fun x50 => bnd (mret (.int 0)) fun y51 => ofO (cmpT false x50 y51)) fun x52 => ofO (blT x52)) fun b => if b = true then (bnd (bnd (bnd (bnd (mret d1) fun a30 => bnd (bnd (mret (.int 3)) fun a28 => bnd (mret []) fun l29 => mret (a28 :: l29)) fun l31 => mret (a30 :: l31)) m__law_draw) fun x32 => bnd (mret (.int 1)) fun y33 => ofO (cmpT false x32 y33)) fun x34 => ofO (blT x34)) else mret false) fun b => if b = true then (bnd (ofO (asL s26)) fun ts54 => bnd (mret s27) fun y55 => bnd (ofO (appT ts54 y55)) fun told53 => (mret (.nx told53))) else (mret (.nx s26)))) xs70 told25) fun (s26 : T) => (bnd (ofO (asL s6)) fun ts60 => bnd (bnd (bnd (mret s26) fun a56 => bnd (mret []) fun l57 => mret (a56 :: l57)) fun l58 => ofO (tupT l58)) fun y61 => bnd (ofO (appT ts60 y61)) fun found59 => (mret (.nx found59))))))) xs83 found5) fun (s6 : T) => (bnd (bnd (bnd (mret s6) fun a71 => bnd (mret []) fun l72 => mret (a71 :: l72)) fun l73 => ofO (tupT l73)) fun x74 => mret (.rt x74))))
  | _ => stuck
theorem r__law_opens : RF fn__law_opens m__law_opens := by
  rw [e__law_opens]; exact rf_of fun xs => match xs with | [d1, fillings2, row3] => .inl ⟨_, rfl, rfl, (show RS false [.fz d1, .fz fillings2, .fz row3, .un, .un, .un, .un, .un, .un, .un] _ (fun _ => [.un, .un, .un, .un, .un, .un, .un, .un, .un, .un]) _ from (rs_asgO (rx_lst ra_nil) fun found5 => (show RS _ [.fz d1, .fz fillings2, .fz row3, .ow found5, .un, .un, .un, .un, .un, .un] _ _ _ from (rs_for (L := fun (s6 : T) => [.fz d1, .fz fillings2, .fz row3, .ow s6, .un, .un, .un, .un, .un, .un]) (x0 := found5) (ri_rng1 (ro := false) (ra_consF (rx_fr (rx_op s2_add (rx_ro (rx_lit rfl)) (rx_ro (rx_cb sn_max (ra_consO (rx_ro (rx_var rfl)) ra_nil))))) ra_nil)) (.cons (.cons (.cons (.cons (.un (.un (.un (.un (.un (.un .nil)))))))))) (fun s6 => (tb1 fun mark7 => (show RS _ [.fz d1, .fz fillings2, .fz row3, .ow s6, .fz mark7, .un, .un, .un, .un, .un] _ _ _ from (rs_asg (rx_fr (rx_lc (ri_rng1 (ro := true) (ra_consF (rx_cb sn_len (ra_consO (rx_ro (rx_var rfl)) ra_nil)) ra_nil)) (item1 (fun k8 => (show RT [.fz d1, .fz fillings2, .fz row3, .ow s6, .fz mark7, .un, .fz k8, .un, .un, .un] _ _ from (rt_val (rx_op (s2_cmp false) (rx_ro (rx_op s2_ix (rx_ro (rx_var rfl)) (rx_ro (rx_var rfl)))) (rx_ro (rx_var rfl)))))) (fun k8 => (show RX .fz [.fz d1, .fz fillings2, .fz row3, .ow s6, .fz mark7, .un, .fz k8, .un, .un, .un] _ _ from (rx_op s2_ix (rx_ro (rx_var rfl)) (rx_ro (rx_var rfl)))))))) fun lot23 => (show RS _ [.fz d1, .fz fillings2, .fz row3, .ow s6, .fz mark7, .fz lot23, .un, .un, .un, .un] _ _ _ from (rs_asgO (rx_lst ra_nil) fun told25 => (show RS _ [.fz d1, .fz fillings2, .fz row3, .ow s6, .fz mark7, .fz lot23, .un, .ow told25, .un, .un] _ _ _ from (rs_for (L := fun (s26 : T) => [.fz d1, .fz fillings2, .fz row3, .ow s6, .fz mark7, .fz lot23, .un, .ow s26, .un, .un]) (x0 := told25) (ri_rng1 (ro := false) (ra_consF (rx_cb sn_len (ra_consO (rx_ro (rx_op s2_ix (rx_ro (rx_var rfl)) (rx_ro (rx_lit rfl)))) ra_nil)) ra_nil)) (.cons (.cons (.cons (.cons (.cons (.cons (.un (.cons (.un (.un .nil)))))))))) (fun s26 => (tb1 fun s27 => (show RS _ [.fz d1, .fz fillings2, .fz row3, .ow s6, .fz mark7, .fz lot23, .un, .ow s26, .fz s27, .un] _ _ _ from (rs_if (rt_and (rt_val (rx_op (s2_cmp false) (rx_ro (rx_cb sn_len (ra_consO (rx_ro (rx_fr (rx_lc (ri_val (rx_var rfl)) (item1 (fun one35 => (show RT [.fz d1, .fz fillings2, .fz row3, .ow s6, .fz mark7, .fz lot23, .un, .ow s26, .fz s27, .fz one35] _ _ from (rt_val (rx_op (s2_cmp true) (rx_ro (rx_op s2_ix (rx_ro (rx_var rfl)) (rx_ro (rx_var rfl)))) (rx_ro (rx_op s2_ix (rx_ro (rx_op s2_ix (rx_ro (rx_var rfl)) (rx_ro (rx_lit rfl)))) (rx_ro (rx_var rfl)))))))) (fun one35 => (show RX .fz [.fz d1, .fz fillings2, .fz row3, .ow s6, .fz mark7, .fz lot23, .un, .ow s26, .fz s27, .fz one35] _ _ from (rx_var rfl))))))) ra_nil))) (rx_ro (rx_lit rfl)))) (rt_val (rx_op (s2_cmp false) (rx_ro (rx_call r__law_draw (ra_consF (rx_var rfl) (ra_consF (rx_lit rfl) ra_nil)))) (rx_ro (rx_lit rfl))))) (rs_assoc (FM.rs_app (j := 7) rfl (rx_var rfl) fun told53 => (show RS _ [.fz d1, .fz fillings2, .fz row3, .ow s6, .fz mark7, .fz lot23, .un, .ow told53, .fz s27, .un] _ _ _ from (rs_skip (rs_end (.cons (.cons (.cons (.cons (.cons (.cons (.un (.cons (.un (.un .nil))))))))))))))) (rs_skip (rs_end (.cons (.cons (.cons (.cons (.cons (.cons (.un (.cons (.un (.un .nil)))))))))))))))) fun s26 => (show RS _ [.fz d1, .fz fillings2, .fz row3, .ow s6, .fz mark7, .fz lot23, .un, .ow s26, .un, .un] _ _ _ from (FM.rs_app (j := 3) rfl (rx_cb sn_tup (ra_consO (rx_varO rfl) ra_nil)) fun found59 => (show RS _ [.fz d1, .fz fillings2, .fz row3, .ow found59, .fz mark7, .fz lot23, .un, .ow s26, .un, .un] _ _ _ from (rs_end (.cons (.cons (.cons (.cons (.un (.un (.un (.un (.un (.un .nil)))))))))))))))))))))) fun s6 => (show RS _ [.fz d1, .fz fillings2, .fz row3, .ow s6, .un, .un, .un, .un, .un, .un] _ _ _ from (rs_ret (rx_cb sn_tup (ra_consO (rx_varO rfl) ra_nil))))))))⟩ | [] => .inr rfl | [_] => .inr rfl | [_, _] => .inr rfl | _ :: _ :: _ :: _ :: _ => .inr rfl
noncomputable def m__law_ledger : List T → M T
  | [d1, turns2, readers3] => runF (bnd (bnd (bnd (mret d1) fun a6 => bnd (bnd (mret turns2) fun a4 => bnd (mret []) fun l5 => mret (a4 :: l5)) fun l7 => mret (a6 :: l7)) m__law_fill_set) (un2 fun sizes8 fillings9 => (bnd (bnd (bnd (mret d1) fun a29 => bnd (bnd (mret sizes8) fun a27 => bnd (bnd (mret fillings9) fun a25 => bnd (bnd (bnd (bnd (mret d1) fun a21 => bnd (bnd (bnd (bnd (mret (.int 3)) fun a16 => bnd (bnd (mret (.int 3)) fun a14 => bnd (bnd (mret (.int 5)) fun a12 => bnd (bnd (mret (.int 1000000000000)) fun a10 => bnd (mret []) fun l11 => mret (a10 :: l11)) fun l13 => mret (a12 :: l13)) fun l15 => mret (a14 :: l15)) fun l17 => mret (a16 :: l17)) fun l18 => mret (.lst l18)) fun a19 => bnd (mret []) fun l20 => mret (a19 :: l20)) fun l22 => mret (a21 :: l22)) m__law_pick) fun a23 => bnd (mret []) fun l24 => mret (a23 :: l24)) fun l26 => mret (a25 :: l26)) fun l28 => mret (a27 :: l28)) fun l30 => mret (a29 :: l30)) m__law_fill_counts) fun counts31 => (bnd (bnd (mret []) fun l32 => mret (.lst l32)) fun marks33 => (bnd (bnd (mret []) fun l34 => mret (.lst l34)) fun opens35 => (bnd (bnd (bnd (mret readers3) fun a75 => bnd (mret []) fun l76 => mret (a75 :: l76)) fun l74 => ofO (rng1T l74)) fun xs77 => bndX (forE (fun (s36 : T × T) => fun r37 => (bnd (bnd (bnd (mret d1) fun a43 => bnd (bnd (bnd (bnd (mret fillings9) fun a38 => bnd (mret []) fun l39 => mret (a38 :: l39)) fun l40 => ofO (lenT l40)) fun a41 => bnd (mret []) fun l42 => mret (a41 :: l42)) fun l44 => mret (a43 :: l44)) m__law_marks) fun row45 => (bnd (ofO (asL s36.1)) fun ts47 => bnd (mret row45) fun y48 => bnd (ofO (appT ts47 y48)) fun marks46 => (bnd (ofO (asL s36.2)) fun ts56 => bnd (bnd (bnd (mret d1) fun a53 => bnd (bnd (mret fillings9) fun a51 => bnd (bnd (mret row45) fun a49 => bnd (mret []) fun l50 => mret (a49 :: l50)) fun l52 => mret (a51 :: l52)) fun l54 => mret (a53 :: l54)) m__law_opens) fun y57 => bnd (ofO (appT ts56 y57)) fun opens55 => (mret (.nx (marks46, opens55))))))) xs77 (marks33, opens35)) fun (s36 : T × T) => (bnd (bnd (bnd (mret fillings9) fun a70 => bnd (bnd (mret counts31) fun a68 => bnd (bnd (bnd (bnd (mret s36.1) fun a63 => bnd (mret []) fun l64 => mret (a63 :: l64)) fun l65 => ofO (tupT l65)) fun a66 => bnd (bnd (bnd (bnd (mret s36.2) fun a58 => bnd (mret []) fun l59 => mret (a58 :: l59)) fun l60 => ofO (tupT l60)) fun a61 => bnd (mret []) fun l62 => mret (a61 :: l62)) fun l67 => mret (a66 :: l67)) fun l69 => mret (a68 :: l69)) fun l71 => mret (a70 :: l71)) fun l72 => mret (.tup l72)) fun x73 => mret (.rt x73))))))))
  | _ => stuck
theorem r__law_ledger : RF fn__law_ledger m__law_ledger := by
  rw [e__law_ledger]; exact rf_of fun xs => match xs with | [d1, turns2, readers3] => .inl ⟨_, rfl, rfl, (show RS false [.fz d1, .fz turns2, .fz readers3, .un, .un, .un, .un, .un, .un, .un] _ (fun _ => [.un, .un, .un, .un, .un, .un, .un, .un, .un, .un]) _ from (rs_asg2 (rx_call r__law_fill_set (ra_consF (rx_var rfl) (ra_consF (rx_var rfl) ra_nil))) fun sizes8 fillings9 => (show RS _ [.fz d1, .fz turns2, .fz readers3, .fz sizes8, .fz fillings9, .un, .un, .un, .un, .un] _ _ _ from (rs_asg (rx_call r__law_fill_counts (ra_consF (rx_var rfl) (ra_consF (rx_var rfl) (ra_consF (rx_var rfl) (ra_consF (rx_call r__law_pick (ra_consF (rx_var rfl) (ra_consF (rx_fr (rx_lst (ra_consF (rx_lit rfl) (ra_consF (rx_lit rfl) (ra_consF (rx_lit rfl) (ra_consF (rx_lit rfl) ra_nil)))))) ra_nil))) ra_nil))))) fun counts31 => (show RS _ [.fz d1, .fz turns2, .fz readers3, .fz sizes8, .fz fillings9, .fz counts31, .un, .un, .un, .un] _ _ _ from (rs_asgO (rx_lst ra_nil) fun marks33 => (show RS _ [.fz d1, .fz turns2, .fz readers3, .fz sizes8, .fz fillings9, .fz counts31, .ow marks33, .un, .un, .un] _ _ _ from (rs_asgO (rx_lst ra_nil) fun opens35 => (show RS _ [.fz d1, .fz turns2, .fz readers3, .fz sizes8, .fz fillings9, .fz counts31, .ow marks33, .ow opens35, .un, .un] _ _ _ from (rs_for (L := fun (s36 : T × T) => [.fz d1, .fz turns2, .fz readers3, .fz sizes8, .fz fillings9, .fz counts31, .ow s36.1, .ow s36.2, .un, .un]) (x0 := (marks33, opens35)) (ri_rng1 (ro := false) (ra_consF (rx_var rfl) ra_nil)) (.cons (.cons (.cons (.cons (.cons (.cons (.cons (.cons (.un (.un .nil)))))))))) (fun s36 => (tb1 fun r37 => (show RS _ [.fz d1, .fz turns2, .fz readers3, .fz sizes8, .fz fillings9, .fz counts31, .ow s36.1, .ow s36.2, .fz r37, .un] _ _ _ from (rs_asg (rx_call r__law_marks (ra_consF (rx_var rfl) (ra_consF (rx_cb sn_len (ra_consO (rx_ro (rx_var rfl)) ra_nil)) ra_nil))) fun row45 => (show RS _ [.fz d1, .fz turns2, .fz readers3, .fz sizes8, .fz fillings9, .fz counts31, .ow s36.1, .ow s36.2, .fz r37, .fz row45] _ _ _ from (FM.rs_app (j := 6) rfl (rx_var rfl) fun marks46 => (show RS _ [.fz d1, .fz turns2, .fz readers3, .fz sizes8, .fz fillings9, .fz counts31, .ow marks46, .ow s36.2, .fz r37, .fz row45] _ _ _ from (FM.rs_app (j := 7) rfl (rx_call r__law_opens (ra_consF (rx_var rfl) (ra_consF (rx_var rfl) (ra_consF (rx_var rfl) ra_nil)))) fun opens55 => (show RS _ [.fz d1, .fz turns2, .fz readers3, .fz sizes8, .fz fillings9, .fz counts31, .ow marks46, .ow opens55, .fz r37, .fz row45] _ _ _ from (rs_end (.cons (.cons (.cons (.cons (.cons (.cons (.cons (.cons (.un (.un .nil)))))))))))))))))))) fun s36 => (show RS _ [.fz d1, .fz turns2, .fz readers3, .fz sizes8, .fz fillings9, .fz counts31, .ow s36.1, .ow s36.2, .un, .un] _ _ _ from (rs_ret (rx_tup (ra_consF (rx_var rfl) (ra_consF (rx_var rfl) (ra_consF (rx_cb sn_tup (ra_consO (rx_varO rfl) ra_nil)) (ra_consF (rx_cb sn_tup (ra_consO (rx_varO rfl) ra_nil)) ra_nil)))))))))))))))))⟩ | [] => .inr rfl | [_] => .inr rfl | [_, _] => .inr rfl | _ :: _ :: _ :: _ :: _ => .inr rfl
noncomputable def m__law_circle : List T → M T
  | [d1, many2] => runF (bnd (bnd (bnd (bnd (bnd (bnd (mret many2) fun a12 => bnd (mret []) fun l13 => mret (a12 :: l13)) fun l11 => ofO (rng1T l11)) fun xs14 => lcM (fun r3 => gIt (bnd (bnd (bnd (bnd (mret d1) fun a6 => bnd (bnd (mret (.int 3)) fun a4 => bnd (mret []) fun l5 => mret (a4 :: l5)) fun l7 => mret (a6 :: l7)) m__law_draw) fun x8 => bnd (mret (.int 0)) fun y9 => ofO (ordT (fun i j => decide (j < i)) x8 y9)) fun x10 => ofO (blT x10)) (mret r3)) xs14 []) fun a15 => bnd (mret []) fun l16 => mret (a15 :: l16)) fun l17 => ofO (tupT l17)) fun x18 => mret (.rt x18))
  | _ => stuck
theorem r__law_circle : RF fn__law_circle m__law_circle := by
  rw [e__law_circle]; exact rf_of fun xs => match xs with | [d1, many2] => .inl ⟨_, rfl, rfl, (show RS false [.fz d1, .fz many2, .un] _ (fun _ => [.un, .un, .un]) _ from (rs_ret (rx_cb sn_tup (ra_consO (rx_ro (rx_fr (rx_lc (ri_rng1 (ro := true) (ra_consF (rx_var rfl) ra_nil)) (item1 (fun r3 => (show RT [.fz d1, .fz many2, .fz r3] _ _ from (rt_val (rx_op (s2_ord (fun i j => decide (j < i))) (rx_ro (rx_call r__law_draw (ra_consF (rx_var rfl) (ra_consF (rx_lit rfl) ra_nil)))) (rx_ro (rx_lit rfl)))))) (fun r3 => (show RX .fz [.fz d1, .fz many2, .fz r3] _ _ from (rx_var rfl))))))) ra_nil))))⟩ | [] => .inr rfl | [_] => .inr rfl | _ :: _ :: _ :: _ => .inr rfl
noncomputable def m__law_walk : List T → M T
  | [d1, ledger2, circle3, j4] => runF (bnd (bnd (bnd (mret j4) fun a5 => bnd (mret []) fun l6 => mret (a5 :: l6)) fun l7 => mret (.lst l7)) fun walk8 => (bnd (bnd (bnd (bnd (bnd (mret d1) fun a78 => bnd (bnd (mret (.int 7)) fun a76 => bnd (mret []) fun l77 => mret (a76 :: l77)) fun l79 => mret (a78 :: l79)) m__law_draw) fun a80 => bnd (mret []) fun l81 => mret (a80 :: l81)) fun l75 => ofO (rng1T l75)) fun xs82 => bndX (forE (fun (s9 : T) => fun turn10 => (bnd (bnd (bnd (bnd (mret circle3) fun x18 => ofO (truT x18)) fun b => if b = true then (bnd (bnd (bnd (bnd (mret d1) fun a13 => bnd (bnd (mret (.int 8)) fun a11 => bnd (mret []) fun l12 => mret (a11 :: l12)) fun l14 => mret (a13 :: l14)) m__law_draw) fun x15 => bnd (mret (.int 0)) fun y16 => ofO (ordT (fun i j => decide (j < i)) x15 y16)) fun x17 => ofO (blT x17)) else mret false) fun b => if b = true then (bnd (bnd (mret d1) fun a21 => bnd (bnd (mret circle3) fun a19 => bnd (mret []) fun l20 => mret (a19 :: l20)) fun l22 => mret (a21 :: l22)) m__law_pick) else (bnd (bnd (mret d1) fun a30 => bnd (bnd (bnd (bnd (bnd (mret ledger2) fun x23 => bnd (mret (.int 2)) fun y24 => ofO (ixB x23 y24)) fun a25 => bnd (mret []) fun l26 => mret (a25 :: l26)) fun l27 => ofO (lenT l27)) fun a28 => bnd (mret []) fun l29 => mret (a28 :: l29)) fun l31 => mret (a30 :: l31)) m__law_draw)) fun r32 => (bnd (bnd (bnd (bnd (bnd (bnd (bnd (mret ledger2) fun x53 => bnd (mret (.int 0)) fun y54 => ofO (ixB x53 y54)) fun a55 => bnd (mret []) fun l56 => mret (a55 :: l56)) fun l57 => ofO (lenT l57)) fun a58 => bnd (mret []) fun l59 => mret (a58 :: l59)) fun l52 => ofO (rng1T l52)) fun xs60 => lcM (fun n33 => gIt (bnd (bnd (bnd (bnd (bnd (mret ledger2) fun x34 => bnd (mret (.int 2)) fun y35 => ofO (ixB x34 y35)) fun x36 => bnd (mret r32) fun y37 => ofO (ixB x36 y37)) fun x38 => bnd (mret n33) fun y39 => ofO (ixB x38 y39)) fun x49 => bnd (bnd (bnd (bnd (mret ledger2) fun x40 => bnd (mret (.int 2)) fun y41 => ofO (ixB x40 y41)) fun x42 => bnd (mret r32) fun y43 => ofO (ixB x42 y43)) fun x47 => bnd (bnd (mret s9) fun x45 => bnd (bnd (mret (.int 1)) fun x44 => ofO (negT x44)) fun y46 => ofO (ixB x45 y46)) fun y48 => ofO (ixB x47 y48)) fun y50 => ofO (cmpT false x49 y50)) fun x51 => ofO (blT x51)) (mret n33)) xs60 []) fun near61 => (bnd (bnd (mret s9) fun x71 => bnd (bnd (bnd (mret r32) fun a68 => bnd (bnd (bnd (bnd (mret d1) fun a64 => bnd (bnd (mret near61) fun a62 => bnd (mret []) fun l63 => mret (a62 :: l63)) fun l65 => mret (a64 :: l65)) m__law_pick) fun a66 => bnd (mret []) fun l67 => mret (a66 :: l67)) fun l69 => mret (a68 :: l69)) fun l70 => mret (.lst l70)) fun y72 => ofO (addT x71 y72)) fun walk73 => (mret (.nx walk73)))))) xs82 walk8) fun (s9 : T) => (bnd (mret s9) fun x74 => mret (.rt x74))))
  | _ => stuck
theorem r__law_walk : RF fn__law_walk m__law_walk := by
  rw [e__law_walk]; exact rf_of fun xs => match xs with | [d1, ledger2, circle3, j4] => .inl ⟨_, rfl, rfl, (show RS false [.fz d1, .fz ledger2, .fz circle3, .fz j4, .un, .un, .un, .un, .un] _ (fun _ => [.un, .un, .un, .un, .un, .un, .un, .un, .un]) _ from (rs_asg (rx_fr (rx_lst (ra_consF (rx_var rfl) ra_nil))) fun walk8 => (show RS _ [.fz d1, .fz ledger2, .fz circle3, .fz j4, .fz walk8, .un, .un, .un, .un] _ _ _ from (rs_for (L := fun (s9 : T) => [.fz d1, .fz ledger2, .fz circle3, .fz j4, .fz s9, .un, .un, .un, .un]) (x0 := walk8) (ri_rng1 (ro := false) (ra_consF (rx_call r__law_draw (ra_consF (rx_var rfl) (ra_consF (rx_lit rfl) ra_nil))) ra_nil)) (.cons (.cons (.cons (.cons (.cons (.un (.un (.un (.un .nil))))))))) (fun s9 => (tb1 fun turn10 => (show RS _ [.fz d1, .fz ledger2, .fz circle3, .fz j4, .fz s9, .fz turn10, .un, .un, .un] _ _ _ from (rs_asg (rx_if (rt_and (rt_tru (rx_ro (rx_var rfl))) (rt_val (rx_op (s2_ord (fun i j => decide (j < i))) (rx_ro (rx_call r__law_draw (ra_consF (rx_var rfl) (ra_consF (rx_lit rfl) ra_nil)))) (rx_ro (rx_lit rfl))))) (rx_call r__law_pick (ra_consF (rx_var rfl) (ra_consF (rx_var rfl) ra_nil))) (rx_call r__law_draw (ra_consF (rx_var rfl) (ra_consF (rx_cb sn_len (ra_consO (rx_ro (rx_op s2_ix (rx_ro (rx_var rfl)) (rx_ro (rx_lit rfl)))) ra_nil)) ra_nil)))) fun r32 => (show RS _ [.fz d1, .fz ledger2, .fz circle3, .fz j4, .fz s9, .fz turn10, .fz r32, .un, .un] _ _ _ from (rs_asg (rx_fr (rx_lc (ri_rng1 (ro := true) (ra_consF (rx_cb sn_len (ra_consO (rx_ro (rx_op s2_ix (rx_ro (rx_var rfl)) (rx_ro (rx_lit rfl)))) ra_nil)) ra_nil)) (item1 (fun n33 => (show RT [.fz d1, .fz ledger2, .fz circle3, .fz j4, .fz s9, .fz turn10, .fz r32, .un, .fz n33] _ _ from (rt_val (rx_op (s2_cmp false) (rx_ro (rx_op s2_ix (rx_ro (rx_op s2_ix (rx_ro (rx_op s2_ix (rx_ro (rx_var rfl)) (rx_ro (rx_lit rfl)))) (rx_ro (rx_var rfl)))) (rx_ro (rx_var rfl)))) (rx_ro (rx_op s2_ix (rx_ro (rx_op s2_ix (rx_ro (rx_op s2_ix (rx_ro (rx_var rfl)) (rx_ro (rx_lit rfl)))) (rx_ro (rx_var rfl)))) (rx_ro (rx_op s2_ix (rx_ro (rx_var rfl)) (rx_ro (rx_un s1_neg (rx_ro (rx_lit rfl)))))))))))) (fun n33 => (show RX .fz [.fz d1, .fz ledger2, .fz circle3, .fz j4, .fz s9, .fz turn10, .fz r32, .un, .fz n33] _ _ from (rx_var rfl)))))) fun near61 => (show RS _ [.fz d1, .fz ledger2, .fz circle3, .fz j4, .fz s9, .fz turn10, .fz r32, .fz near61, .un] _ _ _ from (rs_asg (rx_fr (rx_op s2_add (rx_ro (rx_var rfl)) (rx_ro (rx_fr (rx_lst (ra_consF (rx_var rfl) (ra_consF (rx_call r__law_pick (ra_consF (rx_var rfl) (ra_consF (rx_var rfl) ra_nil))) ra_nil))))))) fun walk73 => (show RS _ [.fz d1, .fz ledger2, .fz circle3, .fz j4, .fz walk73, .fz turn10, .fz r32, .fz near61, .un] _ _ _ from (rs_end (.cons (.cons (.cons (.cons (.cons (.un (.un (.un (.un .nil))))))))))))))))))) fun s9 => (show RS _ [.fz d1, .fz ledger2, .fz circle3, .fz j4, .fz s9, .un, .un, .un, .un] _ _ _ from (rs_ret (rx_var rfl)))))))⟩ | [] => .inr rfl | [_] => .inr rfl | [_, _] => .inr rfl | [_, _, _] => .inr rfl | _ :: _ :: _ :: _ :: _ :: _ => .inr rfl
noncomputable def m__law_bent : List T → M T
  | [d1, row2] => runF (bnd (bnd (bnd (mret d1) fun a5 => bnd (bnd (mret (.int 6)) fun a3 => bnd (mret []) fun l4 => mret (a3 :: l4)) fun l6 => mret (a5 :: l6)) m__law_draw) fun kind7 => (bnd (bnd (bnd (bnd (mret kind7) fun x9 => bnd (mret (.int 0)) fun y10 => ofO (cmpT false x9 y10)) fun x11 => ofO (blT x11)) fun b => if b = true then (bnd (mret row2) fun x8 => ofO (truT x8)) else mret false) fun b => if b = true then (bnd (bnd (bnd (mret d1) fun a17 => bnd (bnd (bnd (bnd (mret row2) fun a12 => bnd (mret []) fun l13 => mret (a12 :: l13)) fun l14 => ofO (lenT l14)) fun a15 => bnd (mret []) fun l16 => mret (a15 :: l16)) fun l18 => mret (a17 :: l18)) m__law_draw) fun at19 => (bnd (bnd (bnd (bnd (mret row2) fun x22 => bnd (mret none) fun i23 => bnd (bnd (mret at19) fun x20 => bnd (ofO (intO x20)) fun i21 => mret (some i21)) fun i24 => ofO (slT x22 i23 i24)) fun x34 => bnd (bnd (bnd (bnd (bnd (bnd (mret d1) fun a27 => bnd (bnd (mret (.int 14)) fun a25 => bnd (mret []) fun l26 => mret (a25 :: l26)) fun l28 => mret (a27 :: l28)) m__law_draw) fun x29 => bnd (mret (.int 1)) fun y30 => ofO (intT (· - ·) x29 y30)) fun a31 => bnd (mret []) fun l32 => mret (a31 :: l32)) fun l33 => mret (.lst l33)) fun y35 => ofO (addT x34 y35)) fun x43 => bnd (bnd (mret row2) fun x40 => bnd (bnd (bnd (mret at19) fun x36 => bnd (mret (.int 1)) fun y37 => ofO (addT x36 y37)) fun x38 => bnd (ofO (intO x38)) fun i39 => mret (some i39)) fun i41 => bnd (mret none) fun i42 => ofO (slT x40 i41 i42)) fun y44 => ofO (addT x43 y44)) fun x45 => mret (.rt x45))) else (bnd (bnd (bnd (mret kind7) fun x46 => bnd (mret (.int 1)) fun y47 => ofO (cmpT false x46 y47)) fun x48 => ofO (blT x48)) fun b => if b = true then (bnd (bnd (mret row2) fun x52 => bnd (mret none) fun i53 => bnd (bnd (bnd (mret (.int 1)) fun x49 => ofO (negT x49)) fun x50 => bnd (ofO (intO x50)) fun i51 => mret (some i51)) fun i54 => ofO (slT x52 i53 i54)) fun x55 => mret (.rt x55)) else (bnd (bnd (bnd (mret kind7) fun x56 => bnd (mret (.int 2)) fun y57 => ofO (cmpT false x56 y57)) fun x58 => ofO (blT x58)) fun b => if b = true then (bnd (bnd (mret row2) fun x68 => bnd (bnd (bnd (bnd (bnd (bnd (mret d1) fun a61 => bnd (bnd (mret (.int 14)) fun a59 => bnd (mret []) fun l60 => mret (a59 :: l60)) fun l62 => mret (a61 :: l62)) m__law_draw) fun x63 => bnd (mret (.int 1)) fun y64 => ofO (intT (· - ·) x63 y64)) fun a65 => bnd (mret []) fun l66 => mret (a65 :: l66)) fun l67 => mret (.lst l67)) fun y69 => ofO (addT x68 y69)) fun x70 => mret (.rt x70)) else (bnd (bnd (bnd (bnd (bnd (mret kind7) fun x78 => bnd (mret (.int 3)) fun y79 => ofO (cmpT false x78 y79)) fun x80 => ofO (blT x80)) fun b => if b = true then (bnd (bnd (bnd (bnd (mret d1) fun a73 => bnd (bnd (mret (.int 3)) fun a71 => bnd (mret []) fun l72 => mret (a71 :: l72)) fun l74 => mret (a73 :: l74)) m__law_draw) fun x75 => bnd (mret (.int 1)) fun y76 => ofO (cmpT false x75 y76)) fun x77 => ofO (blT x77)) else mret false) fun b => if b = true then (bnd (mret []) fun l81 => mret (.lst l81)) else (mret row2)) fun x82 => mret (.rt x82))))))
  | _ => stuck
theorem r__law_bent : RF fn__law_bent m__law_bent := by
  rw [e__law_bent]; exact rf_of fun xs => match xs with | [d1, row2] => .inl ⟨_, rfl, rfl, (show RS false [.fz d1, .fz row2, .un, .un] _ (fun _ => [.un, .un, .un, .un]) _ from (rs_asg (rx_call r__law_draw (ra_consF (rx_var rfl) (ra_consF (rx_lit rfl) ra_nil))) fun kind7 => (show RS _ [.fz d1, .fz row2, .fz kind7, .un] _ _ _ from (rs_if (rt_and (rt_val (rx_op (s2_cmp false) (rx_ro (rx_var rfl)) (rx_ro (rx_lit rfl)))) (rt_tru (rx_ro (rx_var rfl)))) (rs_assoc (rs_asg (rx_call r__law_draw (ra_consF (rx_var rfl) (ra_consF (rx_cb sn_len (ra_consO (rx_ro (rx_var rfl)) ra_nil)) ra_nil))) fun at19 => (show RS _ [.fz d1, .fz row2, .fz kind7, .fz at19] _ _ _ from (rs_assoc (rs_ret (rx_fr (rx_op s2_add (rx_ro (rx_fr (rx_op s2_add (rx_ro (rx_fr (rx_sl (rx_ro (rx_var rfl)) ro_no (ro_so (rx_var rfl))))) (rx_ro (rx_fr (rx_lst (ra_consF (rx_op (s2_int (· - ·)) (rx_ro (rx_call r__law_draw (ra_consF (rx_var rfl) (ra_consF (rx_lit rfl) ra_nil)))) (rx_ro (rx_lit rfl))) ra_nil))))))) (rx_ro (rx_fr (rx_sl (rx_ro (rx_var rfl)) (ro_so (rx_fr (rx_op s2_add (rx_ro (rx_var rfl)) (rx_ro (rx_lit rfl))))) ro_no)))))))))) (rs_skip (rs_if (rt_val (rx_op (s2_cmp false) (rx_ro (rx_var rfl)) (rx_ro (rx_lit rfl)))) (rs_assoc (rs_ret (rx_fr (rx_sl (rx_ro (rx_var rfl)) ro_no (ro_so (rx_un s1_neg (rx_ro (rx_lit rfl)))))))) (rs_skip (rs_if (rt_val (rx_op (s2_cmp false) (rx_ro (rx_var rfl)) (rx_ro (rx_lit rfl)))) (rs_assoc (rs_ret (rx_fr (rx_op s2_add (rx_ro (rx_var rfl)) (rx_ro (rx_fr (rx_lst (ra_consF (rx_op (s2_int (· - ·)) (rx_ro (rx_call r__law_draw (ra_consF (rx_var rfl) (ra_consF (rx_lit rfl) ra_nil)))) (rx_ro (rx_lit rfl))) ra_nil)))))))) (rs_skip (rs_ret (rx_if (rt_and (rt_val (rx_op (s2_cmp false) (rx_ro (rx_var rfl)) (rx_ro (rx_lit rfl)))) (rt_val (rx_op (s2_cmp false) (rx_ro (rx_call r__law_draw (ra_consF (rx_var rfl) (ra_consF (rx_lit rfl) ra_nil)))) (rx_ro (rx_lit rfl))))) (rx_fr (rx_lst ra_nil)) (rx_var rfl))))))))))))⟩ | [] => .inr rfl | [_] => .inr rfl | _ :: _ :: _ :: _ => .inr rfl
noncomputable def m__law_link_right : List T → M T
  | [ledger1, circle2, j3, k4, link5] => runF (bnd (bnd (bnd (bnd (mret ledger1) fun x6 => bnd (mret (.int 0)) fun y7 => ofO (ixB x6 y7)) fun a8 => bnd (mret []) fun l9 => mret (a8 :: l9)) fun l10 => ofO (lenT l10)) fun many11 => (bnd (bnd (bnd (bnd (bnd (bnd (bnd (mret link5) fun a23 => bnd (mret []) fun l24 => mret (a23 :: l24)) fun l25 => ofO (lenT l25)) fun x26 => bnd (mret (.int 1)) fun y27 => ofO (intT Builtin.bitAnd x26 y27)) fun x28 => bnd (mret (.int 0)) fun y29 => ofO (cmpT false x28 y29)) fun x30 => ofO (blT x30)) fun b => if b = true then mret true else (bnd (bnd (bnd (bnd (mret link5) fun x18 => bnd (mret (.int 0)) fun y19 => ofO (ixB x18 y19)) fun x20 => bnd (mret j3) fun y21 => ofO (cmpT true x20 y21)) fun x22 => ofO (blT x22)) fun b => if b = true then mret true else (bnd (bnd (bnd (mret link5) fun x13 => bnd (bnd (mret (.int 1)) fun x12 => ofO (negT x12)) fun y14 => ofO (ixB x13 y14)) fun x15 => bnd (mret k4) fun y16 => ofO (cmpT true x15 y16)) fun x17 => ofO (blT x17)))) fun b => if b = true then (bnd (mret (.bl false)) fun x31 => mret (.rt x31)) else (bnd (bnd (bnd (mret (.int 1)) fun a85 => bnd (bnd (bnd (bnd (mret link5) fun a80 => bnd (mret []) fun l81 => mret (a80 :: l81)) fun l82 => ofO (lenT l82)) fun a83 => bnd (bnd (mret (.int 2)) fun a78 => bnd (mret []) fun l79 => mret (a78 :: l79)) fun l84 => mret (a83 :: l84)) fun l86 => mret (a85 :: l86)) fun l77 => ofO (rng3T l77)) fun xs87 => bndX (forE (fun (s32 : Unit) => fun n33 => (bnd (bnd (bnd (bnd (bnd (mret link5) fun x42 => bnd (mret n33) fun y43 => ofO (ixB x42 y43)) fun x44 => bnd (mret circle2) fun y45 => ofO (inT true x44 y45)) fun x46 => ofO (blT x46)) fun b => if b = true then mret true else (bnd (bnd (bnd (mret link5) fun x36 => bnd (bnd (mret n33) fun x34 => bnd (mret (.int 1)) fun y35 => ofO (addT x34 y35)) fun y37 => ofO (ixB x36 y37)) fun x39 => bnd (bnd (mret many11) fun x38 => ofO (lrT (.int 0) x38)) fun y40 => ofO (inT true x39 y40)) fun x41 => ofO (blT x41))) fun b => if b = true then (bnd (mret (.bl false)) fun x47 => mret (.rt x47)) else (bnd (bnd (bnd (bnd (bnd (bnd (mret ledger1) fun x48 => bnd (mret (.int 2)) fun y49 => ofO (ixB x48 y49)) fun x52 => bnd (bnd (mret link5) fun x50 => bnd (mret n33) fun y51 => ofO (ixB x50 y51)) fun y53 => ofO (ixB x52 y53)) fun x58 => bnd (bnd (mret link5) fun x56 => bnd (bnd (mret n33) fun x54 => bnd (mret (.int 1)) fun y55 => ofO (intT (· - ·) x54 y55)) fun y57 => ofO (ixB x56 y57)) fun y59 => ofO (ixB x58 y59)) fun x72 => bnd (bnd (bnd (bnd (mret ledger1) fun x60 => bnd (mret (.int 2)) fun y61 => ofO (ixB x60 y61)) fun x64 => bnd (bnd (mret link5) fun x62 => bnd (mret n33) fun y63 => ofO (ixB x62 y63)) fun y65 => ofO (ixB x64 y65)) fun x70 => bnd (bnd (mret link5) fun x68 => bnd (bnd (mret n33) fun x66 => bnd (mret (.int 1)) fun y67 => ofO (addT x66 y67)) fun y69 => ofO (ixB x68 y69)) fun y71 => ofO (ixB x70 y71)) fun y73 => ofO (cmpT true x72 y73)) fun x74 => ofO (blT x74)) fun b => if b = true then (bnd (mret (.bl false)) fun x75 => mret (.rt x75)) else (mret (Ex.nx ()))))) xs87 ()) fun (s32 : Unit) => (bnd (mret (.bl true)) fun x76 => mret (.rt x76)))))
  | _ => stuck
theorem r__law_link_right : RF fn__law_link_right m__law_link_right := by
  rw [e__law_link_right]; exact rf_of fun xs => match xs with | [ledger1, circle2, j3, k4, link5] => .inl ⟨_, rfl, rfl, (show RS false [.fz ledger1, .fz circle2, .fz j3, .fz k4, .fz link5, .un, .un] _ (fun _ => [.un, .un, .un, .un, .un, .un, .un]) _ from (rs_asg (rx_cb sn_len (ra_consO (rx_ro (rx_op s2_ix (rx_ro (rx_var rfl)) (rx_ro (rx_lit rfl)))) ra_nil)) fun many11 => (show RS _ [.fz ledger1, .fz circle2, .fz j3, .fz k4, .fz link5, .fz many11, .un] _ _ _ from (rs_if (rt_or (rt_val (rx_op (s2_cmp false) (rx_ro (rx_op (s2_int Builtin.bitAnd) (rx_ro (rx_cb sn_len (ra_consO (rx_ro (rx_var rfl)) ra_nil))) (rx_ro (rx_lit rfl)))) (rx_ro (rx_lit rfl)))) (rt_or (rt_val (rx_op (s2_cmp true) (rx_ro (rx_op s2_ix (rx_ro (rx_var rfl)) (rx_ro (rx_lit rfl)))) (rx_ro (rx_var rfl)))) (rt_val (rx_op (s2_cmp true) (rx_ro (rx_op s2_ix (rx_ro (rx_var rfl)) (rx_ro (rx_un s1_neg (rx_ro (rx_lit rfl)))))) (rx_ro (rx_var rfl)))))) (rs_assoc (rs_ret (rx_lit rfl))) (rs_skip (rs_for (L := fun (s32 : Unit) => [.fz ledger1, .fz circle2, .fz j3, .fz k4, .fz link5, .fz many11, .un]) (x0 := ()) (ri_rng3 (ro := false) (ra_consF (rx_lit rfl) (ra_consF (rx_cb sn_len (ra_consO (rx_ro (rx_var rfl)) ra_nil)) (ra_consF (rx_lit rfl) ra_nil)))) (.cons (.cons (.cons (.cons (.cons (.cons (.un .nil))))))) (fun s32 => (tb1 fun n33 => (show RS _ [.fz ledger1, .fz circle2, .fz j3, .fz k4, .fz link5, .fz many11, .fz n33] _ _ _ from (rs_if (rt_or (rt_val (rx_op (s2_in true) (rx_ro (rx_op s2_ix (rx_ro (rx_var rfl)) (rx_ro (rx_var rfl)))) (rx_ro (rx_var rfl)))) (rt_val (rx_op (s2_in true) (rx_ro (rx_op s2_ix (rx_ro (rx_var rfl)) (rx_ro (rx_fr (rx_op s2_add (rx_ro (rx_var rfl)) (rx_ro (rx_lit rfl))))))) (rx_ro (rx_fr (rx_lr1 (rx_var rfl))))))) (rs_assoc (rs_ret (rx_lit rfl))) (rs_skip (rs_if (rt_val (rx_op (s2_cmp true) (rx_ro (rx_op s2_ix (rx_ro (rx_op s2_ix (rx_ro (rx_op s2_ix (rx_ro (rx_var rfl)) (rx_ro (rx_lit rfl)))) (rx_ro (rx_op s2_ix (rx_ro (rx_var rfl)) (rx_ro (rx_var rfl)))))) (rx_ro (rx_op s2_ix (rx_ro (rx_var rfl)) (rx_ro (rx_op (s2_int (· - ·)) (rx_ro (rx_var rfl)) (rx_ro (rx_lit rfl)))))))) (rx_ro (rx_op s2_ix (rx_ro (rx_op s2_ix (rx_ro (rx_op s2_ix (rx_ro (rx_var rfl)) (rx_ro (rx_lit rfl)))) (rx_ro (rx_op s2_ix (rx_ro (rx_var rfl)) (rx_ro (rx_var rfl)))))) (rx_ro (rx_op s2_ix (rx_ro (rx_var rfl)) (rx_ro (rx_fr (rx_op s2_add (rx_ro (rx_var rfl)) (rx_ro (rx_lit rfl))))))))))) (rs_assoc (rs_ret (rx_lit rfl))) (rs_skip (rs_end (.cons (.cons (.cons (.cons (.cons (.cons (.un .nil))))))))))))))) fun s32 => (show RS _ [.fz ledger1, .fz circle2, .fz j3, .fz k4, .fz link5, .fz many11, .un] _ _ _ from (rs_ret (rx_lit rfl)))))))))⟩ | [] => .inr rfl | [_] => .inr rfl | [_, _] => .inr rfl | [_, _, _] => .inr rfl | [_, _, _, _] => .inr rfl | _ :: _ :: _ :: _ :: _ :: _ :: _ => .inr rfl
noncomputable def mb__law_exact (self : List T → M T) : List T → M T
  | [told1, due2] => runF (bnd (bnd (bnd (bnd (mret due2) fun a5 => bnd (bnd (mret (.ty "tuple")) fun a3 => bnd (mret []) fun l4 => mret (a3 :: l4)) fun l6 => mret (a5 :: l6)) fun l7 => ofO (isiT l7)) fun x8 => ofO (truT x8)) fun b => if b = true then (bnd (bnd (bnd (bnd (bnd (bnd (mret told1) fun a20 => bnd (bnd (mret (.ty "tuple")) fun a18 => bnd (mret []) fun l19 => mret (a18 :: l19)) fun l21 => mret (a20 :: l21)) fun l22 => ofO (isiT l22)) fun x23 => ofO (truT x23)) fun b => mret (!b)) fun b => if b = true then mret true else (bnd (bnd (bnd (bnd (mret told1) fun a9 => bnd (mret []) fun l10 => mret (a9 :: l10)) fun l11 => ofO (lenT l11)) fun x15 => bnd (bnd (bnd (mret due2) fun a12 => bnd (mret []) fun l13 => mret (a12 :: l13)) fun l14 => ofO (lenT l14)) fun y16 => ofO (cmpT true x15 y16)) fun x17 => ofO (blT x17))) fun b => if b = true then (bnd (mret (.bl false)) fun x24 => mret (.rt x24)) else (bnd (bnd (bnd (bnd (bnd (mret due2) fun a39 => bnd (mret []) fun l40 => mret (a39 :: l40)) fun l41 => ofO (lenT l41)) fun a42 => bnd (mret []) fun l43 => mret (a42 :: l43)) fun l38 => ofO (rng1T l38)) fun xs44 => bndX (forE (fun (s25 : Unit) => fun k26 => (bnd (bnd (bnd (bnd (bnd (bnd (mret told1) fun x31 => bnd (mret k26) fun y32 => ofO (ixB x31 y32)) fun a33 => bnd (bnd (bnd (mret due2) fun x27 => bnd (mret k26) fun y28 => ofO (ixB x27 y28)) fun a29 => bnd (mret []) fun l30 => mret (a29 :: l30)) fun l34 => mret (a33 :: l34)) self) fun x35 => ofO (truT x35)) fun b => mret (!b)) fun b => if b = true then (bnd (mret (.bl false)) fun x36 => mret (.rt x36)) else (mret (Ex.nx ())))) xs44 ()) fun (s25 : Unit) => (bnd (mret (.bl true)) fun x37 => mret (.rt x37)))) else (bnd (bnd (bnd (mret due2) fun x45 => bnd (mret .non) fun y46 => ofO (isT false x45 y46)) fun x47 => ofO (blT x47)) fun b => if b = true then (bnd (bnd (mret told1) fun x48 => bnd (mret .non) fun y49 => ofO (isT false x48 y49)) fun x50 => mret (.rt x50)) else (bnd (bnd (bnd (bnd (mret due2) fun a53 => bnd (bnd (mret (.ty "bool")) fun a51 => bnd (mret []) fun l52 => mret (a51 :: l52)) fun l54 => mret (a53 :: l54)) fun l55 => ofO (isiT l55)) fun x56 => ofO (truT x56)) fun b => if b = true then (bnd (bnd (bnd (bnd (mret told1) fun a61 => bnd (bnd (mret (.ty "bool")) fun a59 => bnd (mret []) fun l60 => mret (a59 :: l60)) fun l62 => mret (a61 :: l62)) fun l63 => ofO (isiT l63)) fun x64 => bnd (ofO (truT x64)) fun b => if b = true then (bnd (mret told1) fun x57 => bnd (mret due2) fun y58 => ofO (cmpT false x57 y58)) else mret x64) fun x65 => mret (.rt x65)) else (bnd (bnd (bnd (bnd (mret due2) fun a68 => bnd (bnd (mret (.ty "int")) fun a66 => bnd (mret []) fun l67 => mret (a66 :: l67)) fun l69 => mret (a68 :: l69)) fun l70 => ofO (isiT l70)) fun x71 => ofO (truT x71)) fun b => if b = true then (bnd (bnd (bnd (bnd (mret told1) fun a83 => bnd (bnd (mret (.ty "int")) fun a81 => bnd (mret []) fun l82 => mret (a81 :: l82)) fun l84 => mret (a83 :: l84)) fun l85 => ofO (isiT l85)) fun x86 => bnd (ofO (truT x86)) fun b => if b = true then (bnd (bnd (bnd (bnd (mret told1) fun a76 => bnd (bnd (mret (.ty "bool")) fun a74 => bnd (mret []) fun l75 => mret (a74 :: l75)) fun l77 => mret (a76 :: l77)) fun l78 => ofO (isiT l78)) fun x79 => ofO ((truT x79).map fun b => .bl (!b))) fun x80 => bnd (ofO (truT x80)) fun b => if b = true then (bnd (mret told1) fun x72 => bnd (mret due2) fun y73 => ofO (cmpT false x72 y73)) else mret x80) else mret x86) fun x87 => mret (.rt x87)) else (bnd (bnd (bnd (bnd (mret told1) fun a92 => bnd (bnd (mret (.ty "str")) fun a90 => bnd (mret []) fun l91 => mret (a90 :: l91)) fun l93 => mret (a92 :: l93)) fun l94 => ofO (isiT l94)) fun x95 => bnd (ofO (truT x95)) fun b => if b = true then (bnd (mret told1) fun x88 => bnd (mret due2) fun y89 => ofO (cmpT false x88 y89)) else mret x95) fun x96 => mret (.rt x96))))))
  | _ => stuck
theorem rb__law_exact {fself : FDen} {self : List T → M T} (hself : RF fself self) : RF (fDen 3 2 (d__law_exact fself)) (mb__law_exact self) := rf_of fun xs => match xs with | [told1, due2] => .inl ⟨_, rfl, rfl, (show RS false [.fz told1, .fz due2, .un] _ (fun _ => [.un, .un, .un]) _ from (rs_if (rt_tru (rx_ro (rx_cb sn_isi (ra_consO (rx_ro (rx_var rfl)) (ra_consO (rx_ro (rx_lit rfl)) ra_nil))))) (rs_assoc (rs_if (rt_or (rt_not (rt_tru (rx_ro (rx_cb sn_isi (ra_consO (rx_ro (rx_var rfl)) (ra_consO (rx_ro (rx_lit rfl)) ra_nil)))))) (rt_val (rx_op (s2_cmp true) (rx_ro (rx_cb sn_len (ra_consO (rx_ro (rx_var rfl)) ra_nil))) (rx_ro (rx_cb sn_len (ra_consO (rx_ro (rx_var rfl)) ra_nil)))))) (rs_assoc (rs_ret (rx_lit rfl))) (rs_skip (rs_assoc (rs_for (L := fun (s25 : Unit) => [.fz told1, .fz due2, .un]) (x0 := ()) (ri_rng1 (ro := false) (ra_consF (rx_cb sn_len (ra_consO (rx_ro (rx_var rfl)) ra_nil)) ra_nil)) (.cons (.cons (.un .nil))) (fun s25 => (tb1 fun k26 => (show RS _ [.fz told1, .fz due2, .fz k26] _ _ _ from (rs_if (rt_not (rt_tru (rx_ro (rx_call hself (ra_consF (rx_op s2_ix (rx_ro (rx_var rfl)) (rx_ro (rx_var rfl))) (ra_consF (rx_op s2_ix (rx_ro (rx_var rfl)) (rx_ro (rx_var rfl))) ra_nil)))))) (rs_assoc (rs_ret (rx_lit rfl))) (rs_skip (rs_end (.cons (.cons (.un .nil))))))))) fun s25 => (show RS _ [.fz told1, .fz due2, .un] _ _ _ from (rs_assoc (rs_ret (rx_lit rfl))))))))) (rs_skip (rs_if (rt_val (rx_op (s2_is false) (rx_ro (rx_var rfl)) (rx_ro (rx_lit rfl)))) (rs_assoc (rs_ret (rx_op (s2_is false) (rx_ro (rx_var rfl)) (rx_ro (rx_lit rfl))))) (rs_skip (rs_if (rt_tru (rx_ro (rx_cb sn_isi (ra_consO (rx_ro (rx_var rfl)) (ra_consO (rx_ro (rx_lit rfl)) ra_nil))))) (rs_assoc (rs_ret (rx_and (rx_cb sn_isi (ra_consO (rx_ro (rx_var rfl)) (ra_consO (rx_ro (rx_lit rfl)) ra_nil))) (rx_op (s2_cmp false) (rx_ro (rx_var rfl)) (rx_ro (rx_var rfl)))))) (rs_skip (rs_if (rt_tru (rx_ro (rx_cb sn_isi (ra_consO (rx_ro (rx_var rfl)) (ra_consO (rx_ro (rx_lit rfl)) ra_nil))))) (rs_assoc (rs_ret (rx_and (rx_cb sn_isi (ra_consO (rx_ro (rx_var rfl)) (ra_consO (rx_ro (rx_lit rfl)) ra_nil))) (rx_and (rx_not (rx_ro (rx_cb sn_isi (ra_consO (rx_ro (rx_var rfl)) (ra_consO (rx_ro (rx_lit rfl)) ra_nil))))) (rx_op (s2_cmp false) (rx_ro (rx_var rfl)) (rx_ro (rx_var rfl))))))) (rs_skip (rs_ret (rx_and (rx_cb sn_isi (ra_consO (rx_ro (rx_var rfl)) (ra_consO (rx_ro (rx_lit rfl)) ra_nil))) (rx_op (s2_cmp false) (rx_ro (rx_var rfl)) (rx_ro (rx_var rfl))))))))))))))⟩ | [] => .inr rfl | [_] => .inr rfl | _ :: _ :: _ :: _ => .inr rfl
noncomputable def mN__law_exact : Nat → List T → M T
  | 0 => fun _ => stuck
  | n + 1 => mb__law_exact (mN__law_exact n)
theorem rN__law_exact : ∀ n, RF (fn__law_exactN n) (mN__law_exact n)
  | 0 => rf_none
  | n + 1 => by rw [e__law_exact]; exact rb__law_exact (rN__law_exact n)
noncomputable def m__law_exact : List T → M T := mN__law_exact 12
theorem r__law_exact : RF fn__law_exact m__law_exact := by rw [fn__law_exact]; exact rN__law_exact 12
noncomputable def m_judge_link : List T → M T
  | [ledger1, circle2, j3, k4, link5] => runF (bnd (bnd (bnd (bnd (bnd (bnd (bnd (mret link5) fun a17 => bnd (mret []) fun l18 => mret (a17 :: l18)) fun l19 => ofO (lenT l19)) fun x20 => bnd (mret (.int 1)) fun y21 => ofO (intT Builtin.bitAnd x20 y21)) fun x22 => bnd (mret (.int 0)) fun y23 => ofO (cmpT false x22 y23)) fun x24 => ofO (blT x24)) fun b => if b = true then mret true else (bnd (bnd (bnd (bnd (mret link5) fun x12 => bnd (mret (.int 0)) fun y13 => ofO (ixB x12 y13)) fun x14 => bnd (mret j3) fun y15 => ofO (cmpT true x14 y15)) fun x16 => ofO (blT x16)) fun b => if b = true then mret true else (bnd (bnd (bnd (mret link5) fun x7 => bnd (bnd (mret (.int 1)) fun x6 => ofO (negT x6)) fun y8 => ofO (ixB x7 y8)) fun x9 => bnd (mret k4) fun y10 => ofO (cmpT true x9 y10)) fun x11 => ofO (blT x11)))) fun b => if b = true then (bnd (mret (.bl false)) fun x25 => mret (.rt x25)) else (bnd (bnd (bnd (mret (.int 1)) fun a80 => bnd (bnd (bnd (bnd (mret link5) fun a75 => bnd (mret []) fun l76 => mret (a75 :: l76)) fun l77 => ofO (lenT l77)) fun a78 => bnd (bnd (mret (.int 2)) fun a73 => bnd (mret []) fun l74 => mret (a73 :: l74)) fun l79 => mret (a78 :: l79)) fun l81 => mret (a80 :: l81)) fun l72 => ofO (rng3T l72)) fun xs82 => bndX (forE (fun (s26 : Unit) => fun n27 => (bnd (bnd (mret link5) fun x28 => bnd (mret n27) fun y29 => ofO (ixB x28 y29)) fun reader30 => (bnd (bnd (mret link5) fun x33 => bnd (bnd (mret n27) fun x31 => bnd (mret (.int 1)) fun y32 => ofO (addT x31 y32)) fun y34 => ofO (ixB x33 y34)) fun behind35 => (bnd (bnd (bnd (bnd (mret reader30) fun x47 => bnd (mret circle2) fun y48 => ofO (inT true x47 y48)) fun x49 => ofO (blT x49)) fun b => if b = true then mret true else (bnd (bnd (bnd (mret behind35) fun x44 => bnd (mret (.int 0)) fun y45 => ofO (ordT (fun i j => decide (i < j)) x44 y45)) fun x46 => ofO (blT x46)) fun b => if b = true then mret true else (bnd (bnd (mret behind35) fun x41 => bnd (bnd (bnd (bnd (mret ledger1) fun x36 => bnd (mret (.int 0)) fun y37 => ofO (ixB x36 y37)) fun a38 => bnd (mret []) fun l39 => mret (a38 :: l39)) fun l40 => ofO (lenT l40)) fun y42 => ofO (ordT (fun i j => decide (j ≤ i)) x41 y42)) fun x43 => ofO (blT x43)))) fun b => if b = true then (bnd (mret (.bl false)) fun x50 => mret (.rt x50)) else (bnd (bnd (bnd (bnd (bnd (bnd (mret ledger1) fun x51 => bnd (mret (.int 2)) fun y52 => ofO (ixB x51 y52)) fun x53 => bnd (mret reader30) fun y54 => ofO (ixB x53 y54)) fun x59 => bnd (bnd (mret link5) fun x57 => bnd (bnd (mret n27) fun x55 => bnd (mret (.int 1)) fun y56 => ofO (intT (· - ·) x55 y56)) fun y58 => ofO (ixB x57 y58)) fun y60 => ofO (ixB x59 y60)) fun x67 => bnd (bnd (bnd (bnd (mret ledger1) fun x61 => bnd (mret (.int 2)) fun y62 => ofO (ixB x61 y62)) fun x63 => bnd (mret reader30) fun y64 => ofO (ixB x63 y64)) fun x65 => bnd (mret behind35) fun y66 => ofO (ixB x65 y66)) fun y68 => ofO (cmpT true x67 y68)) fun x69 => ofO (blT x69)) fun b => if b = true then (bnd (mret (.bl false)) fun x70 => mret (.rt x70)) else (mret (Ex.nx ()))))))) xs82 ()) fun (s26 : Unit) => (bnd (mret (.bl true)) fun x71 => mret (.rt x71))))
  | _ => stuck
theorem r_judge_link : RF fn_judge_link m_judge_link := by
  rw [e_judge_link]; exact rf_of fun xs => match xs with | [ledger1, circle2, j3, k4, link5] => .inl ⟨_, rfl, rfl, (show RS false [.fz ledger1, .fz circle2, .fz j3, .fz k4, .fz link5, .un, .un, .un] _ (fun _ => [.un, .un, .un, .un, .un, .un, .un, .un]) _ from (rs_if (rt_or (rt_val (rx_op (s2_cmp false) (rx_ro (rx_op (s2_int Builtin.bitAnd) (rx_ro (rx_cb sn_len (ra_consO (rx_ro (rx_var rfl)) ra_nil))) (rx_ro (rx_lit rfl)))) (rx_ro (rx_lit rfl)))) (rt_or (rt_val (rx_op (s2_cmp true) (rx_ro (rx_op s2_ix (rx_ro (rx_var rfl)) (rx_ro (rx_lit rfl)))) (rx_ro (rx_var rfl)))) (rt_val (rx_op (s2_cmp true) (rx_ro (rx_op s2_ix (rx_ro (rx_var rfl)) (rx_ro (rx_un s1_neg (rx_ro (rx_lit rfl)))))) (rx_ro (rx_var rfl)))))) (rs_assoc (rs_ret (rx_lit rfl))) (rs_skip (rs_for (L := fun (s26 : Unit) => [.fz ledger1, .fz circle2, .fz j3, .fz k4, .fz link5, .un, .un, .un]) (x0 := ()) (ri_rng3 (ro := false) (ra_consF (rx_lit rfl) (ra_consF (rx_cb sn_len (ra_consO (rx_ro (rx_var rfl)) ra_nil)) (ra_consF (rx_lit rfl) ra_nil)))) (.cons (.cons (.cons (.cons (.cons (.un (.un (.un .nil)))))))) (fun s26 => (tb1 fun n27 => (show RS _ [.fz ledger1, .fz circle2, .fz j3, .fz k4, .fz link5, .fz n27, .un, .un] _ _ _ from (rs_asg (rx_op s2_ix (rx_ro (rx_var rfl)) (rx_ro (rx_var rfl))) fun reader30 => (show RS _ [.fz ledger1, .fz circle2, .fz j3, .fz k4, .fz link5, .fz n27, .fz reader30, .un] _ _ _ from (rs_asg (rx_op s2_ix (rx_ro (rx_var rfl)) (rx_ro (rx_fr (rx_op s2_add (rx_ro (rx_var rfl)) (rx_ro (rx_lit rfl)))))) fun behind35 => (show RS _ [.fz ledger1, .fz circle2, .fz j3, .fz k4, .fz link5, .fz n27, .fz reader30, .fz behind35] _ _ _ from (rs_if (rt_or (rt_val (rx_op (s2_in true) (rx_ro (rx_var rfl)) (rx_ro (rx_var rfl)))) (rt_or (rt_val (rx_op (s2_ord (fun i j => decide (i < j))) (rx_ro (rx_var rfl)) (rx_ro (rx_lit rfl)))) (rt_val (rx_op (s2_ord (fun i j => decide (j ≤ i))) (rx_ro (rx_var rfl)) (rx_ro (rx_cb sn_len (ra_consO (rx_ro (rx_op s2_ix (rx_ro (rx_var rfl)) (rx_ro (rx_lit rfl)))) ra_nil))))))) (rs_assoc (rs_ret (rx_lit rfl))) (rs_skip (rs_if (rt_val (rx_op (s2_cmp true) (rx_ro (rx_op s2_ix (rx_ro (rx_op s2_ix (rx_ro (rx_op s2_ix (rx_ro (rx_var rfl)) (rx_ro (rx_lit rfl)))) (rx_ro (rx_var rfl)))) (rx_ro (rx_op s2_ix (rx_ro (rx_var rfl)) (rx_ro (rx_op (s2_int (· - ·)) (rx_ro (rx_var rfl)) (rx_ro (rx_lit rfl)))))))) (rx_ro (rx_op s2_ix (rx_ro (rx_op s2_ix (rx_ro (rx_op s2_ix (rx_ro (rx_var rfl)) (rx_ro (rx_lit rfl)))) (rx_ro (rx_var rfl)))) (rx_ro (rx_var rfl)))))) (rs_assoc (rs_ret (rx_lit rfl))) (rs_skip (rs_end (.cons (.cons (.cons (.cons (.cons (.un (.un (.un .nil)))))))))))))))))))) fun s26 => (show RS _ [.fz ledger1, .fz circle2, .fz j3, .fz k4, .fz link5, .un, .un, .un] _ _ _ from (rs_ret (rx_lit rfl)))))))⟩ | [] => .inr rfl | [_] => .inr rfl | [_, _] => .inr rfl | [_, _, _] => .inr rfl | [_, _, _, _] => .inr rfl | _ :: _ :: _ :: _ :: _ :: _ :: _ => .inr rfl
noncomputable def m__law_shuffled : List T → M T
  | [d1, row2] => runF (bnd (bnd (bnd (mret row2) fun a3 => bnd (mret []) fun l4 => mret (a3 :: l4)) fun l5 => ofO (listT l5)) fun left6 => (bnd (bnd (mret []) fun l7 => mret (.lst l7)) fun found8 => (bndX (whE (fun (s9 : T × T) => (bnd (mret s9.1) fun x24 => ofO (truT x24))) (fun (s9 : T × T) => (bnd (ofO (asL s9.2)) fun ts20 => bnd (bnd (ofO (asL s9.1)) fun _ => bnd (bnd (bnd (mret d1) fun a15 => bnd (bnd (bnd (bnd (mret s9.1) fun a10 => bnd (mret []) fun l11 => mret (a10 :: l11)) fun l12 => ofO (lenT l12)) fun a13 => bnd (mret []) fun l14 => mret (a13 :: l14)) fun l16 => mret (a15 :: l16)) m__law_draw) fun i17 => ofO (popAT s9.1 i17)) fun r22 => bnd (ofO (appT ts20 r22.2)) fun y21 => (fun left19 found18 => (mret (.nx (left19, found18)))) r22.1 y21)) fuel (left6, found8)) fun (s9 : T × T) => (bnd (mret s9.2) fun x23 => mret (.rt x23)))))
  | _ => stuck
theorem r__law_shuffled : RF fn__law_shuffled m__law_shuffled := by
  rw [e__law_shuffled]; exact rf_of fun xs => match xs with | [d1, row2] => .inl ⟨_, rfl, rfl, (show RS false [.fz d1, .fz row2, .un, .un] _ (fun _ => [.un, .un, .un, .un]) _ from (rs_asgO (rx_cb sn_list (ra_consO (rx_ro (rx_var rfl)) ra_nil)) fun left6 => (show RS _ [.fz d1, .fz row2, .ow left6, .un] _ _ _ from (rs_asgO (rx_lst ra_nil) fun found8 => (show RS _ [.fz d1, .fz row2, .ow left6, .ow found8] _ _ _ from (rs_while (L := fun (s9 : T × T) => [.fz d1, .fz row2, .ow s9.1, .ow s9.2]) (x0 := (left6, found8)) (n := fuel) (.cons (.cons (.cons (.cons .nil)))) (fun s9 => (show RT [.fz d1, .fz row2, .ow s9.1, .ow s9.2] _ _ from (rt_tru (rx_varO rfl)))) (fun s9 => (show RS _ [.fz d1, .fz row2, .ow s9.1, .ow s9.2] _ _ _ from (rs_ppApp (i := 3) (j := 2) (k := fun left19 found18 => (mret (.nx (left19, found18)))) (by decide) rfl (pp_popA rfl (rx_call r__law_draw (ra_consF (rx_var rfl) (ra_consF (rx_cb sn_len (ra_consO (rx_varO rfl) ra_nil)) ra_nil)))) fun left19 found18 => (show RS _ [.fz d1, .fz row2, .ow left19, .ow found18] _ _ _ from (rs_end (.cons (.cons (.cons (.cons .nil))))))))) fun s9 => (show RS _ [.fz d1, .fz row2, .ow s9.1, .ow s9.2] _ _ _ from (rs_frz (i := 3) rfl (show RS _ [.fz d1, .fz row2, .ow s9.1, .fz s9.2] _ _ _ from (rs_ret (rx_var rfl)))))))))))⟩ | [] => .inr rfl | [_] => .inr rfl | _ :: _ :: _ :: _ => .inr rfl
noncomputable def m__law_hedge_right : List T → M T
  | [ledger1, circle2, j3, k4, hedge5] => runF (bnd (bnd (bnd (bnd (mret ledger1) fun x6 => bnd (mret (.int 0)) fun y7 => ofO (ixB x6 y7)) fun a8 => bnd (mret []) fun l9 => mret (a8 :: l9)) fun l10 => ofO (lenT l10)) fun many11 => (bnd (bnd (bnd (bnd (mret j3) fun x23 => bnd (mret hedge5) fun y24 => ofO (inT true x23 y24)) fun x25 => ofO (blT x25)) fun b => if b = true then mret true else (bnd (bnd (bnd (mret k4) fun x20 => bnd (mret hedge5) fun y21 => ofO (inT false x20 y21)) fun x22 => ofO (blT x22)) fun b => if b = true then mret true else (bnd (bnd (bnd (mret hedge5) fun x17 => ofO (valT x17)) fun xs18 => lcM (fun n12 => gIt (bnd (bnd (mret n12) fun x14 => bnd (bnd (mret many11) fun x13 => ofO (lrT (.int 0) x13)) fun y15 => ofO (inT true x14 y15)) fun x16 => ofO (blT x16)) (mret n12)) xs18 []) fun x19 => ofO (truT x19)))) fun b => if b = true then (bnd (mret (.bl false)) fun x26 => mret (.rt x26)) else (bnd (bnd (mret hedge5) fun x59 => ofO (valT x59)) fun xs60 => bndX (forE (fun (s27 : Unit) => fun one28 => (bnd (bnd (mret circle2) fun x56 => ofO (valT x56)) fun xs57 => bndX (forE (fun (s29 : Unit) => fun r30 => (bnd (bnd (bnd (bnd (bnd (mret many11) fun a51 => bnd (mret []) fun l52 => mret (a51 :: l52)) fun l50 => ofO (rng1T l50)) fun xs53 => lcM (fun n31 => gIt (bnd (bnd (bnd (bnd (bnd (bnd (mret ledger1) fun x35 => bnd (mret (.int 2)) fun y36 => ofO (ixB x35 y36)) fun x37 => bnd (mret r30) fun y38 => ofO (ixB x37 y38)) fun x39 => bnd (mret n31) fun y40 => ofO (ixB x39 y40)) fun x47 => bnd (bnd (bnd (bnd (mret ledger1) fun x41 => bnd (mret (.int 2)) fun y42 => ofO (ixB x41 y42)) fun x43 => bnd (mret r30) fun y44 => ofO (ixB x43 y44)) fun x45 => bnd (mret one28) fun y46 => ofO (ixB x45 y46)) fun y48 => ofO (cmpT false x47 y48)) fun x49 => ofO (blT x49)) fun b => if b = true then (bnd (bnd (mret n31) fun x32 => bnd (mret hedge5) fun y33 => ofO (inT true x32 y33)) fun x34 => ofO (blT x34)) else mret false) (mret n31)) xs53 []) fun x54 => ofO (truT x54)) fun b => if b = true then (bnd (mret (.bl false)) fun x55 => mret (.rt x55)) else (mret (Ex.nx ())))) xs57 ()) fun (s29 : Unit) => (mret (Ex.nx ())))) xs60 ()) fun (s27 : Unit) => (bnd (mret (.bl true)) fun x58 => mret (.rt x58)))))
  | _ => stuck
theorem r__law_hedge_right : RF fn__law_hedge_right m__law_hedge_right := by
  rw [e__law_hedge_right]; exact rf_of fun xs => match xs with | [ledger1, circle2, j3, k4, hedge5] => .inl ⟨_, rfl, rfl, (show RS false [.fz ledger1, .fz circle2, .fz j3, .fz k4, .fz hedge5, .un, .un, .un, .un] _ (fun _ => [.un, .un, .un, .un, .un, .un, .un, .un, .un]) _ from (rs_asg (rx_cb sn_len (ra_consO (rx_ro (rx_op s2_ix (rx_ro (rx_var rfl)) (rx_ro (rx_lit rfl)))) ra_nil)) fun many11 => (show RS _ [.fz ledger1, .fz circle2, .fz j3, .fz k4, .fz hedge5, .fz many11, .un, .un, .un] _ _ _ from (rs_if (rt_or (rt_val (rx_op (s2_in true) (rx_ro (rx_var rfl)) (rx_ro (rx_var rfl)))) (rt_or (rt_val (rx_op (s2_in false) (rx_ro (rx_var rfl)) (rx_ro (rx_var rfl)))) (rt_tru (rx_ro (rx_fr (rx_lc (ri_val (rx_var rfl)) (item1 (fun n12 => (show RT [.fz ledger1, .fz circle2, .fz j3, .fz k4, .fz hedge5, .fz many11, .fz n12, .un, .un] _ _ from (rt_val (rx_op (s2_in true) (rx_ro (rx_var rfl)) (rx_ro (rx_fr (rx_lr1 (rx_var rfl)))))))) (fun n12 => (show RX .fz [.fz ledger1, .fz circle2, .fz j3, .fz k4, .fz hedge5, .fz many11, .fz n12, .un, .un] _ _ from (rx_var rfl)))))))))) (rs_assoc (rs_ret (rx_lit rfl))) (rs_skip (rs_for (L := fun (s27 : Unit) => [.fz ledger1, .fz circle2, .fz j3, .fz k4, .fz hedge5, .fz many11, .un, .un, .un]) (x0 := ()) (ri_val (rx_var rfl)) (.cons (.cons (.cons (.cons (.cons (.cons (.un (.un (.un .nil))))))))) (fun s27 => (tb1 fun one28 => (show RS _ [.fz ledger1, .fz circle2, .fz j3, .fz k4, .fz hedge5, .fz many11, .un, .fz one28, .un] _ _ _ from (rs_for (L := fun (s29 : Unit) => [.fz ledger1, .fz circle2, .fz j3, .fz k4, .fz hedge5, .fz many11, .un, .fz one28, .un]) (x0 := ()) (ri_val (rx_var rfl)) (.cons (.cons (.cons (.cons (.cons (.cons (.un (.cons (.un .nil))))))))) (fun s29 => (tb1 fun r30 => (show RS _ [.fz ledger1, .fz circle2, .fz j3, .fz k4, .fz hedge5, .fz many11, .un, .fz one28, .fz r30] _ _ _ from (rs_if (rt_tru (rx_ro (rx_fr (rx_lc (ri_rng1 (ro := true) (ra_consF (rx_var rfl) ra_nil)) (item1 (fun n31 => (show RT [.fz ledger1, .fz circle2, .fz j3, .fz k4, .fz hedge5, .fz many11, .fz n31, .fz one28, .fz r30] _ _ from (rt_and (rt_val (rx_op (s2_cmp false) (rx_ro (rx_op s2_ix (rx_ro (rx_op s2_ix (rx_ro (rx_op s2_ix (rx_ro (rx_var rfl)) (rx_ro (rx_lit rfl)))) (rx_ro (rx_var rfl)))) (rx_ro (rx_var rfl)))) (rx_ro (rx_op s2_ix (rx_ro (rx_op s2_ix (rx_ro (rx_op s2_ix (rx_ro (rx_var rfl)) (rx_ro (rx_lit rfl)))) (rx_ro (rx_var rfl)))) (rx_ro (rx_var rfl)))))) (rt_val (rx_op (s2_in true) (rx_ro (rx_var rfl)) (rx_ro (rx_var rfl))))))) (fun n31 => (show RX .fz [.fz ledger1, .fz circle2, .fz j3, .fz k4, .fz hedge5, .fz many11, .fz n31, .fz one28, .fz r30] _ _ from (rx_var rfl)))))))) (rs_assoc (rs_ret (rx_lit rfl))) (rs_skip (rs_end (.cons (.cons (.cons (.cons (.cons (.cons (.un (.cons (.un .nil))))))))))))))) fun s29 => (show RS _ [.fz ledger1, .fz circle2, .fz j3, .fz k4, .fz hedge5, .fz many11, .un, .fz one28, .un] _ _ _ from (rs_end (.cons (.cons (.cons (.cons (.cons (.cons (.un (.un (.un .nil))))))))))))))) fun s27 => (show RS _ [.fz ledger1, .fz circle2, .fz j3, .fz k4, .fz hedge5, .fz many11, .un, .un, .un] _ _ _ from (rs_ret (rx_lit rfl)))))))))⟩ | [] => .inr rfl | [_] => .inr rfl | [_, _] => .inr rfl | [_, _, _] => .inr rfl | [_, _, _, _] => .inr rfl | _ :: _ :: _ :: _ :: _ :: _ :: _ => .inr rfl
noncomputable def m_lot_at : List T → M T
  | [ledger1, circle2, k3] => runF (bnd (bnd (mret []) fun l4 => mret (.lst l4)) fun found5 => (bnd (bnd (bnd (bnd (bnd (bnd (mret ledger1) fun x36 => bnd (mret (.int 0)) fun y37 => ofO (ixB x36 y37)) fun a38 => bnd (mret []) fun l39 => mret (a38 :: l39)) fun l40 => ofO (lenT l40)) fun a41 => bnd (mret []) fun l42 => mret (a41 :: l42)) fun l35 => ofO (rng1T l35)) fun xs43 => bndX (forE (fun (s6 : T) => fun n7 => (bnd (bnd (bnd (mret circle2) fun x24 => ofO (valT x24)) fun xs25 => lcM (fun reader8 => gIt (bnd (bnd (bnd (bnd (bnd (mret ledger1) fun x9 => bnd (mret (.int 2)) fun y10 => ofO (ixB x9 y10)) fun x11 => bnd (mret reader8) fun y12 => ofO (ixB x11 y12)) fun x13 => bnd (mret n7) fun y14 => ofO (ixB x13 y14)) fun x21 => bnd (bnd (bnd (bnd (mret ledger1) fun x15 => bnd (mret (.int 2)) fun y16 => ofO (ixB x15 y16)) fun x17 => bnd (mret reader8) fun y18 => ofO (ixB x17 y18)) fun x19 => bnd (mret k3) fun y20 => ofO (ixB x19 y20)) fun y22 => ofO (cmpT true x21 y22)) fun x23 => ofO (blT x23)) (mret reader8)) xs25 []) fun unlike26 => (bnd (bnd (bnd (mret unlike26) fun x27 => ofO (truT x27)) fun b => mret (!b)) fun b => if b = true then (bnd (ofO (asL s6)) fun ts29 => bnd (mret n7) fun y30 => bnd (ofO (appT ts29 y30)) fun found28 => (mret (.nx found28))) else (mret (.nx s6))))) xs43 found5) fun (s6 : T) => (bnd (bnd (bnd (mret s6) fun a31 => bnd (mret []) fun l32 => mret (a31 :: l32)) fun l33 => ofO (tupT l33)) fun x34 => mret (.rt x34))))
  | _ => stuck
theorem r_lot_at : RF fn_lot_at m_lot_at := by
  rw [e_lot_at]; exact rf_of fun xs => match xs with | [ledger1, circle2, k3] => .inl ⟨_, rfl, rfl, (show RS false [.fz ledger1, .fz circle2, .fz k3, .un, .un, .un, .un] _ (fun _ => [.un, .un, .un, .un, .un, .un, .un]) _ from (rs_asgO (rx_lst ra_nil) fun found5 => (show RS _ [.fz ledger1, .fz circle2, .fz k3, .ow found5, .un, .un, .un] _ _ _ from (rs_for (L := fun (s6 : T) => [.fz ledger1, .fz circle2, .fz k3, .ow s6, .un, .un, .un]) (x0 := found5) (ri_rng1 (ro := false) (ra_consF (rx_cb sn_len (ra_consO (rx_ro (rx_op s2_ix (rx_ro (rx_var rfl)) (rx_ro (rx_lit rfl)))) ra_nil)) ra_nil)) (.cons (.cons (.cons (.cons (.un (.un (.un .nil))))))) (fun s6 => (tb1 fun n7 => (show RS _ [.fz ledger1, .fz circle2, .fz k3, .ow s6, .fz n7, .un, .un] _ _ _ from (rs_asg (rx_fr (rx_lc (ri_val (rx_var rfl)) (item1 (fun reader8 => (show RT [.fz ledger1, .fz circle2, .fz k3, .ow s6, .fz n7, .un, .fz reader8] _ _ from (rt_val (rx_op (s2_cmp true) (rx_ro (rx_op s2_ix (rx_ro (rx_op s2_ix (rx_ro (rx_op s2_ix (rx_ro (rx_var rfl)) (rx_ro (rx_lit rfl)))) (rx_ro (rx_var rfl)))) (rx_ro (rx_var rfl)))) (rx_ro (rx_op s2_ix (rx_ro (rx_op s2_ix (rx_ro (rx_op s2_ix (rx_ro (rx_var rfl)) (rx_ro (rx_lit rfl)))) (rx_ro (rx_var rfl)))) (rx_ro (rx_var rfl)))))))) (fun reader8 => (show RX .fz [.fz ledger1, .fz circle2, .fz k3, .ow s6, .fz n7, .un, .fz reader8] _ _ from (rx_var rfl)))))) fun unlike26 => (show RS _ [.fz ledger1, .fz circle2, .fz k3, .ow s6, .fz n7, .fz unlike26, .un] _ _ _ from (rs_if (rt_not (rt_tru (rx_ro (rx_var rfl)))) (rs_assoc (FM.rs_app (j := 3) rfl (rx_var rfl) fun found28 => (show RS _ [.fz ledger1, .fz circle2, .fz k3, .ow found28, .fz n7, .fz unlike26, .un] _ _ _ from (rs_skip (rs_end (.cons (.cons (.cons (.cons (.un (.un (.un .nil)))))))))))) (rs_skip (rs_end (.cons (.cons (.cons (.cons (.un (.un (.un .nil))))))))))))))) fun s6 => (show RS _ [.fz ledger1, .fz circle2, .fz k3, .ow s6, .un, .un, .un] _ _ _ from (rs_ret (rx_cb sn_tup (ra_consO (rx_varO rfl) ra_nil))))))))⟩ | [] => .inr rfl | [_] => .inr rfl | [_, _] => .inr rfl | _ :: _ :: _ :: _ :: _ => .inr rfl
noncomputable def m_steps_from : List T → M T
  | [ledger1, circle2, k3] => runF (bnd (bnd (mret []) fun l4 => mret (.lst l4)) fun found5 => (bnd (bnd (mret circle2) fun x30 => ofO (valT x30)) fun xs31 => bndX (forE (fun (s6 : T) => fun reader7 => (bnd (bnd (bnd (bnd (mret ledger1) fun a26 => bnd (bnd (bnd (bnd (mret reader7) fun a21 => bnd (mret []) fun l22 => mret (a21 :: l22)) fun l23 => mret (.tup l23)) fun a24 => bnd (bnd (mret k3) fun a19 => bnd (mret []) fun l20 => mret (a19 :: l20)) fun l25 => mret (a24 :: l25)) fun l27 => mret (a26 :: l27)) m_lot_at) fun x18 => ofO (valT x18)) fun xs28 => bndX (forE (fun (s8 : T) => fun n9 => (bnd (ofO (asL s8)) fun ts16 => bnd (bnd (bnd (mret reader7) fun a12 => bnd (bnd (mret n9) fun a10 => bnd (mret []) fun l11 => mret (a10 :: l11)) fun l13 => mret (a12 :: l13)) fun l14 => mret (.tup l14)) fun y17 => bnd (ofO (appT ts16 y17)) fun found15 => (mret (.nx found15)))) xs28 s6) fun (s8 : T) => (mret (.nx s8)))) xs31 found5) fun (s6 : T) => (bnd (mret s6) fun x29 => mret (.rt x29))))
  | _ => stuck
theorem r_steps_from : RF fn_steps_from m_steps_from := by
  rw [e_steps_from]; exact rf_of fun xs => match xs with | [ledger1, circle2, k3] => .inl ⟨_, rfl, rfl, (show RS false [.fz ledger1, .fz circle2, .fz k3, .un, .un, .un] _ (fun _ => [.un, .un, .un, .un, .un, .un]) _ from (rs_asgO (rx_lst ra_nil) fun found5 => (show RS _ [.fz ledger1, .fz circle2, .fz k3, .ow found5, .un, .un] _ _ _ from (rs_for (L := fun (s6 : T) => [.fz ledger1, .fz circle2, .fz k3, .ow s6, .un, .un]) (x0 := found5) (ri_val (rx_var rfl)) (.cons (.cons (.cons (.cons (.un (.un .nil)))))) (fun s6 => (tb1 fun reader7 => (show RS _ [.fz ledger1, .fz circle2, .fz k3, .ow s6, .fz reader7, .un] _ _ _ from (rs_for (L := fun (s8 : T) => [.fz ledger1, .fz circle2, .fz k3, .ow s8, .fz reader7, .un]) (x0 := s6) (ri_val (rx_call r_lot_at (ra_consF (rx_var rfl) (ra_consF (rx_tup (ra_consF (rx_var rfl) ra_nil)) (ra_consF (rx_var rfl) ra_nil))))) (.cons (.cons (.cons (.cons (.cons (.un .nil)))))) (fun s8 => (tb1 fun n9 => (show RS _ [.fz ledger1, .fz circle2, .fz k3, .ow s8, .fz reader7, .fz n9] _ _ _ from (FM.rs_app (j := 3) rfl (rx_tup (ra_consF (rx_var rfl) (ra_consF (rx_var rfl) ra_nil))) fun found15 => (show RS _ [.fz ledger1, .fz circle2, .fz k3, .ow found15, .fz reader7, .fz n9] _ _ _ from (rs_end (.cons (.cons (.cons (.cons (.cons (.un .nil)))))))))))) fun s8 => (show RS _ [.fz ledger1, .fz circle2, .fz k3, .ow s8, .fz reader7, .un] _ _ _ from (rs_end (.cons (.cons (.cons (.cons (.un (.un .nil)))))))))))) fun s6 => (show RS _ [.fz ledger1, .fz circle2, .fz k3, .ow s6, .un, .un] _ _ _ from (rs_frz (i := 3) rfl (show RS _ [.fz ledger1, .fz circle2, .fz k3, .fz s6, .un, .un] _ _ _ from (rs_ret (rx_var rfl)))))))))⟩ | [] => .inr rfl | [_] => .inr rfl | [_, _] => .inr rfl | _ :: _ :: _ :: _ :: _ => .inr rfl
noncomputable def m_judge_hedge : List T → M T
  | [ledger1, circle2, j3, k4, hedge5] => runF (bnd (bnd (bnd (bnd (mret j3) fun x9 => bnd (mret hedge5) fun y10 => ofO (inT true x9 y10)) fun x11 => ofO (blT x11)) fun b => if b = true then mret true else (bnd (bnd (mret k4) fun x6 => bnd (mret hedge5) fun y7 => ofO (inT false x6 y7)) fun x8 => ofO (blT x8))) fun b => if b = true then (bnd (mret (.bl false)) fun x12 => mret (.rt x12)) else (bnd (bnd (mret hedge5) fun x47 => ofO (valT x47)) fun xs48 => bndX (forE (fun (s13 : Unit) => fun one14 => (bnd (bnd (bnd (bnd (mret one14) fun x23 => bnd (mret (.int 0)) fun y24 => ofO (ordT (fun i j => decide (i < j)) x23 y24)) fun x25 => ofO (blT x25)) fun b => if b = true then mret true else (bnd (bnd (mret one14) fun x20 => bnd (bnd (bnd (bnd (mret ledger1) fun x15 => bnd (mret (.int 0)) fun y16 => ofO (ixB x15 y16)) fun a17 => bnd (mret []) fun l18 => mret (a17 :: l18)) fun l19 => ofO (lenT l19)) fun y21 => ofO (ordT (fun i j => decide (j ≤ i)) x20 y21)) fun x22 => ofO (blT x22))) fun b => if b = true then (bnd (mret (.bl false)) fun x26 => mret (.rt x26)) else (mret (Ex.nx ())))) xs48 ()) fun (s13 : Unit) => (bnd (bnd (mret hedge5) fun x45 => ofO (valT x45)) fun xs46 => bndX (forE (fun (s27 : Unit) => fun one28 => (bnd (bnd (bnd (bnd (mret ledger1) fun a41 => bnd (bnd (mret circle2) fun a39 => bnd (bnd (mret one28) fun a37 => bnd (mret []) fun l38 => mret (a37 :: l38)) fun l40 => mret (a39 :: l40)) fun l42 => mret (a41 :: l42)) m_steps_from) fun x36 => ofO (valT x36)) fun xs43 => bndX (forE (fun (s29 : Unit) => (un2 fun reader30 n31 => (bnd (bnd (bnd (mret n31) fun x32 => bnd (mret hedge5) fun y33 => ofO (inT true x32 y33)) fun x34 => ofO (blT x34)) fun b => if b = true then (bnd (mret (.bl false)) fun x35 => mret (.rt x35)) else (mret (Ex.nx ()))))) xs43 ()) fun (s29 : Unit) => (mret (Ex.nx ())))) xs46 ()) fun (s27 : Unit) => (bnd (mret (.bl true)) fun x44 => mret (.rt x44)))))
  | _ => stuck
theorem r_judge_hedge : RF fn_judge_hedge m_judge_hedge := by
  rw [e_judge_hedge]; exact rf_of fun xs => match xs with | [ledger1, circle2, j3, k4, hedge5] => .inl ⟨_, rfl, rfl, (show RS false [.fz ledger1, .fz circle2, .fz j3, .fz k4, .fz hedge5, .un, .un, .un] _ (fun _ => [.un, .un, .un, .un, .un, .un, .un, .un]) _ from (rs_if (rt_or (rt_val (rx_op (s2_in true) (rx_ro (rx_var rfl)) (rx_ro (rx_var rfl)))) (rt_val (rx_op (s2_in false) (rx_ro (rx_var rfl)) (rx_ro (rx_var rfl))))) (rs_assoc (rs_ret (rx_lit rfl))) (rs_skip (rs_for (L := fun (s13 : Unit) => [.fz ledger1, .fz circle2, .fz j3, .fz k4, .fz hedge5, .un, .un, .un]) (x0 := ()) (ri_val (rx_var rfl)) (.cons (.cons (.cons (.cons (.cons (.un (.un (.un .nil)))))))) (fun s13 => (tb1 fun one14 => (show RS _ [.fz ledger1, .fz circle2, .fz j3, .fz k4, .fz hedge5, .fz one14, .un, .un] _ _ _ from (rs_if (rt_or (rt_val (rx_op (s2_ord (fun i j => decide (i < j))) (rx_ro (rx_var rfl)) (rx_ro (rx_lit rfl)))) (rt_val (rx_op (s2_ord (fun i j => decide (j ≤ i))) (rx_ro (rx_var rfl)) (rx_ro (rx_cb sn_len (ra_consO (rx_ro (rx_op s2_ix (rx_ro (rx_var rfl)) (rx_ro (rx_lit rfl)))) ra_nil)))))) (rs_assoc (rs_ret (rx_lit rfl))) (rs_skip (rs_end (.cons (.cons (.cons (.cons (.cons (.un (.un (.un .nil)))))))))))))) fun s13 => (show RS _ [.fz ledger1, .fz circle2, .fz j3, .fz k4, .fz hedge5, .un, .un, .un] _ _ _ from (rs_for (L := fun (s27 : Unit) => [.fz ledger1, .fz circle2, .fz j3, .fz k4, .fz hedge5, .un, .un, .un]) (x0 := ()) (ri_val (rx_var rfl)) (.cons (.cons (.cons (.cons (.cons (.un (.un (.un .nil)))))))) (fun s27 => (tb1 fun one28 => (show RS _ [.fz ledger1, .fz circle2, .fz j3, .fz k4, .fz hedge5, .fz one28, .un, .un] _ _ _ from (rs_for (L := fun (s29 : Unit) => [.fz ledger1, .fz circle2, .fz j3, .fz k4, .fz hedge5, .fz one28, .un, .un]) (x0 := ()) (ri_val (rx_call r_steps_from (ra_consF (rx_var rfl) (ra_consF (rx_var rfl) (ra_consF (rx_var rfl) ra_nil))))) (.cons (.cons (.cons (.cons (.cons (.cons (.un (.un .nil)))))))) (fun s29 => (tb2 fun reader30 n31 => (show RS _ [.fz ledger1, .fz circle2, .fz j3, .fz k4, .fz hedge5, .fz one28, .fz reader30, .fz n31] _ _ _ from (rs_if (rt_val (rx_op (s2_in true) (rx_ro (rx_var rfl)) (rx_ro (rx_var rfl)))) (rs_assoc (rs_ret (rx_lit rfl))) (rs_skip (rs_end (.cons (.cons (.cons (.cons (.cons (.cons (.un (.un .nil)))))))))))))) fun s29 => (show RS _ [.fz ledger1, .fz circle2, .fz j3, .fz k4, .fz hedge5, .fz one28, .un, .un] _ _ _ from (rs_end (.cons (.cons (.cons (.cons (.cons (.un (.un (.un .nil)))))))))))))) fun s27 => (show RS _ [.fz ledger1, .fz circle2, .fz j3, .fz k4, .fz hedge5, .un, .un, .un] _ _ _ from (rs_ret (rx_lit rfl)))))))))⟩ | [] => .inr rfl | [_] => .inr rfl | [_, _] => .inr rfl | [_, _, _] => .inr rfl | [_, _, _, _] => .inr rfl | _ :: _ :: _ :: _ :: _ :: _ :: _ => .inr rfl
noncomputable def m_law : M T := runF (bnd (bnd (mret (.int 1)) fun x5 => bnd (bnd (bnd (mret .tok) fun a3 => bnd (bnd (mret (.int 4)) fun a1 => bnd (mret []) fun l2 => mret (a1 :: l2)) fun l4 => mret (a3 :: l4)) m__law_draw) fun y6 => ofO (addT x5 y6)) fun readers7 => (bnd (bnd (bnd (mret .tok) fun a18 => bnd (bnd (bnd (mret (.int 1)) fun x14 => bnd (bnd (bnd (mret .tok) fun a12 => bnd (bnd (mret (.int 8)) fun a10 => bnd (mret []) fun l11 => mret (a10 :: l11)) fun l13 => mret (a12 :: l13)) m__law_draw) fun y15 => ofO (addT x14 y15)) fun a16 => bnd (bnd (mret readers7) fun a8 => bnd (mret []) fun l9 => mret (a8 :: l9)) fun l17 => mret (a16 :: l17)) fun l19 => mret (a18 :: l19)) m__law_ledger) fun ledger20 => (bnd (bnd (bnd (mret .tok) fun a23 => bnd (bnd (mret readers7) fun a21 => bnd (mret []) fun l22 => mret (a21 :: l22)) fun l24 => mret (a23 :: l24)) m__law_circle) fun circle25 => (bnd (bnd (bnd (bnd (mret ledger20) fun x26 => bnd (mret (.int 0)) fun y27 => ofO (ixB x26 y27)) fun a28 => bnd (mret []) fun l29 => mret (a28 :: l29)) fun l30 => ofO (lenT l30)) fun many31 => (bnd (bnd (bnd (mret (.int 3)) fun a211 => bnd (mret []) fun l212 => mret (a211 :: l212)) fun l210 => ofO (rng1T l210)) fun xs213 => bndX (forE (fun (s32 : Unit) => fun turn33 => (bnd (bnd (bnd (mret .tok) fun a36 => bnd (bnd (mret many31) fun a34 => bnd (mret []) fun l35 => mret (a34 :: l35)) fun l37 => mret (a36 :: l37)) m__law_draw) fun j38 => (bnd (bnd (bnd (mret .tok) fun a45 => bnd (bnd (mret ledger20) fun a43 => bnd (bnd (mret circle25) fun a41 => bnd (bnd (mret j38) fun a39 => bnd (mret []) fun l40 => mret (a39 :: l40)) fun l42 => mret (a41 :: l42)) fun l44 => mret (a43 :: l44)) fun l46 => mret (a45 :: l46)) m__law_walk) fun walk47 => (bnd (bnd (bnd (bnd (bnd (bnd (mret .tok) fun a50 => bnd (bnd (mret (.int 4)) fun a48 => bnd (mret []) fun l49 => mret (a48 :: l49)) fun l51 => mret (a50 :: l51)) m__law_draw) fun x52 => bnd (mret (.int 0)) fun y53 => ofO (ordT (fun i j => decide (j < i)) x52 y53)) fun x54 => ofO (blT x54)) fun b => if b = true then (bnd (mret walk47) fun x56 => bnd (bnd (mret (.int 1)) fun x55 => ofO (negT x55)) fun y57 => ofO (ixB x56 y57)) else (bnd (bnd (mret .tok) fun a60 => bnd (bnd (mret many31) fun a58 => bnd (mret []) fun l59 => mret (a58 :: l59)) fun l61 => mret (a60 :: l61)) m__law_draw)) fun k62 => (bnd (bnd (bnd (mret .tok) fun a65 => bnd (bnd (mret walk47) fun a63 => bnd (mret []) fun l64 => mret (a63 :: l64)) fun l66 => mret (a65 :: l66)) m__law_bent) fun link67 => (bnd (bnd (bnd (mret ledger20) fun a76 => bnd (bnd (mret circle25) fun a74 => bnd (bnd (mret j38) fun a72 => bnd (bnd (mret k62) fun a70 => bnd (bnd (mret link67) fun a68 => bnd (mret []) fun l69 => mret (a68 :: l69)) fun l71 => mret (a70 :: l71)) fun l73 => mret (a72 :: l73)) fun l75 => mret (a74 :: l75)) fun l77 => mret (a76 :: l77)) m__law_link_right) fun due78 => (bnd (bnd (bnd (bnd (bnd (bnd (bnd (mret ledger20) fun a92 => bnd (bnd (mret circle25) fun a90 => bnd (bnd (mret j38) fun a88 => bnd (bnd (mret k62) fun a86 => bnd (bnd (bnd (bnd (mret link67) fun a81 => bnd (mret []) fun l82 => mret (a81 :: l82)) fun l83 => ofO (tupT l83)) fun a84 => bnd (mret []) fun l85 => mret (a84 :: l85)) fun l87 => mret (a86 :: l87)) fun l89 => mret (a88 :: l89)) fun l91 => mret (a90 :: l91)) fun l93 => mret (a92 :: l93)) m_judge_link) fun a94 => bnd (bnd (mret due78) fun a79 => bnd (mret []) fun l80 => mret (a79 :: l80)) fun l95 => mret (a94 :: l95)) m__law_exact) fun x96 => ofO (truT x96)) fun b => mret (!b)) fun b => if b = true then (bnd (mret (.bl false)) fun x97 => mret (.rt x97)) else (bnd (bnd (bnd (mret j38) fun a98 => bnd (mret []) fun l99 => mret (a98 :: l99)) fun l100 => mret (.lst l100)) fun hedge101 => (bnd (bnd (bnd (bnd (bnd (mret .tok) fun a204 => bnd (bnd (bnd (bnd (mret many31) fun a199 => bnd (bnd (mret many31) fun a197 => bnd (bnd (mret (.int 1)) fun a195 => bnd (bnd (mret (.int 0)) fun a193 => bnd (mret []) fun l194 => mret (a193 :: l194)) fun l196 => mret (a195 :: l196)) fun l198 => mret (a197 :: l198)) fun l200 => mret (a199 :: l200)) fun l201 => mret (.lst l201)) fun a202 => bnd (mret []) fun l203 => mret (a202 :: l203)) fun l205 => mret (a204 :: l205)) m__law_pick) fun a206 => bnd (mret []) fun l207 => mret (a206 :: l207)) fun l192 => ofO (rng1T l192)) fun xs208 => bndX (forE (fun (s102 : T) => fun step103 => (bnd (bnd (mret s102) fun x145 => bnd (bnd (bnd (bnd (mret many31) fun a142 => bnd (mret []) fun l143 => mret (a142 :: l143)) fun l141 => ofO (rng1T l141)) fun xs144 => lcM (fun n104 => gIt (bnd (bnd (bnd (mret n104) fun x138 => bnd (mret s102) fun y139 => ofO (inT true x138 y139)) fun x140 => ofO (blT x140)) fun b => if b = true then (bnd (bnd (bnd (bnd (bnd (bnd (mret circle25) fun x130 => ofO (valT x130)) fun xs131 => lcM (fun r105 => gIt (bnd (bnd (bnd (bnd (bnd (bnd (mret s102) fun x122 => ofO (valT x122)) fun xs123 => lcM (fun one106 => gIt (bnd (bnd (bnd (bnd (bnd (mret ledger20) fun x107 => bnd (mret (.int 2)) fun y108 => ofO (ixB x107 y108)) fun x109 => bnd (mret r105) fun y110 => ofO (ixB x109 y110)) fun x111 => bnd (mret one106) fun y112 => ofO (ixB x111 y112)) fun x119 => bnd (bnd (bnd (bnd (mret ledger20) fun x113 => bnd (mret (.int 2)) fun y114 => ofO (ixB x113 y114)) fun x115 => bnd (mret r105) fun y116 => ofO (ixB x115 y116)) fun x117 => bnd (mret n104) fun y118 => ofO (ixB x117 y118)) fun y120 => ofO (cmpT false x119 y120)) fun x121 => ofO (blT x121)) (mret one106)) xs123 []) fun a124 => bnd (mret []) fun l125 => mret (a124 :: l125)) fun l126 => ofO (lenT l126)) fun x127 => bnd (mret (.int 0)) fun y128 => ofO (ordT (fun i j => decide (j < i)) x127 y128)) fun x129 => ofO (blT x129)) (mret r105)) xs131 []) fun a132 => bnd (mret []) fun l133 => mret (a132 :: l133)) fun l134 => ofO (lenT l134)) fun x135 => bnd (mret (.int 0)) fun y136 => ofO (ordT (fun i j => decide (j < i)) x135 y136)) fun x137 => ofO (blT x137)) else mret false) (mret n104)) xs144 []) fun y146 => ofO (addT x145 y146)) fun hedge147 => (mret (.nx hedge147)))) xs208 hedge101) fun (s102 : T) => (bnd (bnd (bnd (mret .tok) fun a150 => bnd (bnd (mret many31) fun a148 => bnd (mret []) fun l149 => mret (a148 :: l149)) fun l151 => mret (a150 :: l151)) m__law_draw) fun k152 => (bnd (bnd (bnd (mret .tok) fun a159 => bnd (bnd (bnd (bnd (mret .tok) fun a155 => bnd (bnd (mret s102) fun a153 => bnd (mret []) fun l154 => mret (a153 :: l154)) fun l156 => mret (a155 :: l156)) m__law_shuffled) fun a157 => bnd (mret []) fun l158 => mret (a157 :: l158)) fun l160 => mret (a159 :: l160)) m__law_bent) fun hedge161 => (bnd (bnd (bnd (mret ledger20) fun a170 => bnd (bnd (mret circle25) fun a168 => bnd (bnd (mret j38) fun a166 => bnd (bnd (mret k152) fun a164 => bnd (bnd (mret hedge161) fun a162 => bnd (mret []) fun l163 => mret (a162 :: l163)) fun l165 => mret (a164 :: l165)) fun l167 => mret (a166 :: l167)) fun l169 => mret (a168 :: l169)) fun l171 => mret (a170 :: l171)) m__law_hedge_right) fun due172 => (bnd (bnd (bnd (bnd (bnd (bnd (bnd (mret ledger20) fun a186 => bnd (bnd (mret circle25) fun a184 => bnd (bnd (mret j38) fun a182 => bnd (bnd (mret k152) fun a180 => bnd (bnd (bnd (bnd (mret hedge161) fun a175 => bnd (mret []) fun l176 => mret (a175 :: l176)) fun l177 => ofO (tupT l177)) fun a178 => bnd (mret []) fun l179 => mret (a178 :: l179)) fun l181 => mret (a180 :: l181)) fun l183 => mret (a182 :: l183)) fun l185 => mret (a184 :: l185)) fun l187 => mret (a186 :: l187)) m_judge_hedge) fun a188 => bnd (bnd (mret due172) fun a173 => bnd (mret []) fun l174 => mret (a173 :: l174)) fun l189 => mret (a188 :: l189)) m__law_exact) fun x190 => ofO (truT x190)) fun b => mret (!b)) fun b => if b = true then (bnd (mret (.bl false)) fun x191 => mret (.rt x191)) else (mret (Ex.nx ()))))))))))))))) xs213 ()) fun (s32 : Unit) => (bnd (mret (.bl true)) fun x209 => mret (.rt x209)))))))
theorem r_law (hm : ∀ s, wp m_law s fun v _ => v = .bl true) : Plain fn_law 63 := law_end (nN := 15) e_law (fun _ _ _ h => s_begin h) (show RS false [.un, .fz .tok, .un, .un, .un, .un, .un, .un, .un, .un, .un, .un, .un, .un, .un, .un, .un] _ (fun _ => [.un, .un, .un, .un, .un, .un, .un, .un, .un, .un, .un, .un, .un, .un, .un, .un, .un]) _ from (rs_asg (rx_fr (rx_op s2_add (rx_ro (rx_lit rfl)) (rx_ro (rx_call r__law_draw (ra_consF (rx_var rfl) (ra_consF (rx_lit rfl) ra_nil)))))) fun readers7 => (show RS _ [.un, .fz .tok, .fz readers7, .un, .un, .un, .un, .un, .un, .un, .un, .un, .un, .un, .un, .un, .un] _ _ _ from (rs_asg (rx_call r__law_ledger (ra_consF (rx_var rfl) (ra_consF (rx_fr (rx_op s2_add (rx_ro (rx_lit rfl)) (rx_ro (rx_call r__law_draw (ra_consF (rx_var rfl) (ra_consF (rx_lit rfl) ra_nil)))))) (ra_consF (rx_var rfl) ra_nil)))) fun ledger20 => (show RS _ [.un, .fz .tok, .fz readers7, .fz ledger20, .un, .un, .un, .un, .un, .un, .un, .un, .un, .un, .un, .un, .un] _ _ _ from (rs_asg (rx_call r__law_circle (ra_consF (rx_var rfl) (ra_consF (rx_var rfl) ra_nil))) fun circle25 => (show RS _ [.un, .fz .tok, .fz readers7, .fz ledger20, .fz circle25, .un, .un, .un, .un, .un, .un, .un, .un, .un, .un, .un, .un] _ _ _ from (rs_asg (rx_cb sn_len (ra_consO (rx_ro (rx_op s2_ix (rx_ro (rx_var rfl)) (rx_ro (rx_lit rfl)))) ra_nil)) fun many31 => (show RS _ [.un, .fz .tok, .fz readers7, .fz ledger20, .fz circle25, .fz many31, .un, .un, .un, .un, .un, .un, .un, .un, .un, .un, .un] _ _ _ from (rs_for (L := fun (s32 : Unit) => [.un, .fz .tok, .fz readers7, .fz ledger20, .fz circle25, .fz many31, .un, .un, .un, .un, .un, .un, .un, .un, .un, .un, .un]) (x0 := ()) (ri_rng1 (ro := false) (ra_consF (rx_lit rfl) ra_nil)) (.un (.cons (.cons (.cons (.cons (.cons (.un (.un (.un (.un (.un (.un (.un (.un (.un (.un (.un .nil))))))))))))))))) (fun s32 => (tb1 fun turn33 => (show RS _ [.un, .fz .tok, .fz readers7, .fz ledger20, .fz circle25, .fz many31, .fz turn33, .un, .un, .un, .un, .un, .un, .un, .un, .un, .un] _ _ _ from (rs_asg (rx_call r__law_draw (ra_consF (rx_var rfl) (ra_consF (rx_var rfl) ra_nil))) fun j38 => (show RS _ [.un, .fz .tok, .fz readers7, .fz ledger20, .fz circle25, .fz many31, .fz turn33, .fz j38, .un, .un, .un, .un, .un, .un, .un, .un, .un] _ _ _ from (rs_asg (rx_call r__law_walk (ra_consF (rx_var rfl) (ra_consF (rx_var rfl) (ra_consF (rx_var rfl) (ra_consF (rx_var rfl) ra_nil))))) fun walk47 => (show RS _ [.un, .fz .tok, .fz readers7, .fz ledger20, .fz circle25, .fz many31, .fz turn33, .fz j38, .fz walk47, .un, .un, .un, .un, .un, .un, .un, .un] _ _ _ from (rs_asg (rx_if (rt_val (rx_op (s2_ord (fun i j => decide (j < i))) (rx_ro (rx_call r__law_draw (ra_consF (rx_var rfl) (ra_consF (rx_lit rfl) ra_nil)))) (rx_ro (rx_lit rfl)))) (rx_op s2_ix (rx_ro (rx_var rfl)) (rx_ro (rx_un s1_neg (rx_ro (rx_lit rfl))))) (rx_call r__law_draw (ra_consF (rx_var rfl) (ra_consF (rx_var rfl) ra_nil)))) fun k62 => (show RS _ [.un, .fz .tok, .fz readers7, .fz ledger20, .fz circle25, .fz many31, .fz turn33, .fz j38, .fz walk47, .fz k62, .un, .un, .un, .un, .un, .un, .un] _ _ _ from (rs_asg (rx_call r__law_bent (ra_consF (rx_var rfl) (ra_consF (rx_var rfl) ra_nil))) fun link67 => (show RS _ [.un, .fz .tok, .fz readers7, .fz ledger20, .fz circle25, .fz many31, .fz turn33, .fz j38, .fz walk47, .fz k62, .fz link67, .un, .un, .un, .un, .un, .un] _ _ _ from (rs_asg (rx_call r__law_link_right (ra_consF (rx_var rfl) (ra_consF (rx_var rfl) (ra_consF (rx_var rfl) (ra_consF (rx_var rfl) (ra_consF (rx_var rfl) ra_nil)))))) fun due78 => (show RS _ [.un, .fz .tok, .fz readers7, .fz ledger20, .fz circle25, .fz many31, .fz turn33, .fz j38, .fz walk47, .fz k62, .fz link67, .fz due78, .un, .un, .un, .un, .un] _ _ _ from (rs_if (rt_not (rt_tru (rx_ro (rx_call r__law_exact (ra_consF (rx_call r_judge_link (ra_consF (rx_var rfl) (ra_consF (rx_var rfl) (ra_consF (rx_var rfl) (ra_consF (rx_var rfl) (ra_consF (rx_cb sn_tup (ra_consO (rx_ro (rx_var rfl)) ra_nil)) ra_nil)))))) (ra_consF (rx_var rfl) ra_nil)))))) (rs_assoc (rs_ret (rx_lit rfl))) (rs_skip (rs_asg (rx_fr (rx_lst (ra_consF (rx_var rfl) ra_nil))) fun hedge101 => (show RS _ [.un, .fz .tok, .fz readers7, .fz ledger20, .fz circle25, .fz many31, .fz turn33, .fz j38, .fz walk47, .fz k62, .fz link67, .fz due78, .fz hedge101, .un, .un, .un, .un] _ _ _ from (rs_for (L := fun (s102 : T) => [.un, .fz .tok, .fz readers7, .fz ledger20, .fz circle25, .fz many31, .fz turn33, .fz j38, .fz walk47, .fz k62, .fz link67, .fz due78, .fz s102, .un, .un, .un, .un]) (x0 := hedge101) (ri_rng1 (ro := false) (ra_consF (rx_call r__law_pick (ra_consF (rx_var rfl) (ra_consF (rx_fr (rx_lst (ra_consF (rx_var rfl) (ra_consF (rx_var rfl) (ra_consF (rx_lit rfl) (ra_consF (rx_lit rfl) ra_nil)))))) ra_nil))) ra_nil)) (.un (.cons (.cons (.cons (.cons (.cons (.cons (.cons (.cons (.cons (.cons (.cons (.cons (.un (.un (.un (.un .nil))))))))))))))))) (fun s102 => (tb1 fun step103 => (show RS _ [.un, .fz .tok, .fz readers7, .fz ledger20, .fz circle25, .fz many31, .fz turn33, .fz j38, .fz walk47, .fz k62, .fz link67, .fz due78, .fz s102, .fz step103, .un, .un, .un] _ _ _ from (rs_asg (rx_fr (rx_op s2_add (rx_ro (rx_var rfl)) (rx_ro (rx_fr (rx_lc (ri_rng1 (ro := true) (ra_consF (rx_var rfl) ra_nil)) (item1 (fun n104 => (show RT [.un, .fz .tok, .fz readers7, .fz ledger20, .fz circle25, .fz many31, .fz turn33, .fz j38, .fz walk47, .fz k62, .fz link67, .fz due78, .fz s102, .fz step103, .fz n104, .un, .un] _ _ from (rt_and (rt_val (rx_op (s2_in true) (rx_ro (rx_var rfl)) (rx_ro (rx_var rfl)))) (rt_val (rx_op (s2_ord (fun i j => decide (j < i))) (rx_ro (rx_cb sn_len (ra_consO (rx_ro (rx_fr (rx_lc (ri_val (rx_var rfl)) (item1 (fun r105 => (show RT [.un, .fz .tok, .fz readers7, .fz ledger20, .fz circle25, .fz many31, .fz turn33, .fz j38, .fz walk47, .fz k62, .fz link67, .fz due78, .fz s102, .fz step103, .fz n104, .fz r105, .un] _ _ from (rt_val (rx_op (s2_ord (fun i j => decide (j < i))) (rx_ro (rx_cb sn_len (ra_consO (rx_ro (rx_fr (rx_lc (ri_val (rx_var rfl)) (item1 (fun one106 => (show RT [.un, .fz .tok, .fz readers7, .fz ledger20, .fz circle25, .fz many31, .fz turn33, .fz j38, .fz walk47, .fz k62, .fz link67, .fz due78, .fz s102, .fz step103, .fz n104, .fz r105, .fz one106] _ _ from (rt_val (rx_op (s2_cmp false) (rx_ro (rx_op s2_ix (rx_ro (rx_op s2_ix (rx_ro (rx_op s2_ix (rx_ro (rx_var rfl)) (rx_ro (rx_lit rfl)))) (rx_ro (rx_var rfl)))) (rx_ro (rx_var rfl)))) (rx_ro (rx_op s2_ix (rx_ro (rx_op s2_ix (rx_ro (rx_op s2_ix (rx_ro (rx_var rfl)) (rx_ro (rx_lit rfl)))) (rx_ro (rx_var rfl)))) (rx_ro (rx_var rfl)))))))) (fun one106 => (show RX .fz [.un, .fz .tok, .fz readers7, .fz ledger20, .fz circle25, .fz many31, .fz turn33, .fz j38, .fz walk47, .fz k62, .fz link67, .fz due78, .fz s102, .fz step103, .fz n104, .fz r105, .fz one106] _ _ from (rx_var rfl))))))) ra_nil))) (rx_ro (rx_lit rfl)))))) (fun r105 => (show RX .fz [.un, .fz .tok, .fz readers7, .fz ledger20, .fz circle25, .fz many31, .fz turn33, .fz j38, .fz walk47, .fz k62, .fz link67, .fz due78, .fz s102, .fz step103, .fz n104, .fz r105, .un] _ _ from (rx_var rfl))))))) ra_nil))) (rx_ro (rx_lit rfl))))))) (fun n104 => (show RX .fz [.un, .fz .tok, .fz readers7, .fz ledger20, .fz circle25, .fz many31, .fz turn33, .fz j38, .fz walk47, .fz k62, .fz link67, .fz due78, .fz s102, .fz step103, .fz n104, .un, .un] _ _ from (rx_var rfl))))))))) fun hedge147 => (show RS _ [.un, .fz .tok, .fz readers7, .fz ledger20, .fz circle25, .fz many31, .fz turn33, .fz j38, .fz walk47, .fz k62, .fz link67, .fz due78, .fz hedge147, .fz step103, .un, .un, .un] _ _ _ from (rs_end (.un (.cons (.cons (.cons (.cons (.cons (.cons (.cons (.cons (.cons (.cons (.cons (.cons (.un (.un (.un (.un .nil))))))))))))))))))))))) fun s102 => (show RS _ [.un, .fz .tok, .fz readers7, .fz ledger20, .fz circle25, .fz many31, .fz turn33, .fz j38, .fz walk47, .fz k62, .fz link67, .fz due78, .fz s102, .un, .un, .un, .un] _ _ _ from (rs_asg (rx_call r__law_draw (ra_consF (rx_var rfl) (ra_consF (rx_var rfl) ra_nil))) fun k152 => (show RS _ [.un, .fz .tok, .fz readers7, .fz ledger20, .fz circle25, .fz many31, .fz turn33, .fz j38, .fz walk47, .fz k152, .fz link67, .fz due78, .fz s102, .un, .un, .un, .un] _ _ _ from (rs_asg (rx_call r__law_bent (ra_consF (rx_var rfl) (ra_consF (rx_call r__law_shuffled (ra_consF (rx_var rfl) (ra_consF (rx_var rfl) ra_nil))) ra_nil))) fun hedge161 => (show RS _ [.un, .fz .tok, .fz readers7, .fz ledger20, .fz circle25, .fz many31, .fz turn33, .fz j38, .fz walk47, .fz k152, .fz link67, .fz due78, .fz hedge161, .un, .un, .un, .un] _ _ _ from (rs_asg (rx_call r__law_hedge_right (ra_consF (rx_var rfl) (ra_consF (rx_var rfl) (ra_consF (rx_var rfl) (ra_consF (rx_var rfl) (ra_consF (rx_var rfl) ra_nil)))))) fun due172 => (show RS _ [.un, .fz .tok, .fz readers7, .fz ledger20, .fz circle25, .fz many31, .fz turn33, .fz j38, .fz walk47, .fz k152, .fz link67, .fz due172, .fz hedge161, .un, .un, .un, .un] _ _ _ from (rs_if (rt_not (rt_tru (rx_ro (rx_call r__law_exact (ra_consF (rx_call r_judge_hedge (ra_consF (rx_var rfl) (ra_consF (rx_var rfl) (ra_consF (rx_var rfl) (ra_consF (rx_var rfl) (ra_consF (rx_cb sn_tup (ra_consO (rx_ro (rx_var rfl)) ra_nil)) ra_nil)))))) (ra_consF (rx_var rfl) ra_nil)))))) (rs_assoc (rs_ret (rx_lit rfl))) (rs_skip (rs_end (.un (.cons (.cons (.cons (.cons (.cons (.un (.un (.un (.un (.un (.un (.un (.un (.un (.un (.un .nil))))))))))))))))))))))))))))))))))))))))))))) fun s32 => (show RS _ [.un, .fz .tok, .fz readers7, .fz ledger20, .fz circle25, .fz many31, .un, .un, .un, .un, .un, .un, .un, .un, .un, .un, .un] _ _ _ from (rs_ret (rx_lit rfl))))))))))))) hm
end K12

namespace K12
open PySem PySem.Spec PyProof.Rows L2 EV FM
/-! ledgers in plain words -/
structure Led where
  fs : List (List Nat)
  cs : List (List Int)
  ms : List (List Nat)
  os : List (List (List Nat))
def Led.t (L : Led) : T := .tup [.tup (L.fs.map nsT), .tup (L.cs.map tI), .tup (L.ms.map nsT), .tup (L.os.map fun r => .tup (r.map nsT))]
def Led.n (L : Led) : Nat := L.fs.length
def Led.mk' (L : Led) (r k : Nat) : Nat := (L.ms.getD r []).getD k 0
def Led.sh (L : Led) (k s : Nat) : Nat := (L.fs.getD k []).getD s 0
def Led.ct (L : Led) (s v : Nat) : Int := (L.cs.getD s []).getD v 0
def Led.op (L : Led) (r m : Nat) : List Nat := (L.os.getD r []).getD m []
structure Led.Ok (L : Led) (R : Nat) : Prop where
  npos : 0 < L.n
  nle : L.n ≤ 64
  pl : ∀ f ∈ L.fs, f.length = L.cs.length
  cpos : 0 < L.cs.length
  cle : L.cs.length ≤ 64
  row : ∀ k s, k < L.n → s < L.cs.length → L.sh k s < (L.cs.getD s []).length ∧ 1 ≤ L.ct s (L.sh k s)
  cnn : ∀ s v, 0 ≤ L.ct s v
  cbd : ∀ s v, L.ct s v < 2 ^ 41
  csl : ∀ row ∈ L.cs, row.length ≤ 64
  ms : L.ms.length = R
  os : L.os.length = R
  rle : R ≤ 64
  ml : ∀ m ∈ L.ms, m.length = L.n
  ol : ∀ r k, r < R → k < L.n → L.mk' r k < (L.os.getD r []).length
  told : ∀ r m, ∀ s ∈ L.op r m, s < L.cs.length
  tpw : ∀ r m, (L.op r m).Pairwise (· < ·)
  fpw : L.fs.Pairwise (fun x y => HT.lexLt (x.map Int.ofNat) (y.map Int.ofNat) = true)
theorem getD_some {α : Type} {xs : List α} {i : Nat} (d : α) (h : i < xs.length) : xs[i]? = some (xs.getD i d) := by
  rw [List.getElem?_eq_getElem h, List.getD_eq_getElem?_getD, List.getElem?_eq_getElem h]; rfl
theorem getD_mem {α : Type} {xs : List α} {i : Nat} (d : α) (h : i < xs.length) : xs.getD i d ∈ xs := by
  rw [List.getD_eq_getElem?_getD, List.getElem?_eq_getElem h]; exact List.getElem_mem h
section
variable {L : Led} {R : Nat}
theorem Led.t0 : ixB L.t (.int 0) = some (.tup (L.fs.map nsT)) := rfl
theorem Led.t1 : ixB L.t (.int 1) = some (.tup (L.cs.map tI)) := rfl
theorem Led.t2 : ixB L.t (.int 2) = some (.tup (L.ms.map nsT)) := rfl
theorem Led.t3 : ixB L.t (.int 3) = some (.tup (L.os.map fun r => .tup (r.map nsT))) := rfl
theorem ixB_map {α : Type} {f : α → T} {xs : List α} {k : Nat} (d : α) (h : k < xs.length) : ixB (.tup (xs.map f)) (.int (k : Int)) = some (f (xs.getD k d)) := by
  rw [ixB_tup, atI_m, getD_some d h]; rfl
theorem ixB_mapL {α : Type} {f : α → T} {xs : List α} {k : Nat} (d : α) (h : k < xs.length) : ixB (.lst (xs.map f)) (.int (k : Int)) = some (f (xs.getD k d)) := by
  rw [ixB_lst, atI_m, getD_some d h]; rfl
theorem ixB_ns {xs : List Nat} {k : Nat} (h : k < xs.length) : ixB (nsT xs) (.int (k : Int)) = some (nT (xs.getD k 0)) := ixB_map 0 h
theorem ixB_tI {xs : List Int} {k : Nat} (h : k < xs.length) : ixB (tI xs) (.int (k : Int)) = some (.int (xs.getD k 0)) := ixB_map 0 h
namespace Led.Ok
variable (ok : L.Ok R)
include ok
theorem rlen {r : Nat} (hr : r < R) : (L.ms.getD r []).length = L.n := ok.ml _ (getD_mem [] (by rw [ok.ms]; exact hr))
theorem flen {k : Nat} (hk : k < L.n) : (L.fs.getD k []).length = L.cs.length := ok.pl _ (getD_mem [] hk)
theorem i_ms {r : Nat} (hr : r < R) : ixB (.tup (L.ms.map nsT)) (.int (r : Int)) = some (nsT (L.ms.getD r [])) := ixB_map [] (by rw [ok.ms]; exact hr)
theorem i_mk {r k : Nat} (hr : r < R) (hk : k < L.n) : ixB (nsT (L.ms.getD r [])) (.int (k : Int)) = some (nT (L.mk' r k)) := ixB_ns (by rw [ok.rlen hr]; exact hk)
theorem i_os {r : Nat} (hr : r < R) : ixB (.tup (L.os.map fun r => T.tup (r.map nsT))) (.int (r : Int)) = some (.tup ((L.os.getD r []).map nsT)) := ixB_map (f := fun r => T.tup (r.map nsT)) [] (by rw [ok.os]; exact hr)
theorem i_op {r k : Nat} (hr : r < R) (hk : k < L.n) : ixB (.tup ((L.os.getD r []).map nsT)) (.int (L.mk' r k : Int)) = some (nsT (L.op r (L.mk' r k))) := ixB_map [] (ok.ol r k hr hk)
theorem i_fs {k : Nat} (hk : k < L.n) : ixB (.tup (L.fs.map nsT)) (.int (k : Int)) = some (nsT (L.fs.getD k [])) := ixB_map [] hk
theorem i_sh {k s : Nat} (hk : k < L.n) (hs : s < L.cs.length) : ixB (nsT (L.fs.getD k [])) (.int (s : Int)) = some (nT (L.sh k s)) := ixB_ns (by rw [ok.flen hk]; exact hs)
theorem i_cs {s : Nat} (hs : s < L.cs.length) : ixB (.tup (L.cs.map tI)) (.int (s : Int)) = some (tI (L.cs.getD s [])) := ixB_map [] hs
theorem i_ct {k s : Nat} (hk : k < L.n) (hs : s < L.cs.length) : ixB (tI (L.cs.getD s [])) (.int (L.sh k s : Int)) = some (.int (L.ct s (L.sh k s))) := ixB_tI (ok.row k s hk hs).1
end Led.Ok
def Led.like (L : Led) (c : List Nat) (k n : Nat) : Bool := c.all fun r => L.mk' r n == L.mk' r k
def Led.lot (L : Led) (c : List Nat) (k : Nat) : List Nat := (List.range L.n).filter (L.like c k)
theorem isEmpty_filter {α : Type} (p : α → Bool) (xs : List α) : (xs.filter p).isEmpty = xs.all fun x => !p x := by
  induction xs with
  | nil => rfl
  | cons x xs ih => rw [List.filter_cons, List.all_cons]; cases p x <;> simp [ih]
theorem map_nT_isEmpty {α : Type} (f : α → T) (xs : List α) : (xs.map f).isEmpty = xs.isEmpty := by cases xs <;> rfl
end

theorem lot_at_eq {L : Led} {R : Nat} (ok : L.Ok R) {c : List Nat} (hc : ∀ r ∈ c, r < R) (hcl : c.length ≤ 64) {k : Nat} (hk : k < L.n) : m_lot_at [L.t, nsT c, .int k] = mret (nsT (L.lot c k)) := by
  unfold m_lot_at
  simp only [bnd_mret, bnd_assoc', ofO_some', noex_mret, noex_bnd, runF_nx, runF_rt, runF_bnd, runF_ite, runF_bndX, bnd_ite, bndX_nx, bndX_rt, bndX_bnd, bndX_ite, bndN_nx, un2_tup, un3_tup, un4_tup, gIt_t, gIt_f, gIt_b, dnat, ixB_dk, ixB_dz, keyT_int, keyT_str, lenT_tup, lenT_lst, lenT_dk, truT_lst, truT_tup, truT_bl, truT_int, truT_non, blT_bl, asL_lst, asK_dk, valT_lst, valT_nsT, lenT_nsT, valT_tup, tupT_lst, tupT_tup, listT_lst, listT_tup, intcT_int, intT_int, addT_int, ordT_int, cmpT_int, cmpT_bl, cmpT_str, isT_non, isT_bl, isNonT_non, isNonT_int, isNonT_tup, isNonT_bl, negT_int, intO_int, sumT_ints, sortedT_ints, Option.map_some, Option.map_none, Option.bind_some, List.length_map, List.length_range, Bool.not_not, Bool.true_xor, Bool.false_xor, Bool.xor_false, Bool.xor_true, if_true, if_false, Bool.false_eq_true, reduceIte, Bool.not_true, Bool.not_false, Led.t0]
  rw [rng1_ok (show L.fs.length < 2 ^ 62 by have := ok.nle; unfold Led.n at this; omega)]
  simp only [bnd_mret, bnd_assoc', ofO_some', noex_mret, noex_bnd, runF_nx, runF_rt, runF_bnd, runF_ite, runF_bndX, bnd_ite, bndX_nx, bndX_rt, bndX_bnd, bndX_ite, bndN_nx, un2_tup, un3_tup, un4_tup, gIt_t, gIt_f, gIt_b, dnat, ixB_dk, ixB_dz, keyT_int, keyT_str, lenT_tup, lenT_lst, lenT_dk, truT_lst, truT_tup, truT_bl, truT_int, truT_non, blT_bl, asL_lst, asK_dk, valT_lst, valT_nsT, lenT_nsT, valT_tup, tupT_lst, tupT_tup, listT_lst, listT_tup, intcT_int, intT_int, addT_int, ordT_int, cmpT_int, cmpT_bl, cmpT_str, isT_non, isT_bl, isNonT_non, isNonT_int, isNonT_tup, isNonT_bl, negT_int, intO_int, sumT_ints, sortedT_ints, Option.map_some, Option.map_none, Option.bind_some, List.length_map, List.length_range, Bool.not_not, Bool.true_xor, Bool.false_xor, Bool.xor_false, Bool.xor_true, if_true, if_false, Bool.false_eq_true, reduceIte, Bool.not_true, Bool.not_false]
  rw [forE_flt (enc := fun i : Nat => T.int i) (p := L.like c k) (h := nT) (fun n hn acc ha => ?_) (by simp; have := ok.nle; unfold Led.n at this; omega)]
  · simp only [bnd_mret, bnd_assoc', ofO_some', noex_mret, noex_bnd, runF_nx, runF_rt, runF_bnd, runF_ite, runF_bndX, bnd_ite, bndX_nx, bndX_rt, bndX_bnd, bndX_ite, bndN_nx, un2_tup, un3_tup, un4_tup, gIt_t, gIt_f, gIt_b, dnat, ixB_dk, ixB_dz, keyT_int, keyT_str, lenT_tup, lenT_lst, lenT_dk, truT_lst, truT_tup, truT_bl, truT_int, truT_non, blT_bl, asL_lst, asK_dk, valT_lst, valT_nsT, lenT_nsT, valT_tup, tupT_lst, tupT_tup, listT_lst, listT_tup, intcT_int, intT_int, addT_int, ordT_int, cmpT_int, cmpT_bl, cmpT_str, isT_non, isT_bl, isNonT_non, isNonT_int, isNonT_tup, isNonT_bl, negT_int, intO_int, sumT_ints, sortedT_ints, Option.map_some, Option.map_none, Option.bind_some, List.length_map, List.length_range, Bool.not_not, Bool.true_xor, Bool.false_xor, Bool.xor_false, Bool.xor_true, if_true, if_false, Bool.false_eq_true, reduceIte, Bool.not_true, Bool.not_false, Led.lot, nsT]; rfl
  · have hn : n < L.n := by simpa [Led.n] using hn
    simp only [bnd_mret, bnd_assoc', ofO_some', noex_mret, noex_bnd, runF_nx, runF_rt, runF_bnd, runF_ite, runF_bndX, bnd_ite, bndX_nx, bndX_rt, bndX_bnd, bndX_ite, bndN_nx, un2_tup, un3_tup, un4_tup, gIt_t, gIt_f, gIt_b, dnat, ixB_dk, ixB_dz, keyT_int, keyT_str, lenT_tup, lenT_lst, lenT_dk, truT_lst, truT_tup, truT_bl, truT_int, truT_non, blT_bl, asL_lst, asK_dk, valT_lst, valT_nsT, lenT_nsT, valT_tup, tupT_lst, tupT_tup, listT_lst, listT_tup, intcT_int, intT_int, addT_int, ordT_int, cmpT_int, cmpT_bl, cmpT_str, isT_non, isT_bl, isNonT_non, isNonT_int, isNonT_tup, isNonT_bl, negT_int, intO_int, sumT_ints, sortedT_ints, Option.map_some, Option.map_none, Option.bind_some, List.length_map, List.length_range, Bool.not_not, Bool.true_xor, Bool.false_xor, Bool.xor_false, Bool.xor_true, if_true, if_false, Bool.false_eq_true, reduceIte, Bool.not_true, Bool.not_false, Led.t2]
    rw [lcM_flt (enc := nT) (p := fun r => !(L.mk' r n == L.mk' r k)) (h := nT) (fun r hr => ?_) (by omega)]
    · simp only [bnd_mret, bnd_assoc', ofO_some', noex_mret, noex_bnd, runF_nx, runF_rt, runF_bnd, runF_ite, runF_bndX, bnd_ite, bndX_nx, bndX_rt, bndX_bnd, bndX_ite, bndN_nx, un2_tup, un3_tup, un4_tup, gIt_t, gIt_f, gIt_b, dnat, ixB_dk, ixB_dz, keyT_int, keyT_str, lenT_tup, lenT_lst, lenT_dk, truT_lst, truT_tup, truT_bl, truT_int, truT_non, blT_bl, asL_lst, asK_dk, valT_lst, valT_nsT, lenT_nsT, valT_tup, tupT_lst, tupT_tup, listT_lst, listT_tup, intcT_int, intT_int, addT_int, ordT_int, cmpT_int, cmpT_bl, cmpT_str, isT_non, isT_bl, isNonT_non, isNonT_int, isNonT_tup, isNonT_bl, negT_int, intO_int, sumT_ints, sortedT_ints, Option.map_some, Option.map_none, Option.bind_some, List.length_map, List.length_range, Bool.not_not, Bool.true_xor, Bool.false_xor, Bool.xor_false, Bool.xor_true, if_true, if_false, Bool.false_eq_true, reduceIte, Bool.not_true, Bool.not_false, map_nT_isEmpty, isEmpty_filter, appT_ok ha]
      unfold Led.like
      cases (c.all fun r => L.mk' r n == L.mk' r k) <;> rfl
    · have hr := hc r hr
      simp only [bnd_mret, bnd_assoc', ofO_some', noex_mret, noex_bnd, runF_nx, runF_rt, runF_bnd, runF_ite, runF_bndX, bnd_ite, bndX_nx, bndX_rt, bndX_bnd, bndX_ite, bndN_nx, un2_tup, un3_tup, un4_tup, gIt_t, gIt_f, gIt_b, dnat, ixB_dk, ixB_dz, keyT_int, keyT_str, lenT_tup, lenT_lst, lenT_dk, truT_lst, truT_tup, truT_bl, truT_int, truT_non, blT_bl, asL_lst, asK_dk, valT_lst, valT_nsT, lenT_nsT, valT_tup, tupT_lst, tupT_tup, listT_lst, listT_tup, intcT_int, intT_int, addT_int, ordT_int, cmpT_int, cmpT_bl, cmpT_str, isT_non, isT_bl, isNonT_non, isNonT_int, isNonT_tup, isNonT_bl, negT_int, intO_int, sumT_ints, sortedT_ints, Option.map_some, Option.map_none, Option.bind_some, List.length_map, List.length_range, Bool.not_not, Bool.true_xor, Bool.false_xor, Bool.xor_false, Bool.xor_true, if_true, if_false, Bool.false_eq_true, reduceIte, Bool.not_true, Bool.not_false, nT, ok.i_ms hr, ok.i_mk hr hn, ok.i_mk hr hk]

/-! the draws' own defs -/
theorem wp_pickM {xs : List T} {s : Drw} {Q : T → Drw → Prop} (h0 : 0 < xs.length) (hl : xs.length < 2 ^ 60) (h : ∀ v s', v ∈ xs → Q v s') : wp (m__law_pick [.tok, .lst xs]) s Q := by
  unfold m__law_pick
  simp only [bnd_mret, bnd_assoc', ofO_some', noex_mret, noex_bnd, runF_nx, runF_rt, runF_bnd, runF_ite, runF_bndX, bnd_ite, bndX_nx, bndX_rt, bndX_bnd, bndX_ite, bndN_nx, un2_tup, un3_tup, un4_tup, gIt_t, gIt_f, gIt_b, dnat, ixB_dk, ixB_dz, keyT_int, keyT_str, lenT_tup, lenT_lst, lenT_dk, truT_lst, truT_tup, truT_bl, truT_int, truT_non, blT_bl, asL_lst, asK_dk, valT_lst, valT_nsT, lenT_nsT, valT_tup, tupT_lst, tupT_tup, listT_lst, listT_tup, intcT_int, intT_int, addT_int, ordT_int, cmpT_int, cmpT_bl, cmpT_str, isT_non, isT_bl, isNonT_non, isNonT_int, isNonT_tup, isNonT_bl, negT_int, intO_int, sumT_ints, sortedT_ints, Option.map_some, Option.map_none, Option.bind_some, List.length_map, List.length_range, Bool.not_not, Bool.true_xor, Bool.false_xor, Bool.xor_false, Bool.xor_true, if_true, if_false, Bool.false_eq_true, reduceIte, Bool.not_true, Bool.not_false]
  unfold m__law_draw
  refine wp_bnd (wp_draw (by omega) fun v s' h1 h2 => ?_)
  obtain ⟨n, rfl⟩ : ∃ n : Nat, v = n := ⟨v.toNat, by omega⟩
  have hn : n < xs.length := by omega
  simp only [bnd_mret, bnd_assoc', ofO_some', noex_mret, noex_bnd, runF_nx, runF_rt, runF_bnd, runF_ite, runF_bndX, bnd_ite, bndX_nx, bndX_rt, bndX_bnd, bndX_ite, bndN_nx, un2_tup, un3_tup, un4_tup, gIt_t, gIt_f, gIt_b, dnat, ixB_dk, ixB_dz, keyT_int, keyT_str, lenT_tup, lenT_lst, lenT_dk, truT_lst, truT_tup, truT_bl, truT_int, truT_non, blT_bl, asL_lst, asK_dk, valT_lst, valT_nsT, lenT_nsT, valT_tup, tupT_lst, tupT_tup, listT_lst, listT_tup, intcT_int, intT_int, addT_int, ordT_int, cmpT_int, cmpT_bl, cmpT_str, isT_non, isT_bl, isNonT_non, isNonT_int, isNonT_tup, isNonT_bl, negT_int, intO_int, sumT_ints, sortedT_ints, Option.map_some, Option.map_none, Option.bind_some, List.length_map, List.length_range, Bool.not_not, Bool.true_xor, Bool.false_xor, Bool.xor_false, Bool.xor_true, if_true, if_false, Bool.false_eq_true, reduceIte, Bool.not_true, Bool.not_false, ixB_tup, ixB_lst, atI_m, atI_0, atI_1, atI_2, atI_3, atI_n, List.getElem?_eq_getElem hn]
  exact wp_ret (h _ _ (List.getElem_mem hn))
theorem wp_pick {α : Type} {f : α → T} {xs : List α} {s : Drw} {Q : T → Drw → Prop} (h0 : 0 < xs.length) (hl : xs.length < 2 ^ 60) (h : ∀ v s', v ∈ xs → Q (f v) s') : wp (m__law_pick [.tok, .lst (xs.map f)]) s Q :=
  wp_pickM (by simpa using h0) (by simpa using hl) fun v s' hv => by
    obtain ⟨x, hx, rfl⟩ := List.mem_map.mp hv
    exact h x s' hx
theorem wp_drawN {many : Nat} {s : Drw} {Q : T → Drw → Prop} (hm : many < 2 ^ 60) (h : ∀ (v : Nat) s', v < max many 1 → Q (.int (v : Int)) s') : wp (m__law_draw [.tok, .int (many : Int)]) s Q := by
  unfold m__law_draw
  refine wp_draw (by omega) fun v s' h1 h2 => ?_
  obtain ⟨n, rfl⟩ : ∃ n : Nat, v = n := ⟨v.toNat, by omega⟩
  exact h n s' (by omega)

theorem exactN : ∀ (n : Nat) (v : T), exT n v = true → mN__law_exact (n + 1) [v, v] = mret (.bl true) := by
  intro n
  induction n with
  | zero =>
    intro v hv
    cases v <;> first | (simp [exT] at hv; done) | skip
    all_goals (unfold mN__law_exact mb__law_exact; simp only [bnd_mret, bnd_assoc', ofO_some', noex_mret, noex_bnd, runF_nx, runF_rt, runF_bnd, runF_ite, runF_bndX, bnd_ite, bndX_nx, bndX_rt, bndX_bnd, bndX_ite, bndN_nx, un2_tup, un3_tup, un4_tup, gIt_t, gIt_f, gIt_b, dnat, ixB_dk, ixB_dz, keyT_int, keyT_str, lenT_tup, lenT_lst, lenT_dk, truT_lst, truT_tup, truT_bl, truT_int, truT_non, blT_bl, asL_lst, asK_dk, valT_lst, valT_nsT, lenT_nsT, valT_tup, tupT_lst, tupT_tup, listT_lst, listT_tup, intcT_int, intT_int, addT_int, ordT_int, cmpT_int, cmpT_bl, cmpT_str, isT_non, isT_bl, isNonT_non, isNonT_int, isNonT_tup, isNonT_bl, negT_int, intO_int, sumT_ints, sortedT_ints, Option.map_some, Option.map_none, Option.bind_some, List.length_map, List.length_range, Bool.not_not, Bool.true_xor, Bool.false_xor, Bool.xor_false, Bool.xor_true, if_true, if_false, Bool.false_eq_true, reduceIte, Bool.not_true, Bool.not_false, isiT, tyT, isiB]; try rfl)
    all_goals (try simp)
  | succ n ih =>
    intro v hv
    cases v <;> first | (simp [exT] at hv; done) | skip
    · unfold mN__law_exact mb__law_exact; simp only [bnd_mret, bnd_assoc', ofO_some', noex_mret, noex_bnd, runF_nx, runF_rt, runF_bnd, runF_ite, runF_bndX, bnd_ite, bndX_nx, bndX_rt, bndX_bnd, bndX_ite, bndN_nx, un2_tup, un3_tup, un4_tup, gIt_t, gIt_f, gIt_b, dnat, ixB_dk, ixB_dz, keyT_int, keyT_str, lenT_tup, lenT_lst, lenT_dk, truT_lst, truT_tup, truT_bl, truT_int, truT_non, blT_bl, asL_lst, asK_dk, valT_lst, valT_nsT, lenT_nsT, valT_tup, tupT_lst, tupT_tup, listT_lst, listT_tup, intcT_int, intT_int, addT_int, ordT_int, cmpT_int, cmpT_bl, cmpT_str, isT_non, isT_bl, isNonT_non, isNonT_int, isNonT_tup, isNonT_bl, negT_int, intO_int, sumT_ints, sortedT_ints, Option.map_some, Option.map_none, Option.bind_some, List.length_map, List.length_range, Bool.not_not, Bool.true_xor, Bool.false_xor, Bool.xor_false, Bool.xor_true, if_true, if_false, Bool.false_eq_true, reduceIte, Bool.not_true, Bool.not_false, isiT, tyT, isiB]; try rfl
    · unfold mN__law_exact mb__law_exact; simp only [bnd_mret, bnd_assoc', ofO_some', noex_mret, noex_bnd, runF_nx, runF_rt, runF_bnd, runF_ite, runF_bndX, bnd_ite, bndX_nx, bndX_rt, bndX_bnd, bndX_ite, bndN_nx, un2_tup, un3_tup, un4_tup, gIt_t, gIt_f, gIt_b, dnat, ixB_dk, ixB_dz, keyT_int, keyT_str, lenT_tup, lenT_lst, lenT_dk, truT_lst, truT_tup, truT_bl, truT_int, truT_non, blT_bl, asL_lst, asK_dk, valT_lst, valT_nsT, lenT_nsT, valT_tup, tupT_lst, tupT_tup, listT_lst, listT_tup, intcT_int, intT_int, addT_int, ordT_int, cmpT_int, cmpT_bl, cmpT_str, isT_non, isT_bl, isNonT_non, isNonT_int, isNonT_tup, isNonT_bl, negT_int, intO_int, sumT_ints, sortedT_ints, Option.map_some, Option.map_none, Option.bind_some, List.length_map, List.length_range, Bool.not_not, Bool.true_xor, Bool.false_xor, Bool.xor_false, Bool.xor_true, if_true, if_false, Bool.false_eq_true, reduceIte, Bool.not_true, Bool.not_false, isiT, tyT, isiB]; try rfl
      try simp
    · unfold mN__law_exact mb__law_exact; simp only [bnd_mret, bnd_assoc', ofO_some', noex_mret, noex_bnd, runF_nx, runF_rt, runF_bnd, runF_ite, runF_bndX, bnd_ite, bndX_nx, bndX_rt, bndX_bnd, bndX_ite, bndN_nx, un2_tup, un3_tup, un4_tup, gIt_t, gIt_f, gIt_b, dnat, ixB_dk, ixB_dz, keyT_int, keyT_str, lenT_tup, lenT_lst, lenT_dk, truT_lst, truT_tup, truT_bl, truT_int, truT_non, blT_bl, asL_lst, asK_dk, valT_lst, valT_nsT, lenT_nsT, valT_tup, tupT_lst, tupT_tup, listT_lst, listT_tup, intcT_int, intT_int, addT_int, ordT_int, cmpT_int, cmpT_bl, cmpT_str, isT_non, isT_bl, isNonT_non, isNonT_int, isNonT_tup, isNonT_bl, negT_int, intO_int, sumT_ints, sortedT_ints, Option.map_some, Option.map_none, Option.bind_some, List.length_map, List.length_range, Bool.not_not, Bool.true_xor, Bool.false_xor, Bool.xor_false, Bool.xor_true, if_true, if_false, Bool.false_eq_true, reduceIte, Bool.not_true, Bool.not_false, isiT, tyT, isiB]; try rfl
      try simp
    · unfold mN__law_exact mb__law_exact; simp only [bnd_mret, bnd_assoc', ofO_some', noex_mret, noex_bnd, runF_nx, runF_rt, runF_bnd, runF_ite, runF_bndX, bnd_ite, bndX_nx, bndX_rt, bndX_bnd, bndX_ite, bndN_nx, un2_tup, un3_tup, un4_tup, gIt_t, gIt_f, gIt_b, dnat, ixB_dk, ixB_dz, keyT_int, keyT_str, lenT_tup, lenT_lst, lenT_dk, truT_lst, truT_tup, truT_bl, truT_int, truT_non, blT_bl, asL_lst, asK_dk, valT_lst, valT_nsT, lenT_nsT, valT_tup, tupT_lst, tupT_tup, listT_lst, listT_tup, intcT_int, intT_int, addT_int, ordT_int, cmpT_int, cmpT_bl, cmpT_str, isT_non, isT_bl, isNonT_non, isNonT_int, isNonT_tup, isNonT_bl, negT_int, intO_int, sumT_ints, sortedT_ints, Option.map_some, Option.map_none, Option.bind_some, List.length_map, List.length_range, Bool.not_not, Bool.true_xor, Bool.false_xor, Bool.xor_false, Bool.xor_true, if_true, if_false, Bool.false_eq_true, reduceIte, Bool.not_true, Bool.not_false, isiT, tyT, isiB]; try rfl
      try simp
    · rename_i xs
      have hv' : xs.length < 1000000000 ∧ exTs n xs = true := by simpa [exT] using hv
      unfold mN__law_exact mb__law_exact
      simp only [bnd_mret, bnd_assoc', ofO_some', noex_mret, noex_bnd, runF_nx, runF_rt, runF_bnd, runF_ite, runF_bndX, bnd_ite, bndX_nx, bndX_rt, bndX_bnd, bndX_ite, bndN_nx, un2_tup, un3_tup, un4_tup, gIt_t, gIt_f, gIt_b, dnat, ixB_dk, ixB_dz, keyT_int, keyT_str, lenT_tup, lenT_lst, lenT_dk, truT_lst, truT_tup, truT_bl, truT_int, truT_non, blT_bl, asL_lst, asK_dk, valT_lst, valT_nsT, lenT_nsT, valT_tup, tupT_lst, tupT_tup, listT_lst, listT_tup, intcT_int, intT_int, addT_int, ordT_int, cmpT_int, cmpT_bl, cmpT_str, isT_non, isT_bl, isNonT_non, isNonT_int, isNonT_tup, isNonT_bl, negT_int, intO_int, sumT_ints, sortedT_ints, Option.map_some, Option.map_none, Option.bind_some, List.length_map, List.length_range, Bool.not_not, Bool.true_xor, Bool.false_xor, Bool.xor_false, Bool.xor_true, if_true, if_false, Bool.false_eq_true, reduceIte, Bool.not_true, Bool.not_false, isiT, tyT, isiB]
      simp only [decide_true, bnd_mret, bnd_assoc', ofO_some', noex_mret, noex_bnd, runF_nx, runF_rt, runF_bnd, runF_ite, runF_bndX, bnd_ite, bndX_nx, bndX_rt, bndX_bnd, bndX_ite, bndN_nx, un2_tup, un3_tup, un4_tup, gIt_t, gIt_f, gIt_b, dnat, ixB_dk, ixB_dz, keyT_int, keyT_str, lenT_tup, lenT_lst, lenT_dk, truT_lst, truT_tup, truT_bl, truT_int, truT_non, blT_bl, asL_lst, asK_dk, valT_lst, valT_nsT, lenT_nsT, valT_tup, tupT_lst, tupT_tup, listT_lst, listT_tup, intcT_int, intT_int, addT_int, ordT_int, cmpT_int, cmpT_bl, cmpT_str, isT_non, isT_bl, isNonT_non, isNonT_int, isNonT_tup, isNonT_bl, negT_int, intO_int, sumT_ints, sortedT_ints, Option.map_some, Option.map_none, Option.bind_some, List.length_map, List.length_range, Bool.not_not, Bool.true_xor, Bool.false_xor, Bool.xor_false, Bool.xor_true, if_true, if_false, Bool.false_eq_true, reduceIte, Bool.not_true, Bool.not_false, rng1_ok (show xs.length < 2 ^ 62 by omega)]
      rw [forE_all (p := fun _ => true) (v := .non) (fun i hi => by
        have hi : i < xs.length := by simpa using hi
        have e := List.getElem?_eq_getElem hi
        have := ih xs[i] (exTs_at hv'.2 e)
        simp only [bnd_mret, bnd_assoc', ofO_some', noex_mret, noex_bnd, runF_nx, runF_rt, runF_bnd, runF_ite, runF_bndX, bnd_ite, bndX_nx, bndX_rt, bndX_bnd, bndX_ite, bndN_nx, un2_tup, un3_tup, un4_tup, gIt_t, gIt_f, gIt_b, dnat, ixB_dk, ixB_dz, keyT_int, keyT_str, lenT_tup, lenT_lst, lenT_dk, truT_lst, truT_tup, truT_bl, truT_int, truT_non, blT_bl, asL_lst, asK_dk, valT_lst, valT_nsT, lenT_nsT, valT_tup, tupT_lst, tupT_tup, listT_lst, listT_tup, intcT_int, intT_int, addT_int, ordT_int, cmpT_int, cmpT_bl, cmpT_str, isT_non, isT_bl, isNonT_non, isNonT_int, isNonT_tup, isNonT_bl, negT_int, intO_int, sumT_ints, sortedT_ints, Option.map_some, Option.map_none, Option.bind_some, List.length_map, List.length_range, Bool.not_not, Bool.true_xor, Bool.false_xor, Bool.xor_false, Bool.xor_true, if_true, if_false, Bool.false_eq_true, reduceIte, Bool.not_true, Bool.not_false, ixB_tup, ixB_lst, atI_m, atI_0, atI_1, atI_2, atI_3, atI_n, e, this])]
      simp
theorem exact_eq {v : T} (hv : exT 11 v = true) : m__law_exact [v, v] = mret (.bl true) := exactN 11 v hv

/-! the law's own ledger -/
theorem wp_pickI {l : List Nat} {s : Drw} {Q : T → Drw → Prop} (h0 : 0 < l.length) (hl : l.length < 2 ^ 60) (h : ∀ v s', v ∈ l → Q (.int (v : Int)) s') : wp (m__law_pick [.tok, .lst (l.map nT)]) s Q := wp_pick h0 hl h
theorem insA_pre (l xs : List Nat) : ∃ t, insA l xs = l ++ t := by
  unfold insA
  induction xs generalizing l with
  | nil => exact ⟨[], by simp⟩
  | cons x xs ih =>
    obtain ⟨t, e⟩ := ih (insS l x)
    rw [List.foldl_cons, e]
    unfold insS
    split
    · exact ⟨t, rfl⟩
    · exact ⟨x :: t, by simp⟩
theorem idxOf_pre {a b : List Nat} {v : Nat} (h : v ∈ a) : (a ++ b).idxOf v = a.idxOf v := by
  induction a with
  | nil => cases h
  | cons x a ih =>
    rw [List.cons_append, List.idxOf_cons, List.idxOf_cons]
    by_cases e : x = v
    · subst e; simp
    · rw [ih ((List.mem_cons.mp h).resolve_left fun q => e q.symm)]
def numN (l : List Nat) : List Nat := l.map fun v => (insA [] l).idxOf v
theorem numN_snoc (pre : List Nat) (v : Nat) : numN (pre ++ [v]) = numN pre ++ [(insA [] (pre ++ [v])).idxOf v] := by
  unfold numN
  rw [List.map_append, List.map_singleton]
  congr 1
  refine List.map_congr_left fun w hw => ?_
  rw [insA_snoc]
  have : w ∈ insA [] pre := mem_insA.mpr (.inr hw)
  unfold insS
  split
  · rfl
  · exact idxOf_pre this
theorem numbered_eq (l : List Nat) (hl : l.length ≤ 1000000) : m__law_numbered [.lst (l.map nT)] = mret (nsT (numN l)) := by
  unfold m__law_numbered
  simp only [bnd_mret, bnd_assoc', ofO_some', noex_mret, noex_bnd, runF_nx, runF_rt, runF_bnd, runF_ite, runF_bndX, bnd_ite, bndX_nx, bndX_rt, bndX_bnd, bndX_ite, bndN_nx, un2_tup, un3_tup, un4_tup, gIt_t, gIt_f, gIt_b, dnat, ixB_dk, ixB_dz, keyT_int, keyT_str, lenT_tup, lenT_lst, lenT_dk, truT_lst, truT_tup, truT_bl, truT_int, truT_non, blT_bl, asL_lst, asK_dk, valT_lst, valT_nsT, lenT_nsT, valT_tup, tupT_lst, tupT_tup, listT_lst, listT_tup, intcT_int, intT_int, addT_int, ordT_int, cmpT_int, cmpT_bl, cmpT_str, isT_non, isT_bl, isNonT_non, isNonT_int, isNonT_tup, isNonT_bl, negT_int, intO_int, sumT_ints, sortedT_ints, Option.map_some, Option.map_none, Option.bind_some, List.length_map, List.length_range, Bool.not_not, Bool.true_xor, Bool.false_xor, Bool.xor_false, Bool.xor_true, if_true, if_false, Bool.false_eq_true, reduceIte, Bool.not_true, Bool.not_false]
  refine bnd_for (I := fun pre x => x = (T.lst ((insA [] pre).map nT), T.lst ((numN pre).map nT))) rfl (fun pre v post x e hI => ?_) (fun x hI => by subst hI; simp only [bnd_mret, bnd_assoc', ofO_some', noex_mret, noex_bnd, runF_nx, runF_rt, runF_bnd, runF_ite, runF_bndX, bnd_ite, bndX_nx, bndX_rt, bndX_bnd, bndX_ite, bndN_nx, un2_tup, un3_tup, un4_tup, gIt_t, gIt_f, gIt_b, dnat, ixB_dk, ixB_dz, keyT_int, keyT_str, lenT_tup, lenT_lst, lenT_dk, truT_lst, truT_tup, truT_bl, truT_int, truT_non, blT_bl, asL_lst, asK_dk, valT_lst, valT_nsT, lenT_nsT, valT_tup, tupT_lst, tupT_tup, listT_lst, listT_tup, intcT_int, intT_int, addT_int, ordT_int, cmpT_int, cmpT_bl, cmpT_str, isT_non, isT_bl, isNonT_non, isNonT_int, isNonT_tup, isNonT_bl, negT_int, intO_int, sumT_ints, sortedT_ints, Option.map_some, Option.map_none, Option.bind_some, List.length_map, List.length_range, Bool.not_not, Bool.true_xor, Bool.false_xor, Bool.xor_false, Bool.xor_true, if_true, if_false, Bool.false_eq_true, reduceIte, Bool.not_true, Bool.not_false]; rfl)
  subst hI
  have hp : pre.length + 1 ≤ l.length := by rw [e]; simp
  have h1 := len_insA [] pre
  simp only [List.length_nil] at h1
  have h2 : (numN pre).length = pre.length := by simp [numN]
  have hap := fun y => appT_ok (ts := (insA [] pre).map nT) (y := y) (by simp only [List.length_map]; omega)
  have haq := fun y => appT_ok (ts := (numN pre).map nT) (y := y) (by simp only [List.length_map]; omega)
  have hm : v ∈ insA [] (pre ++ [v]) := mem_insA.mpr (.inr (by simp))
  have hi := indexT_nT _ v hm
  refine ⟨(T.lst ((insA [] (pre ++ [v])).map nT), T.lst ((numN (pre ++ [v])).map nT)), ?_, rfl⟩
  rw [numN_snoc]
  simp only [bnd_mret, bnd_assoc', ofO_some', noex_mret, noex_bnd, runF_nx, runF_rt, runF_bnd, runF_ite, runF_bndX, bnd_ite, bndX_nx, bndX_rt, bndX_bnd, bndX_ite, bndN_nx, un2_tup, un3_tup, un4_tup, gIt_t, gIt_f, gIt_b, dnat, ixB_dk, ixB_dz, keyT_int, keyT_str, lenT_tup, lenT_lst, lenT_dk, truT_lst, truT_tup, truT_bl, truT_int, truT_non, blT_bl, asL_lst, asK_dk, valT_lst, valT_nsT, lenT_nsT, valT_tup, tupT_lst, tupT_tup, listT_lst, listT_tup, intcT_int, intT_int, addT_int, ordT_int, cmpT_int, cmpT_bl, cmpT_str, isT_non, isT_bl, isNonT_non, isNonT_int, isNonT_tup, isNonT_bl, negT_int, intO_int, sumT_ints, sortedT_ints, Option.map_some, Option.map_none, Option.bind_some, List.length_map, List.length_range, Bool.not_not, Bool.true_xor, Bool.false_xor, Bool.xor_false, Bool.xor_true, if_true, if_false, Bool.false_eq_true, reduceIte, Bool.not_true, Bool.not_false, inT_nTl, hap]
  cases hc : (insA [] pre).contains v with
  | false =>
    have e1 : insA [] (pre ++ [v]) = insA [] pre ++ [v] := by rw [insA_snoc]; unfold insS; rw [hc]; rfl
    rw [e1, List.map_append, List.map_singleton] at hi
    simp only [bnd_mret, bnd_assoc', ofO_some', noex_mret, noex_bnd, runF_nx, runF_rt, runF_bnd, runF_ite, runF_bndX, bnd_ite, bndX_nx, bndX_rt, bndX_bnd, bndX_ite, bndN_nx, un2_tup, un3_tup, un4_tup, gIt_t, gIt_f, gIt_b, dnat, ixB_dk, ixB_dz, keyT_int, keyT_str, lenT_tup, lenT_lst, lenT_dk, truT_lst, truT_tup, truT_bl, truT_int, truT_non, blT_bl, asL_lst, asK_dk, valT_lst, valT_nsT, lenT_nsT, valT_tup, tupT_lst, tupT_tup, listT_lst, listT_tup, intcT_int, intT_int, addT_int, ordT_int, cmpT_int, cmpT_bl, cmpT_str, isT_non, isT_bl, isNonT_non, isNonT_int, isNonT_tup, isNonT_bl, negT_int, intO_int, sumT_ints, sortedT_ints, Option.map_some, Option.map_none, Option.bind_some, List.length_map, List.length_range, Bool.not_not, Bool.true_xor, Bool.false_xor, Bool.xor_false, Bool.xor_true, if_true, if_false, Bool.false_eq_true, reduceIte, Bool.not_true, Bool.not_false, hi, haq, e1, List.map_append, List.map_singleton]
  | true =>
    have e1 : insA [] (pre ++ [v]) = insA [] pre := by rw [insA_snoc]; unfold insS; rw [hc]; rfl
    rw [e1] at hi
    simp only [bnd_mret, bnd_assoc', ofO_some', noex_mret, noex_bnd, runF_nx, runF_rt, runF_bnd, runF_ite, runF_bndX, bnd_ite, bndX_nx, bndX_rt, bndX_bnd, bndX_ite, bndN_nx, un2_tup, un3_tup, un4_tup, gIt_t, gIt_f, gIt_b, dnat, ixB_dk, ixB_dz, keyT_int, keyT_str, lenT_tup, lenT_lst, lenT_dk, truT_lst, truT_tup, truT_bl, truT_int, truT_non, blT_bl, asL_lst, asK_dk, valT_lst, valT_nsT, lenT_nsT, valT_tup, tupT_lst, tupT_tup, listT_lst, listT_tup, intcT_int, intT_int, addT_int, ordT_int, cmpT_int, cmpT_bl, cmpT_str, isT_non, isT_bl, isNonT_non, isNonT_int, isNonT_tup, isNonT_bl, negT_int, intO_int, sumT_ints, sortedT_ints, Option.map_some, Option.map_none, Option.bind_some, List.length_map, List.length_range, Bool.not_not, Bool.true_xor, Bool.false_xor, Bool.xor_false, Bool.xor_true, if_true, if_false, Bool.false_eq_true, reduceIte, Bool.not_true, Bool.not_false, hi, haq, e1, List.map_append, List.map_singleton]
theorem wp_marks {n : Nat} {s : Drw} {Q : T → Drw → Prop} (h0 : 0 < n) (hn : n ≤ 1000000) (h : ∀ (l : List Nat) s', l.length = n → Q (nsT (numN l)) s') : wp (m__law_marks [.tok, .int (n : Int)]) s Q := by
  unfold m__law_marks
  simp only [bnd_mret, bnd_assoc', ofO_some', noex_mret, noex_bnd, runF_nx, runF_rt, runF_bnd, runF_ite, runF_bndX, bnd_ite, bndX_nx, bndX_rt, bndX_bnd, bndX_ite, bndN_nx, un2_tup, un3_tup, un4_tup, gIt_t, gIt_f, gIt_b, dnat, ixB_dk, ixB_dz, keyT_int, keyT_str, lenT_tup, lenT_lst, lenT_dk, truT_lst, truT_tup, truT_bl, truT_int, truT_non, blT_bl, asL_lst, asK_dk, valT_lst, valT_nsT, lenT_nsT, valT_tup, tupT_lst, tupT_tup, listT_lst, listT_tup, intcT_int, intT_int, addT_int, ordT_int, cmpT_int, cmpT_bl, cmpT_str, isT_non, isT_bl, isNonT_non, isNonT_int, isNonT_tup, isNonT_bl, negT_int, intO_int, sumT_ints, sortedT_ints, Option.map_some, Option.map_none, Option.bind_some, List.length_map, List.length_range, Bool.not_not, Bool.true_xor, Bool.false_xor, Bool.xor_false, Bool.xor_true, if_true, if_false, Bool.false_eq_true, reduceIte, Bool.not_true, Bool.not_false]
  refine wp_bnd (wp_pickI (l := [2, 1, 3, n]) (by simp) (by simp) fun v s1 hv => ?_)
  have hv : v ≤ 1000000 := by simp at hv; omega
  simp only [bnd_mret, bnd_assoc', ofO_some', noex_mret, noex_bnd, runF_nx, runF_rt, runF_bnd, runF_ite, runF_bndX, bnd_ite, bndX_nx, bndX_rt, bndX_bnd, bndX_ite, bndN_nx, un2_tup, un3_tup, un4_tup, gIt_t, gIt_f, gIt_b, dnat, ixB_dk, ixB_dz, keyT_int, keyT_str, lenT_tup, lenT_lst, lenT_dk, truT_lst, truT_tup, truT_bl, truT_int, truT_non, blT_bl, asL_lst, asK_dk, valT_lst, valT_nsT, lenT_nsT, valT_tup, tupT_lst, tupT_tup, listT_lst, listT_tup, intcT_int, intT_int, addT_int, ordT_int, cmpT_int, cmpT_bl, cmpT_str, isT_non, isT_bl, isNonT_non, isNonT_int, isNonT_tup, isNonT_bl, negT_int, intO_int, sumT_ints, sortedT_ints, Option.map_some, Option.map_none, Option.bind_some, List.length_map, List.length_range, Bool.not_not, Bool.true_xor, Bool.false_xor, Bool.xor_false, Bool.xor_true, if_true, if_false, Bool.false_eq_true, reduceIte, Bool.not_true, Bool.not_false, rng1_ok (show n < 2 ^ 62 by omega)]
  refine wp_bnd (wp_lc (I := fun pre acc _ => ∃ l : List Nat, acc = l.map nT ∧ l.length = pre.length) ⟨[], rfl, rfl⟩ (fun pre i post acc s e hI => ?_) (fun acc s hI => ?_))
  · obtain ⟨l, rfl, hl⟩ := hI
    have : pre.length < n := by have := congrArg List.length e; simp at this; omega
    simp only [bnd_mret, bnd_assoc', ofO_some', noex_mret, noex_bnd, runF_nx, runF_rt, runF_bnd, runF_ite, runF_bndX, bnd_ite, bndX_nx, bndX_rt, bndX_bnd, bndX_ite, bndN_nx, un2_tup, un3_tup, un4_tup, gIt_t, gIt_f, gIt_b, dnat, ixB_dk, ixB_dz, keyT_int, keyT_str, lenT_tup, lenT_lst, lenT_dk, truT_lst, truT_tup, truT_bl, truT_int, truT_non, blT_bl, asL_lst, asK_dk, valT_lst, valT_nsT, lenT_nsT, valT_tup, tupT_lst, tupT_tup, listT_lst, listT_tup, intcT_int, intT_int, addT_int, ordT_int, cmpT_int, cmpT_bl, cmpT_str, isT_non, isT_bl, isNonT_non, isNonT_int, isNonT_tup, isNonT_bl, negT_int, intO_int, sumT_ints, sortedT_ints, Option.map_some, Option.map_none, Option.bind_some, List.length_map, List.length_range, Bool.not_not, Bool.true_xor, Bool.false_xor, Bool.xor_false, Bool.xor_true, if_true, if_false, Bool.false_eq_true, reduceIte, Bool.not_true, Bool.not_false, nT]
    refine wp_bnd (wp_drawN (by omega) fun w s2 hw => ?_)
    try simp only [bnd_mret, bnd_assoc', ofO_some', noex_mret, noex_bnd, runF_nx, runF_rt, runF_bnd, runF_ite, runF_bndX, bnd_ite, bndX_nx, bndX_rt, bndX_bnd, bndX_ite, bndN_nx, un2_tup, un3_tup, un4_tup, gIt_t, gIt_f, gIt_b, dnat, ixB_dk, ixB_dz, keyT_int, keyT_str, lenT_tup, lenT_lst, lenT_dk, truT_lst, truT_tup, truT_bl, truT_int, truT_non, blT_bl, asL_lst, asK_dk, valT_lst, valT_nsT, lenT_nsT, valT_tup, tupT_lst, tupT_tup, listT_lst, listT_tup, intcT_int, intT_int, addT_int, ordT_int, cmpT_int, cmpT_bl, cmpT_str, isT_non, isT_bl, isNonT_non, isNonT_int, isNonT_tup, isNonT_bl, negT_int, intO_int, sumT_ints, sortedT_ints, Option.map_some, Option.map_none, Option.bind_some, List.length_map, List.length_range, Bool.not_not, Bool.true_xor, Bool.false_xor, Bool.xor_false, Bool.xor_true, if_true, if_false, Bool.false_eq_true, reduceIte, Bool.not_true, Bool.not_false]
    exact wp_ret ⟨by first | omega | (simp; omega), l ++ [w], by simp [nT], by simp [hl]⟩
  · obtain ⟨l, rfl, hl⟩ := hI
    simp at hl
    simp only [bnd_mret, bnd_assoc', ofO_some', noex_mret, noex_bnd, runF_nx, runF_rt, runF_bnd, runF_ite, runF_bndX, bnd_ite, bndX_nx, bndX_rt, bndX_bnd, bndX_ite, bndN_nx, un2_tup, un3_tup, un4_tup, gIt_t, gIt_f, gIt_b, dnat, ixB_dk, ixB_dz, keyT_int, keyT_str, lenT_tup, lenT_lst, lenT_dk, truT_lst, truT_tup, truT_bl, truT_int, truT_non, blT_bl, asL_lst, asK_dk, valT_lst, valT_nsT, lenT_nsT, valT_tup, tupT_lst, tupT_tup, listT_lst, listT_tup, intcT_int, intT_int, addT_int, ordT_int, cmpT_int, cmpT_bl, cmpT_str, isT_non, isT_bl, isNonT_non, isNonT_int, isNonT_tup, isNonT_bl, negT_int, intO_int, sumT_ints, sortedT_ints, Option.map_some, Option.map_none, Option.bind_some, List.length_map, List.length_range, Bool.not_not, Bool.true_xor, Bool.false_xor, Bool.xor_false, Bool.xor_true, if_true, if_false, Bool.false_eq_true, reduceIte, Bool.not_true, Bool.not_false, numbered_eq l (by omega)]
    exact wp_ret (h l s hl)
theorem range_split {n y : Nat} {pre post : List Nat} (e : List.range n = pre ++ y :: post) : y = pre.length ∧ pre.length < n := by
  have hl : pre.length < n := by have := congrArg List.length e; simp at this; omega
  have := congrArg (fun l => l[pre.length]?) e
  simp [List.getElem?_range hl] at this
  exact ⟨this.symm, hl⟩
theorem ixB_mapL0 {α : Type} {f : α → T} {xs : List α} (d : α) (h : 0 < xs.length) : ixB (.lst (xs.map f)) (.int 0) = some (f (xs.getD 0 d)) := ixB_mapL d h
theorem ixB_map0 {α : Type} {f : α → T} {xs : List α} (d : α) (h : 0 < xs.length) : ixB (.tup (xs.map f)) (.int 0) = some (f (xs.getD 0 d)) := ixB_map d h
theorem wp_drawI {many : Int} {n : Nat} {s : Drw} {Q : T → Drw → Prop} (he : many = n) (hm : n < 2 ^ 60) (h : ∀ (v : Nat) s', v < max n 1 → Q (.int (v : Int)) s') : wp (m__law_draw [.tok, .int many]) s Q := by
  subst he; exact wp_drawN hm h
theorem wp_opens {L : List (List Nat)} {c : Nat} {m : List Nat} {s : Drw} {Q : T → Drw → Prop} (h0 : 0 < L.length) (hn : L.length ≤ 64) (hc : ∀ f ∈ L, f.length = c) (hc64 : c ≤ 64) (hm : m.length = L.length) (hmb : ∀ v ∈ m, v ≤ 64)
    (h : ∀ (o : List (List Nat)) s', (∀ v ∈ m, v < o.length) → (∀ t ∈ o, t.Pairwise (· < ·) ∧ ∀ x ∈ t, x < c) → Q (.tup (o.map nsT)) s') : wp (m__law_opens [.tok, .tup (L.map nsT), nsT m]) s Q := by
  have hmx : 0 ≤ maxL (ii m) ∧ maxL (ii m) ≤ 64 ∧ ∀ v ∈ m, (v : Int) ≤ maxL (ii m) := by
    have h1 : maxL (ii m) ∈ ii m := maxL_in (by simp [ii]; omega)
    refine ⟨ii_nn h1, ?_, fun v hv => maxL_le (List.mem_map.mpr ⟨v, hv, rfl⟩)⟩
    obtain ⟨v, hv, e⟩ := List.mem_map.mp h1
    have := hmb v hv
    omega
  have hmax : mxT maxL (fun i j => if j > i then j else i) [nsT m] = some (.int (maxL (ii m))) := by
    unfold nsT mxT
    simp only
    rw [nT_map, intsT_map, Option.bind_some, if_pos (by simp [ii]; omega)]
  unfold m__law_opens
  simp only [bnd_mret, bnd_assoc', ofO_some', noex_mret, noex_bnd, runF_nx, runF_rt, runF_bnd, runF_ite, runF_bndX, bnd_ite, bndX_nx, bndX_rt, bndX_bnd, bndX_ite, bndN_nx, un2_tup, un3_tup, un4_tup, gIt_t, gIt_f, gIt_b, dnat, ixB_dk, ixB_dz, keyT_int, keyT_str, lenT_tup, lenT_lst, lenT_dk, truT_lst, truT_tup, truT_bl, truT_int, truT_non, blT_bl, asL_lst, asK_dk, valT_lst, valT_nsT, lenT_nsT, valT_tup, tupT_lst, tupT_tup, listT_lst, listT_tup, intcT_int, intT_int, addT_int, ordT_int, cmpT_int, cmpT_bl, cmpT_str, isT_non, isT_bl, isNonT_non, isNonT_int, isNonT_tup, isNonT_bl, negT_int, intO_int, sumT_ints, sortedT_ints, Option.map_some, Option.map_none, Option.bind_some, List.length_map, List.length_range, Bool.not_not, Bool.true_xor, Bool.false_xor, Bool.xor_false, Bool.xor_true, if_true, if_false, Bool.false_eq_true, reduceIte, Bool.not_true, Bool.not_false, hmax, rng1_i (show 1 + maxL (ii m) < 2 ^ 62 by omega) (by omega), rng1_ok (show m.length < 2 ^ 62 by omega)]
  refine wp_bnd (wp_for (I := fun pre x _ => ∃ o : List (List Nat), x = .lst (o.map nsT) ∧ o.length = pre.length ∧ ∀ t ∈ o, t.Pairwise (· < ·) ∧ ∀ x ∈ t, x < c) ⟨[], rfl, rfl, by simp⟩ (fun pre mark post x s e hI => ?_) (fun x s hI => ?_))
  · obtain ⟨o, rfl, hol, ho⟩ := hI
    have hmk := range_split e
    rw [lcM_flt (p := fun k => m.getD k 0 == mark) (h := fun k => nsT (L.getD k [])) (fun k hk => by
      have hk : k < m.length := by simpa using hk
      simp only [bnd_mret, bnd_assoc', ofO_some', noex_mret, noex_bnd, runF_nx, runF_rt, runF_bnd, runF_ite, runF_bndX, bnd_ite, bndX_nx, bndX_rt, bndX_bnd, bndX_ite, bndN_nx, un2_tup, un3_tup, un4_tup, gIt_t, gIt_f, gIt_b, dnat, ixB_dk, ixB_dz, keyT_int, keyT_str, lenT_tup, lenT_lst, lenT_dk, truT_lst, truT_tup, truT_bl, truT_int, truT_non, blT_bl, asL_lst, asK_dk, valT_lst, valT_nsT, lenT_nsT, valT_tup, tupT_lst, tupT_tup, listT_lst, listT_tup, intcT_int, intT_int, addT_int, ordT_int, cmpT_int, cmpT_bl, cmpT_str, isT_non, isT_bl, isNonT_non, isNonT_int, isNonT_tup, isNonT_bl, negT_int, intO_int, sumT_ints, sortedT_ints, Option.map_some, Option.map_none, Option.bind_some, List.length_map, List.length_range, Bool.not_not, Bool.true_xor, Bool.false_xor, Bool.xor_false, Bool.xor_true, if_true, if_false, Bool.false_eq_true, reduceIte, Bool.not_true, Bool.not_false, ixB_ns hk, nT, ixB_map [] (show k < L.length by omega)]) (by simp; omega)]
    simp only [bnd_mret, bnd_assoc', ofO_some', noex_mret, noex_bnd, runF_nx, runF_rt, runF_bnd, runF_ite, runF_bndX, bnd_ite, bndX_nx, bndX_rt, bndX_bnd, bndX_ite, bndN_nx, un2_tup, un3_tup, un4_tup, gIt_t, gIt_f, gIt_b, dnat, ixB_dk, ixB_dz, keyT_int, keyT_str, lenT_tup, lenT_lst, lenT_dk, truT_lst, truT_tup, truT_bl, truT_int, truT_non, blT_bl, asL_lst, asK_dk, valT_lst, valT_nsT, lenT_nsT, valT_tup, tupT_lst, tupT_tup, listT_lst, listT_tup, intcT_int, intT_int, addT_int, ordT_int, cmpT_int, cmpT_bl, cmpT_str, isT_non, isT_bl, isNonT_non, isNonT_int, isNonT_tup, isNonT_bl, negT_int, intO_int, sumT_ints, sortedT_ints, Option.map_some, Option.map_none, Option.bind_some, List.length_map, List.length_range, Bool.not_not, Bool.true_xor, Bool.false_xor, Bool.xor_false, Bool.xor_true, if_true, if_false, Bool.false_eq_true, reduceIte, Bool.not_true, Bool.not_false, ixB_map0 [] h0, hc _ (getD_mem [] h0), rng1_ok (show c < 2 ^ 62 by omega)]
    have hXk : ∀ k ∈ (List.range m.length).filter (fun k => m.getD k 0 == mark), k < L.length := fun k hk => by
      have := List.mem_range.mp (List.mem_filter.mp hk).1; omega
    have hXl : ((List.range m.length).filter (fun k => m.getD k 0 == mark)).length ≤ 64 := by
      have := List.length_filter_le (fun k => m.getD k 0 == mark) (List.range m.length); rw [List.length_range] at this; omega
    generalize (List.range m.length).filter (fun k => m.getD k 0 == mark) = X at hXk hXl
    refine wp_bnd (wp_for (I := fun pre x _ => ∃ t : List Nat, x = .lst (t.map nT) ∧ t.Pairwise (· < ·) ∧ ∀ x ∈ t, x < pre.length) ⟨[], rfl, .nil, by simp⟩ (fun pre2 sc post2 x s e2 hI => ?_) (fun x s hI => ?_))
    · obtain ⟨t, rfl, hpw, hlt⟩ := hI
      obtain ⟨hsc, hsl⟩ := range_split e2
      have hsl' : sc < c := by omega
      have htl : t.length ≤ 64 := by have := nodup_le (hpw.imp fun {a b} h => Nat.ne_of_lt h) hlt; omega
      simp only [bnd_mret, bnd_assoc', ofO_some', noex_mret, noex_bnd, runF_nx, runF_rt, runF_bnd, runF_ite, runF_bndX, bnd_ite, bndX_nx, bndX_rt, bndX_bnd, bndX_ite, bndN_nx, un2_tup, un3_tup, un4_tup, gIt_t, gIt_f, gIt_b, dnat, ixB_dk, ixB_dz, keyT_int, keyT_str, lenT_tup, lenT_lst, lenT_dk, truT_lst, truT_tup, truT_bl, truT_int, truT_non, blT_bl, asL_lst, asK_dk, valT_lst, valT_nsT, lenT_nsT, valT_tup, tupT_lst, tupT_tup, listT_lst, listT_tup, intcT_int, intT_int, addT_int, ordT_int, cmpT_int, cmpT_bl, cmpT_str, isT_non, isT_bl, isNonT_non, isNonT_int, isNonT_tup, isNonT_bl, negT_int, intO_int, sumT_ints, sortedT_ints, Option.map_some, Option.map_none, Option.bind_some, List.length_map, List.length_range, Bool.not_not, Bool.true_xor, Bool.false_xor, Bool.xor_false, Bool.xor_true, if_true, if_false, Bool.false_eq_true, reduceIte, Bool.not_true, Bool.not_false]
      rw [lcM_flt (p := fun k => !((L.getD k []).getD sc 0 == (L.getD (X.getD 0 0) []).getD sc 0)) (h := fun k => nsT (L.getD k [])) (fun k hk => by
        have h1 := hXk k hk
        have hX0 : 0 < X.length := List.length_pos_of_mem hk
        have h2 := hXk _ (getD_mem 0 hX0)
        simp only [bnd_mret, bnd_assoc', ofO_some', noex_mret, noex_bnd, runF_nx, runF_rt, runF_bnd, runF_ite, runF_bndX, bnd_ite, bndX_nx, bndX_rt, bndX_bnd, bndX_ite, bndN_nx, un2_tup, un3_tup, un4_tup, gIt_t, gIt_f, gIt_b, dnat, ixB_dk, ixB_dz, keyT_int, keyT_str, lenT_tup, lenT_lst, lenT_dk, truT_lst, truT_tup, truT_bl, truT_int, truT_non, blT_bl, asL_lst, asK_dk, valT_lst, valT_nsT, lenT_nsT, valT_tup, tupT_lst, tupT_tup, listT_lst, listT_tup, intcT_int, intT_int, addT_int, ordT_int, cmpT_int, cmpT_bl, cmpT_str, isT_non, isT_bl, isNonT_non, isNonT_int, isNonT_tup, isNonT_bl, negT_int, intO_int, sumT_ints, sortedT_ints, Option.map_some, Option.map_none, Option.bind_some, List.length_map, List.length_range, Bool.not_not, Bool.true_xor, Bool.false_xor, Bool.xor_false, Bool.xor_true, if_true, if_false, Bool.false_eq_true, reduceIte, Bool.not_true, Bool.not_false, ixB_mapL0 0 hX0, ixB_ns (show sc < (L.getD k []).length by rw [hc _ (getD_mem [] h1)]; exact hsl'), ixB_ns (show sc < (L.getD (X.getD 0 0) []).length by rw [hc _ (getD_mem [] h2)]; exact hsl'), nT]) (by omega)]
      simp only [bnd_mret, bnd_assoc', ofO_some', noex_mret, noex_bnd, runF_nx, runF_rt, runF_bnd, runF_ite, runF_bndX, bnd_ite, bndX_nx, bndX_rt, bndX_bnd, bndX_ite, bndN_nx, un2_tup, un3_tup, un4_tup, gIt_t, gIt_f, gIt_b, dnat, ixB_dk, ixB_dz, keyT_int, keyT_str, lenT_tup, lenT_lst, lenT_dk, truT_lst, truT_tup, truT_bl, truT_int, truT_non, blT_bl, asL_lst, asK_dk, valT_lst, valT_nsT, lenT_nsT, valT_tup, tupT_lst, tupT_tup, listT_lst, listT_tup, intcT_int, intT_int, addT_int, ordT_int, cmpT_int, cmpT_bl, cmpT_str, isT_non, isT_bl, isNonT_non, isNonT_int, isNonT_tup, isNonT_bl, negT_int, intO_int, sumT_ints, sortedT_ints, Option.map_some, Option.map_none, Option.bind_some, List.length_map, List.length_range, Bool.not_not, Bool.true_xor, Bool.false_xor, Bool.xor_false, Bool.xor_true, if_true, if_false, Bool.false_eq_true, reduceIte, Bool.not_true, Bool.not_false]
      have hsnoc : ∃ t' : List Nat, T.lst (t.map nT ++ [nT sc]) = .lst (t'.map nT) ∧ t'.Pairwise (· < ·) ∧ ∀ x ∈ t', x < (pre2 ++ [sc]).length := by
        refine ⟨t ++ [sc], by simp, ?_, fun x hx => ?_⟩
        · rw [List.pairwise_append]
          exact ⟨hpw, by simp, fun a ha b hb => by rw [List.mem_singleton] at hb; subst hb; have := hlt a ha; omega⟩
        · rcases List.mem_append.mp hx with hx | hx
          · have := hlt x hx; simp; omega
          · rw [List.mem_singleton] at hx; subst hx; simp; omega
      have hkeep : ∃ t' : List Nat, T.lst (t.map nT) = .lst (t'.map nT) ∧ t'.Pairwise (· < ·) ∧ ∀ x ∈ t', x < (pre2 ++ [sc]).length := ⟨t, rfl, hpw, fun x hx => by have := hlt x hx; simp; omega⟩
      have hap := appT_ok (ts := t.map nT) (y := .int (sc : Int)) (by simp; omega)
      generalize decide (_ = (0 : Int)) = b
      cases b with
      | false => simp only [bnd_mret, bnd_assoc', ofO_some', noex_mret, noex_bnd, runF_nx, runF_rt, runF_bnd, runF_ite, runF_bndX, bnd_ite, bndX_nx, bndX_rt, bndX_bnd, bndX_ite, bndN_nx, un2_tup, un3_tup, un4_tup, gIt_t, gIt_f, gIt_b, dnat, ixB_dk, ixB_dz, keyT_int, keyT_str, lenT_tup, lenT_lst, lenT_dk, truT_lst, truT_tup, truT_bl, truT_int, truT_non, blT_bl, asL_lst, asK_dk, valT_lst, valT_nsT, lenT_nsT, valT_tup, tupT_lst, tupT_tup, listT_lst, listT_tup, intcT_int, intT_int, addT_int, ordT_int, cmpT_int, cmpT_bl, cmpT_str, isT_non, isT_bl, isNonT_non, isNonT_int, isNonT_tup, isNonT_bl, negT_int, intO_int, sumT_ints, sortedT_ints, Option.map_some, Option.map_none, Option.bind_some, List.length_map, List.length_range, Bool.not_not, Bool.true_xor, Bool.false_xor, Bool.xor_false, Bool.xor_true, if_true, if_false, Bool.false_eq_true, reduceIte, Bool.not_true, Bool.not_false]; exact wp_ret hkeep
      | true =>
        simp only [bnd_mret, bnd_assoc', ofO_some', noex_mret, noex_bnd, runF_nx, runF_rt, runF_bnd, runF_ite, runF_bndX, bnd_ite, bndX_nx, bndX_rt, bndX_bnd, bndX_ite, bndN_nx, un2_tup, un3_tup, un4_tup, gIt_t, gIt_f, gIt_b, dnat, ixB_dk, ixB_dz, keyT_int, keyT_str, lenT_tup, lenT_lst, lenT_dk, truT_lst, truT_tup, truT_bl, truT_int, truT_non, blT_bl, asL_lst, asK_dk, valT_lst, valT_nsT, lenT_nsT, valT_tup, tupT_lst, tupT_tup, listT_lst, listT_tup, intcT_int, intT_int, addT_int, ordT_int, cmpT_int, cmpT_bl, cmpT_str, isT_non, isT_bl, isNonT_non, isNonT_int, isNonT_tup, isNonT_bl, negT_int, intO_int, sumT_ints, sortedT_ints, Option.map_some, Option.map_none, Option.bind_some, List.length_map, List.length_range, Bool.not_not, Bool.true_xor, Bool.false_xor, Bool.xor_false, Bool.xor_true, if_true, if_false, Bool.false_eq_true, reduceIte, Bool.not_true, Bool.not_false]
        refine wp_bnd (wp_drawI (n := 3) rfl (by omega) fun v s2 hv => ?_)
        simp only [bnd_mret, bnd_assoc', ofO_some', noex_mret, noex_bnd, runF_nx, runF_rt, runF_bnd, runF_ite, runF_bndX, bnd_ite, bndX_nx, bndX_rt, bndX_bnd, bndX_ite, bndN_nx, un2_tup, un3_tup, un4_tup, gIt_t, gIt_f, gIt_b, dnat, ixB_dk, ixB_dz, keyT_int, keyT_str, lenT_tup, lenT_lst, lenT_dk, truT_lst, truT_tup, truT_bl, truT_int, truT_non, blT_bl, asL_lst, asK_dk, valT_lst, valT_nsT, lenT_nsT, valT_tup, tupT_lst, tupT_tup, listT_lst, listT_tup, intcT_int, intT_int, addT_int, ordT_int, cmpT_int, cmpT_bl, cmpT_str, isT_non, isT_bl, isNonT_non, isNonT_int, isNonT_tup, isNonT_bl, negT_int, intO_int, sumT_ints, sortedT_ints, Option.map_some, Option.map_none, Option.bind_some, List.length_map, List.length_range, Bool.not_not, Bool.true_xor, Bool.false_xor, Bool.xor_false, Bool.xor_true, if_true, if_false, Bool.false_eq_true, reduceIte, Bool.not_true, Bool.not_false]
        generalize decide ((v : Int) = 1) = b
        cases b with
        | false => simp only [bnd_mret, bnd_assoc', ofO_some', noex_mret, noex_bnd, runF_nx, runF_rt, runF_bnd, runF_ite, runF_bndX, bnd_ite, bndX_nx, bndX_rt, bndX_bnd, bndX_ite, bndN_nx, un2_tup, un3_tup, un4_tup, gIt_t, gIt_f, gIt_b, dnat, ixB_dk, ixB_dz, keyT_int, keyT_str, lenT_tup, lenT_lst, lenT_dk, truT_lst, truT_tup, truT_bl, truT_int, truT_non, blT_bl, asL_lst, asK_dk, valT_lst, valT_nsT, lenT_nsT, valT_tup, tupT_lst, tupT_tup, listT_lst, listT_tup, intcT_int, intT_int, addT_int, ordT_int, cmpT_int, cmpT_bl, cmpT_str, isT_non, isT_bl, isNonT_non, isNonT_int, isNonT_tup, isNonT_bl, negT_int, intO_int, sumT_ints, sortedT_ints, Option.map_some, Option.map_none, Option.bind_some, List.length_map, List.length_range, Bool.not_not, Bool.true_xor, Bool.false_xor, Bool.xor_false, Bool.xor_true, if_true, if_false, Bool.false_eq_true, reduceIte, Bool.not_true, Bool.not_false]; exact wp_ret hkeep
        | true => simp only [bnd_mret, bnd_assoc', ofO_some', noex_mret, noex_bnd, runF_nx, runF_rt, runF_bnd, runF_ite, runF_bndX, bnd_ite, bndX_nx, bndX_rt, bndX_bnd, bndX_ite, bndN_nx, un2_tup, un3_tup, un4_tup, gIt_t, gIt_f, gIt_b, dnat, ixB_dk, ixB_dz, keyT_int, keyT_str, lenT_tup, lenT_lst, lenT_dk, truT_lst, truT_tup, truT_bl, truT_int, truT_non, blT_bl, asL_lst, asK_dk, valT_lst, valT_nsT, lenT_nsT, valT_tup, tupT_lst, tupT_tup, listT_lst, listT_tup, intcT_int, intT_int, addT_int, ordT_int, cmpT_int, cmpT_bl, cmpT_str, isT_non, isT_bl, isNonT_non, isNonT_int, isNonT_tup, isNonT_bl, negT_int, intO_int, sumT_ints, sortedT_ints, Option.map_some, Option.map_none, Option.bind_some, List.length_map, List.length_range, Bool.not_not, Bool.true_xor, Bool.false_xor, Bool.xor_false, Bool.xor_true, if_true, if_false, Bool.false_eq_true, reduceIte, Bool.not_true, Bool.not_false, hap]; exact wp_ret hsnoc
    · obtain ⟨t, rfl, hpw, hlt⟩ := hI
      have : (List.map (fun _ => ()) (List.range (1 + maxL (ii m)).toNat)).length ≤ 65 := by simp; omega
      have hap := fun y => appT_ok (ts := o.map nsT) (y := y) (by simp; omega)
      simp only [bnd_mret, bnd_assoc', ofO_some', noex_mret, noex_bnd, runF_nx, runF_rt, runF_bnd, runF_ite, runF_bndX, bnd_ite, bndX_nx, bndX_rt, bndX_bnd, bndX_ite, bndN_nx, un2_tup, un3_tup, un4_tup, gIt_t, gIt_f, gIt_b, dnat, ixB_dk, ixB_dz, keyT_int, keyT_str, lenT_tup, lenT_lst, lenT_dk, truT_lst, truT_tup, truT_bl, truT_int, truT_non, blT_bl, asL_lst, asK_dk, valT_lst, valT_nsT, lenT_nsT, valT_tup, tupT_lst, tupT_tup, listT_lst, listT_tup, intcT_int, intT_int, addT_int, ordT_int, cmpT_int, cmpT_bl, cmpT_str, isT_non, isT_bl, isNonT_non, isNonT_int, isNonT_tup, isNonT_bl, negT_int, intO_int, sumT_ints, sortedT_ints, Option.map_some, Option.map_none, Option.bind_some, List.length_map, List.length_range, Bool.not_not, Bool.true_xor, Bool.false_xor, Bool.xor_false, Bool.xor_true, if_true, if_false, Bool.false_eq_true, reduceIte, Bool.not_true, Bool.not_false, hap]
      refine wp_ret ⟨o ++ [t], by simp [nsT], by simp [hol], fun u hu => ?_⟩
      rcases List.mem_append.mp hu with hu | hu
      · exact ho u hu
      · rw [List.mem_singleton] at hu; subst hu
        exact ⟨hpw, fun x hx => by simpa using hlt x hx⟩
  · obtain ⟨o, rfl, hol, ho⟩ := hI
    simp only [bnd_mret, bnd_assoc', ofO_some', noex_mret, noex_bnd, runF_nx, runF_rt, runF_bnd, runF_ite, runF_bndX, bnd_ite, bndX_nx, bndX_rt, bndX_bnd, bndX_ite, bndN_nx, un2_tup, un3_tup, un4_tup, gIt_t, gIt_f, gIt_b, dnat, ixB_dk, ixB_dz, keyT_int, keyT_str, lenT_tup, lenT_lst, lenT_dk, truT_lst, truT_tup, truT_bl, truT_int, truT_non, blT_bl, asL_lst, asK_dk, valT_lst, valT_nsT, lenT_nsT, valT_tup, tupT_lst, tupT_tup, listT_lst, listT_tup, intcT_int, intT_int, addT_int, ordT_int, cmpT_int, cmpT_bl, cmpT_str, isT_non, isT_bl, isNonT_non, isNonT_int, isNonT_tup, isNonT_bl, negT_int, intO_int, sumT_ints, sortedT_ints, Option.map_some, Option.map_none, Option.bind_some, List.length_map, List.length_range, Bool.not_not, Bool.true_xor, Bool.false_xor, Bool.xor_false, Bool.xor_true, if_true, if_false, Bool.false_eq_true, reduceIte, Bool.not_true, Bool.not_false]
    refine wp_ret (h o s (fun v hv => ?_) ho)
    have := hmx.2.2 v hv
    simp at hol
    omega

theorem wp_fill_set {turns : Nat} {s : Drw} {Q : T → Drw → Prop} (h0 : 0 < turns) (ht : turns ≤ 60)
    (h : ∀ (sizes : List Nat) (fs : List (List Nat)) s', 0 < sizes.length → sizes.length ≤ 6 → (∀ z ∈ sizes, 0 < z ∧ z ≤ 4) → 0 < fs.length → fs.length ≤ turns → (∀ f ∈ fs, f.length = sizes.length ∧ ∀ s, s < sizes.length → f.getD s 0 < sizes.getD s 0) →
      fs.Pairwise (fun x y => lxN x y = true) → Q (.tup [.lst (sizes.map nT), .tup (fs.map nsT)]) s') : wp (m__law_fill_set [.tok, .int (turns : Int)]) s Q := by
  unfold m__law_fill_set
  try simp only [bnd_mret, bnd_assoc', ofO_some', noex_mret, noex_bnd, runF_nx, runF_rt, runF_bnd, runF_ite, runF_bndX, bnd_ite, bndX_nx, bndX_rt, bndX_bnd, bndX_ite, bndN_nx, un2_tup, un3_tup, un4_tup, gIt_t, gIt_f, gIt_b, dnat, ixB_dk, ixB_dz, keyT_int, keyT_str, lenT_tup, lenT_lst, lenT_dk, truT_lst, truT_tup, truT_bl, truT_int, truT_non, blT_bl, asL_lst, asK_dk, valT_lst, valT_nsT, lenT_nsT, valT_tup, tupT_lst, tupT_tup, listT_lst, listT_tup, intcT_int, intT_int, addT_int, ordT_int, cmpT_int, cmpT_bl, cmpT_str, isT_non, isT_bl, isNonT_non, isNonT_int, isNonT_tup, isNonT_bl, negT_int, intO_int, sumT_ints, sortedT_ints, Option.map_some, Option.map_none, Option.bind_some, List.length_map, List.length_range, Bool.not_not, Bool.true_xor, Bool.false_xor, Bool.xor_false, Bool.xor_true, if_true, if_false, Bool.false_eq_true, reduceIte, Bool.not_true, Bool.not_false]
  refine wp_bnd (wp_pickI (l := [2, 1, 3, 2, 6]) (by simp) (by simp) fun p s1 hp => ?_)
  have hp : 0 < p ∧ p ≤ 6 := by simp at hp; omega
  simp only [bnd_mret, bnd_assoc', ofO_some', noex_mret, noex_bnd, runF_nx, runF_rt, runF_bnd, runF_ite, runF_bndX, bnd_ite, bndX_nx, bndX_rt, bndX_bnd, bndX_ite, bndN_nx, un2_tup, un3_tup, un4_tup, gIt_t, gIt_f, gIt_b, dnat, ixB_dk, ixB_dz, keyT_int, keyT_str, lenT_tup, lenT_lst, lenT_dk, truT_lst, truT_tup, truT_bl, truT_int, truT_non, blT_bl, asL_lst, asK_dk, valT_lst, valT_nsT, lenT_nsT, valT_tup, tupT_lst, tupT_tup, listT_lst, listT_tup, intcT_int, intT_int, addT_int, ordT_int, cmpT_int, cmpT_bl, cmpT_str, isT_non, isT_bl, isNonT_non, isNonT_int, isNonT_tup, isNonT_bl, negT_int, intO_int, sumT_ints, sortedT_ints, Option.map_some, Option.map_none, Option.bind_some, List.length_map, List.length_range, Bool.not_not, Bool.true_xor, Bool.false_xor, Bool.xor_false, Bool.xor_true, if_true, if_false, Bool.false_eq_true, reduceIte, Bool.not_true, Bool.not_false, rng1_ok (show p < 2 ^ 62 by omega)]
  refine wp_bnd (wp_lc (I := fun pre acc _ => ∃ l : List Nat, acc = l.map nT ∧ l.length = pre.length ∧ ∀ z ∈ l, 0 < z ∧ z ≤ 4) ⟨[], rfl, rfl, by simp⟩ (fun pre i post acc s e hI => ?_) (fun acc s2 hI => ?_))
  · obtain ⟨l, rfl, hl, hz⟩ := hI
    have := (range_split e).2
    try simp only [bnd_mret, bnd_assoc', ofO_some', noex_mret, noex_bnd, runF_nx, runF_rt, runF_bnd, runF_ite, runF_bndX, bnd_ite, bndX_nx, bndX_rt, bndX_bnd, bndX_ite, bndN_nx, un2_tup, un3_tup, un4_tup, gIt_t, gIt_f, gIt_b, dnat, ixB_dk, ixB_dz, keyT_int, keyT_str, lenT_tup, lenT_lst, lenT_dk, truT_lst, truT_tup, truT_bl, truT_int, truT_non, blT_bl, asL_lst, asK_dk, valT_lst, valT_nsT, lenT_nsT, valT_tup, tupT_lst, tupT_tup, listT_lst, listT_tup, intcT_int, intT_int, addT_int, ordT_int, cmpT_int, cmpT_bl, cmpT_str, isT_non, isT_bl, isNonT_non, isNonT_int, isNonT_tup, isNonT_bl, negT_int, intO_int, sumT_ints, sortedT_ints, Option.map_some, Option.map_none, Option.bind_some, List.length_map, List.length_range, Bool.not_not, Bool.true_xor, Bool.false_xor, Bool.xor_false, Bool.xor_true, if_true, if_false, Bool.false_eq_true, reduceIte, Bool.not_true, Bool.not_false]
    refine wp_bnd (wp_pickI (l := [2, 3, 1, 4]) (by simp) (by simp) fun v s2 hv => ?_)
    try simp only [bnd_mret, bnd_assoc', ofO_some', noex_mret, noex_bnd, runF_nx, runF_rt, runF_bnd, runF_ite, runF_bndX, bnd_ite, bndX_nx, bndX_rt, bndX_bnd, bndX_ite, bndN_nx, un2_tup, un3_tup, un4_tup, gIt_t, gIt_f, gIt_b, dnat, ixB_dk, ixB_dz, keyT_int, keyT_str, lenT_tup, lenT_lst, lenT_dk, truT_lst, truT_tup, truT_bl, truT_int, truT_non, blT_bl, asL_lst, asK_dk, valT_lst, valT_nsT, lenT_nsT, valT_tup, tupT_lst, tupT_tup, listT_lst, listT_tup, intcT_int, intT_int, addT_int, ordT_int, cmpT_int, cmpT_bl, cmpT_str, isT_non, isT_bl, isNonT_non, isNonT_int, isNonT_tup, isNonT_bl, negT_int, intO_int, sumT_ints, sortedT_ints, Option.map_some, Option.map_none, Option.bind_some, List.length_map, List.length_range, Bool.not_not, Bool.true_xor, Bool.false_xor, Bool.xor_false, Bool.xor_true, if_true, if_false, Bool.false_eq_true, reduceIte, Bool.not_true, Bool.not_false]
    refine wp_ret ⟨by first | omega | (simp; omega), l ++ [v], by simp [nT], by simp [hl], fun z hz' => ?_⟩
    rcases List.mem_append.mp hz' with q | q
    · exact hz z q
    · rw [List.mem_singleton] at q; subst q; simp at hv; omega
  · obtain ⟨sizes, rfl, hl, hz⟩ := hI
    simp at hl
    simp only [bnd_mret, bnd_assoc', ofO_some', noex_mret, noex_bnd, runF_nx, runF_rt, runF_bnd, runF_ite, runF_bndX, bnd_ite, bndX_nx, bndX_rt, bndX_bnd, bndX_ite, bndN_nx, un2_tup, un3_tup, un4_tup, gIt_t, gIt_f, gIt_b, dnat, ixB_dk, ixB_dz, keyT_int, keyT_str, lenT_tup, lenT_lst, lenT_dk, truT_lst, truT_tup, truT_bl, truT_int, truT_non, blT_bl, asL_lst, asK_dk, valT_lst, valT_nsT, lenT_nsT, valT_tup, tupT_lst, tupT_tup, listT_lst, listT_tup, intcT_int, intT_int, addT_int, ordT_int, cmpT_int, cmpT_bl, cmpT_str, isT_non, isT_bl, isNonT_non, isNonT_int, isNonT_tup, isNonT_bl, negT_int, intO_int, sumT_ints, sortedT_ints, Option.map_some, Option.map_none, Option.bind_some, List.length_map, List.length_range, Bool.not_not, Bool.true_xor, Bool.false_xor, Bool.xor_false, Bool.xor_true, if_true, if_false, Bool.false_eq_true, reduceIte, Bool.not_true, Bool.not_false, rng1_ok (show turns < 2 ^ 62 by omega)]
    refine wp_bnd (wp_for (I := fun pre x _ => ∃ fs : List (List Nat), x = .lst (fs.map nsT) ∧ fs.length ≤ pre.length ∧ (0 < pre.length → 0 < fs.length) ∧ fs.Nodup ∧ ∀ f ∈ fs, f.length = sizes.length ∧ ∀ s, s < sizes.length → f.getD s 0 < sizes.getD s 0) ⟨[], rfl, by simp, by simp, .nil, by simp⟩ (fun pre tn post x s e hI => ?_) (fun x s3 hI => ?_))
    · obtain ⟨fs, rfl, h1, h2, h3, h4⟩ := hI
      have hpl := (range_split e).2
      try simp only [bnd_mret, bnd_assoc', ofO_some', noex_mret, noex_bnd, runF_nx, runF_rt, runF_bnd, runF_ite, runF_bndX, bnd_ite, bndX_nx, bndX_rt, bndX_bnd, bndX_ite, bndN_nx, un2_tup, un3_tup, un4_tup, gIt_t, gIt_f, gIt_b, dnat, ixB_dk, ixB_dz, keyT_int, keyT_str, lenT_tup, lenT_lst, lenT_dk, truT_lst, truT_tup, truT_bl, truT_int, truT_non, blT_bl, asL_lst, asK_dk, valT_lst, valT_nsT, lenT_nsT, valT_tup, tupT_lst, tupT_tup, listT_lst, listT_tup, intcT_int, intT_int, addT_int, ordT_int, cmpT_int, cmpT_bl, cmpT_str, isT_non, isT_bl, isNonT_non, isNonT_int, isNonT_tup, isNonT_bl, negT_int, intO_int, sumT_ints, sortedT_ints, Option.map_some, Option.map_none, Option.bind_some, List.length_map, List.length_range, Bool.not_not, Bool.true_xor, Bool.false_xor, Bool.xor_false, Bool.xor_true, if_true, if_false, Bool.false_eq_true, reduceIte, Bool.not_true, Bool.not_false]
      refine wp_bnd (wp_lc (I := fun pre acc _ => ∃ f : List Nat, acc = f.map nT ∧ f.length = pre.length ∧ ∀ s, s < f.length → f.getD s 0 < sizes.getD s 0) ⟨[], rfl, rfl, by simp⟩ (fun pre z post acc s e2 hI => ?_) (fun acc s4 hI => ?_))
      · obtain ⟨f, rfl, hf, hb⟩ := hI
        have hpz : pre.length < sizes.length := by rw [e2]; simp
        have hsz : sizes.getD pre.length 0 = z := by rw [List.getD_eq_getElem?_getD, e2]; simp
        have hz1 := hz z (by rw [e2]; simp)
        try simp only [bnd_mret, bnd_assoc', ofO_some', noex_mret, noex_bnd, runF_nx, runF_rt, runF_bnd, runF_ite, runF_bndX, bnd_ite, bndX_nx, bndX_rt, bndX_bnd, bndX_ite, bndN_nx, un2_tup, un3_tup, un4_tup, gIt_t, gIt_f, gIt_b, dnat, ixB_dk, ixB_dz, keyT_int, keyT_str, lenT_tup, lenT_lst, lenT_dk, truT_lst, truT_tup, truT_bl, truT_int, truT_non, blT_bl, asL_lst, asK_dk, valT_lst, valT_nsT, lenT_nsT, valT_tup, tupT_lst, tupT_tup, listT_lst, listT_tup, intcT_int, intT_int, addT_int, ordT_int, cmpT_int, cmpT_bl, cmpT_str, isT_non, isT_bl, isNonT_non, isNonT_int, isNonT_tup, isNonT_bl, negT_int, intO_int, sumT_ints, sortedT_ints, Option.map_some, Option.map_none, Option.bind_some, List.length_map, List.length_range, Bool.not_not, Bool.true_xor, Bool.false_xor, Bool.xor_false, Bool.xor_true, if_true, if_false, Bool.false_eq_true, reduceIte, Bool.not_true, Bool.not_false]
        refine wp_bnd (wp_drawN (by omega) fun v s2 hv => ?_)
        try simp only [bnd_mret, bnd_assoc', ofO_some', noex_mret, noex_bnd, runF_nx, runF_rt, runF_bnd, runF_ite, runF_bndX, bnd_ite, bndX_nx, bndX_rt, bndX_bnd, bndX_ite, bndN_nx, un2_tup, un3_tup, un4_tup, gIt_t, gIt_f, gIt_b, dnat, ixB_dk, ixB_dz, keyT_int, keyT_str, lenT_tup, lenT_lst, lenT_dk, truT_lst, truT_tup, truT_bl, truT_int, truT_non, blT_bl, asL_lst, asK_dk, valT_lst, valT_nsT, lenT_nsT, valT_tup, tupT_lst, tupT_tup, listT_lst, listT_tup, intcT_int, intT_int, addT_int, ordT_int, cmpT_int, cmpT_bl, cmpT_str, isT_non, isT_bl, isNonT_non, isNonT_int, isNonT_tup, isNonT_bl, negT_int, intO_int, sumT_ints, sortedT_ints, Option.map_some, Option.map_none, Option.bind_some, List.length_map, List.length_range, Bool.not_not, Bool.true_xor, Bool.false_xor, Bool.xor_false, Bool.xor_true, if_true, if_false, Bool.false_eq_true, reduceIte, Bool.not_true, Bool.not_false]
        refine wp_ret ⟨by first | omega | (simp; omega), f ++ [v], by simp [nT], by simp [hf], fun q hq => ?_⟩
        rw [List.getD_eq_getElem?_getD]
        simp at hq
        by_cases hqf : q < f.length
        · rw [List.getElem?_append_left hqf, ← List.getD_eq_getElem?_getD]; exact hb q hqf
        · have : q = f.length := by omega
          subst this
          rw [List.getElem?_append_right (Nat.le_refl _), hf, hsz]; simp; omega
      · obtain ⟨f, rfl, hf, hb⟩ := hI
        have hap := appT_ok (ts := fs.map nsT) (y := nsT f) (by simp; omega)
        have hg : ∀ g ∈ fs ++ [f], g.length = sizes.length ∧ ∀ s, s < sizes.length → g.getD s 0 < sizes.getD s 0 := fun g hg => by
          rcases List.mem_append.mp hg with q | q
          · exact h4 g q
          · rw [List.mem_singleton] at q; subst q; exact ⟨hf, fun s hs => hb s (by omega)⟩
        try simp only [bnd_mret, bnd_assoc', ofO_some', noex_mret, noex_bnd, runF_nx, runF_rt, runF_bnd, runF_ite, runF_bndX, bnd_ite, bndX_nx, bndX_rt, bndX_bnd, bndX_ite, bndN_nx, un2_tup, un3_tup, un4_tup, gIt_t, gIt_f, gIt_b, dnat, ixB_dk, ixB_dz, keyT_int, keyT_str, lenT_tup, lenT_lst, lenT_dk, truT_lst, truT_tup, truT_bl, truT_int, truT_non, blT_bl, asL_lst, asK_dk, valT_lst, valT_nsT, lenT_nsT, valT_tup, tupT_lst, tupT_tup, listT_lst, listT_tup, intcT_int, intT_int, addT_int, ordT_int, cmpT_int, cmpT_bl, cmpT_str, isT_non, isT_bl, isNonT_non, isNonT_int, isNonT_tup, isNonT_bl, negT_int, intO_int, sumT_ints, sortedT_ints, Option.map_some, Option.map_none, Option.bind_some, List.length_map, List.length_range, Bool.not_not, Bool.true_xor, Bool.false_xor, Bool.xor_false, Bool.xor_true, if_true, if_false, Bool.false_eq_true, reduceIte, Bool.not_true, Bool.not_false]
        rw [show T.tup (f.map nT) = nsT f from rfl]
        simp only [bnd_mret, bnd_assoc', ofO_some', noex_mret, noex_bnd, runF_nx, runF_rt, runF_bnd, runF_ite, runF_bndX, bnd_ite, bndX_nx, bndX_rt, bndX_bnd, bndX_ite, bndN_nx, un2_tup, un3_tup, un4_tup, gIt_t, gIt_f, gIt_b, dnat, ixB_dk, ixB_dz, keyT_int, keyT_str, lenT_tup, lenT_lst, lenT_dk, truT_lst, truT_tup, truT_bl, truT_int, truT_non, blT_bl, asL_lst, asK_dk, valT_lst, valT_nsT, lenT_nsT, valT_tup, tupT_lst, tupT_tup, listT_lst, listT_tup, intcT_int, intT_int, addT_int, ordT_int, cmpT_int, cmpT_bl, cmpT_str, isT_non, isT_bl, isNonT_non, isNonT_int, isNonT_tup, isNonT_bl, negT_int, intO_int, sumT_ints, sortedT_ints, Option.map_some, Option.map_none, Option.bind_some, List.length_map, List.length_range, Bool.not_not, Bool.true_xor, Bool.false_xor, Bool.xor_false, Bool.xor_true, if_true, if_false, Bool.false_eq_true, reduceIte, Bool.not_true, Bool.not_false, inT_nsTl, hap]
        cases hc : fs.contains f with
        | true =>
          try simp only [bnd_mret, bnd_assoc', ofO_some', noex_mret, noex_bnd, runF_nx, runF_rt, runF_bnd, runF_ite, runF_bndX, bnd_ite, bndX_nx, bndX_rt, bndX_bnd, bndX_ite, bndN_nx, un2_tup, un3_tup, un4_tup, gIt_t, gIt_f, gIt_b, dnat, ixB_dk, ixB_dz, keyT_int, keyT_str, lenT_tup, lenT_lst, lenT_dk, truT_lst, truT_tup, truT_bl, truT_int, truT_non, blT_bl, asL_lst, asK_dk, valT_lst, valT_nsT, lenT_nsT, valT_tup, tupT_lst, tupT_tup, listT_lst, listT_tup, intcT_int, intT_int, addT_int, ordT_int, cmpT_int, cmpT_bl, cmpT_str, isT_non, isT_bl, isNonT_non, isNonT_int, isNonT_tup, isNonT_bl, negT_int, intO_int, sumT_ints, sortedT_ints, Option.map_some, Option.map_none, Option.bind_some, List.length_map, List.length_range, Bool.not_not, Bool.true_xor, Bool.false_xor, Bool.xor_false, Bool.xor_true, if_true, if_false, Bool.false_eq_true, reduceIte, Bool.not_true, Bool.not_false]
          have hm : f ∈ fs := by simpa using hc
          exact wp_ret ⟨fs, rfl, by simp; omega, fun _ => List.length_pos_of_mem hm, h3, h4⟩
        | false =>
          try simp only [bnd_mret, bnd_assoc', ofO_some', noex_mret, noex_bnd, runF_nx, runF_rt, runF_bnd, runF_ite, runF_bndX, bnd_ite, bndX_nx, bndX_rt, bndX_bnd, bndX_ite, bndN_nx, un2_tup, un3_tup, un4_tup, gIt_t, gIt_f, gIt_b, dnat, ixB_dk, ixB_dz, keyT_int, keyT_str, lenT_tup, lenT_lst, lenT_dk, truT_lst, truT_tup, truT_bl, truT_int, truT_non, blT_bl, asL_lst, asK_dk, valT_lst, valT_nsT, lenT_nsT, valT_tup, tupT_lst, tupT_tup, listT_lst, listT_tup, intcT_int, intT_int, addT_int, ordT_int, cmpT_int, cmpT_bl, cmpT_str, isT_non, isT_bl, isNonT_non, isNonT_int, isNonT_tup, isNonT_bl, negT_int, intO_int, sumT_ints, sortedT_ints, Option.map_some, Option.map_none, Option.bind_some, List.length_map, List.length_range, Bool.not_not, Bool.true_xor, Bool.false_xor, Bool.xor_false, Bool.xor_true, if_true, if_false, Bool.false_eq_true, reduceIte, Bool.not_true, Bool.not_false]
          have hm : f ∉ fs := by simpa using hc
          exact wp_ret ⟨fs ++ [f], by simp, by simp; omega, fun _ => by simp, by rw [List.nodup_append]; exact ⟨h3, by simp, fun a ha b hb e => by rw [List.mem_singleton] at hb; subst hb; subst e; exact hm ha⟩, hg⟩
    · obtain ⟨fs, rfl, h1, h2, h3, h4⟩ := hI
      simp only [bnd_mret, bnd_assoc', ofO_some', noex_mret, noex_bnd, runF_nx, runF_rt, runF_bnd, runF_ite, runF_bndX, bnd_ite, bndX_nx, bndX_rt, bndX_bnd, bndX_ite, bndN_nx, un2_tup, un3_tup, un4_tup, gIt_t, gIt_f, gIt_b, dnat, ixB_dk, ixB_dz, keyT_int, keyT_str, lenT_tup, lenT_lst, lenT_dk, truT_lst, truT_tup, truT_bl, truT_int, truT_non, blT_bl, asL_lst, asK_dk, valT_lst, valT_nsT, lenT_nsT, valT_tup, tupT_lst, tupT_tup, listT_lst, listT_tup, intcT_int, intT_int, addT_int, ordT_int, cmpT_int, cmpT_bl, cmpT_str, isT_non, isT_bl, isNonT_non, isNonT_int, isNonT_tup, isNonT_bl, negT_int, intO_int, sumT_ints, sortedT_ints, Option.map_some, Option.map_none, Option.bind_some, List.length_map, List.length_range, Bool.not_not, Bool.true_xor, Bool.false_xor, Bool.xor_false, Bool.xor_true, if_true, if_false, Bool.false_eq_true, reduceIte, Bool.not_true, Bool.not_false, sorted_nsTl]
      have hp := srtN_perm fs
      refine wp_ret (h sizes (srtN fs) s3 (by omega) (by omega) hz (by rw [hp.length_eq]; exact h2 (by simpa using h0)) (by rw [hp.length_eq]; simpa using h1) (fun f hf => h4 f (hp.mem_iff.mp hf)) ?_)
      have hn : (srtN fs).Nodup := hp.nodup_iff.mpr h3
      refine (List.Pairwise.and hn (srtN_pw fs)).imp fun {a b} ⟨hne, hle⟩ => ?_
      cases hlt : lxN a b with
      | true => rfl
      | false => exact absurd (ii_inj (lx_anti _ _ hlt hle)) hne
theorem wp_fill_counts {sizes : List Nat} {fs : List (List Nat)} {great : Nat} {s : Drw} {Q : T → Drw → Prop} (hg : great ≤ 1000000000000) (hs6 : sizes.length ≤ 6) (hz : ∀ z ∈ sizes, 0 < z ∧ z ≤ 4) (hfl : fs.length ≤ 60) (hf : ∀ f ∈ fs, f.length = sizes.length)
    (h : ∀ (cs : List (List Int)) s', cs.length = sizes.length → (∀ s, s < sizes.length → (cs.getD s []).length = sizes.getD s 0) → (∀ s v, 0 ≤ (cs.getD s []).getD v 0 ∧ (cs.getD s []).getD v 0 ≤ 1000000000000) →
      (∀ f ∈ fs, ∀ s, s < sizes.length → f.getD s 0 < sizes.getD s 0 → 1 ≤ (cs.getD s []).getD (f.getD s 0) 0) → (∀ row ∈ cs, row.length ≤ 4) → Q (.tup (cs.map tI)) s') : wp (m__law_fill_counts [.tok, .lst (sizes.map nT), .tup (fs.map nsT), .int (great : Int)]) s Q := by
  unfold m__law_fill_counts
  simp only [bnd_mret, bnd_assoc', ofO_some', noex_mret, noex_bnd, runF_nx, runF_rt, runF_bnd, runF_ite, runF_bndX, bnd_ite, bndX_nx, bndX_rt, bndX_bnd, bndX_ite, bndN_nx, un2_tup, un3_tup, un4_tup, gIt_t, gIt_f, gIt_b, dnat, ixB_dk, ixB_dz, keyT_int, keyT_str, lenT_tup, lenT_lst, lenT_dk, truT_lst, truT_tup, truT_bl, truT_int, truT_non, blT_bl, asL_lst, asK_dk, valT_lst, valT_nsT, lenT_nsT, valT_tup, tupT_lst, tupT_tup, listT_lst, listT_tup, intcT_int, intT_int, addT_int, ordT_int, cmpT_int, cmpT_bl, cmpT_str, isT_non, isT_bl, isNonT_non, isNonT_int, isNonT_tup, isNonT_bl, negT_int, intO_int, sumT_ints, sortedT_ints, Option.map_some, Option.map_none, Option.bind_some, List.length_map, List.length_range, Bool.not_not, Bool.true_xor, Bool.false_xor, Bool.xor_false, Bool.xor_true, if_true, if_false, Bool.false_eq_true, reduceIte, Bool.not_true, Bool.not_false, rng1_ok (show sizes.length < 2 ^ 62 by omega)]
  refine wp_bnd (wp_for (I := fun pre x _ => ∃ cs : List (List Int), x = .lst (cs.map tI) ∧ cs.length = pre.length ∧ (∀ s, s < cs.length → (cs.getD s []).length = sizes.getD s 0) ∧ (∀ row ∈ cs, row.length ≤ 4 ∧ ∀ x ∈ row, 0 ≤ x ∧ x ≤ 1000000000000) ∧
    ∀ f ∈ fs, ∀ s, s < cs.length → f.getD s 0 < sizes.getD s 0 → 1 ≤ (cs.getD s []).getD (f.getD s 0) 0) ⟨[], rfl, rfl, by simp, by simp, by simp⟩ (fun pre sc post x s e hI => ?_) (fun x s3 hI => ?_))
  · obtain ⟨cs, rfl, h1, h2, h3, h4⟩ := hI
    obtain ⟨hsc, hsl⟩ := range_split e
    have hsc' : sc < sizes.length := by omega
    try simp only [bnd_mret, bnd_assoc', ofO_some', noex_mret, noex_bnd, runF_nx, runF_rt, runF_bnd, runF_ite, runF_bndX, bnd_ite, bndX_nx, bndX_rt, bndX_bnd, bndX_ite, bndN_nx, un2_tup, un3_tup, un4_tup, gIt_t, gIt_f, gIt_b, dnat, ixB_dk, ixB_dz, keyT_int, keyT_str, lenT_tup, lenT_lst, lenT_dk, truT_lst, truT_tup, truT_bl, truT_int, truT_non, blT_bl, asL_lst, asK_dk, valT_lst, valT_nsT, lenT_nsT, valT_tup, tupT_lst, tupT_tup, listT_lst, listT_tup, intcT_int, intT_int, addT_int, ordT_int, cmpT_int, cmpT_bl, cmpT_str, isT_non, isT_bl, isNonT_non, isNonT_int, isNonT_tup, isNonT_bl, negT_int, intO_int, sumT_ints, sortedT_ints, Option.map_some, Option.map_none, Option.bind_some, List.length_map, List.length_range, Bool.not_not, Bool.true_xor, Bool.false_xor, Bool.xor_false, Bool.xor_true, if_true, if_false, Bool.false_eq_true, reduceIte, Bool.not_true, Bool.not_false]
    rw [lcM_map (h := fun f => nT (f.getD sc 0)) (fun f hf' => by
      simp only [bnd_mret, bnd_assoc', ofO_some', noex_mret, noex_bnd, runF_nx, runF_rt, runF_bnd, runF_ite, runF_bndX, bnd_ite, bndX_nx, bndX_rt, bndX_bnd, bndX_ite, bndN_nx, un2_tup, un3_tup, un4_tup, gIt_t, gIt_f, gIt_b, dnat, ixB_dk, ixB_dz, keyT_int, keyT_str, lenT_tup, lenT_lst, lenT_dk, truT_lst, truT_tup, truT_bl, truT_int, truT_non, blT_bl, asL_lst, asK_dk, valT_lst, valT_nsT, lenT_nsT, valT_tup, tupT_lst, tupT_tup, listT_lst, listT_tup, intcT_int, intT_int, addT_int, ordT_int, cmpT_int, cmpT_bl, cmpT_str, isT_non, isT_bl, isNonT_non, isNonT_int, isNonT_tup, isNonT_bl, negT_int, intO_int, sumT_ints, sortedT_ints, Option.map_some, Option.map_none, Option.bind_some, List.length_map, List.length_range, Bool.not_not, Bool.true_xor, Bool.false_xor, Bool.xor_false, Bool.xor_true, if_true, if_false, Bool.false_eq_true, reduceIte, Bool.not_true, Bool.not_false, ixB_ns (show sc < f.length by rw [hf f hf']; exact hsc')]) (by omega)]
    have hzz := hz _ (getD_mem 0 hsc')
    have hme : (fs.map fun f => nT (f.getD sc 0)) = (fs.map fun f => f.getD sc 0).map nT := by rw [List.map_map]; rfl
    simp only [bnd_mret, bnd_assoc', ofO_some', noex_mret, noex_bnd, runF_nx, runF_rt, runF_bnd, runF_ite, runF_bndX, bnd_ite, bndX_nx, bndX_rt, bndX_bnd, bndX_ite, bndN_nx, un2_tup, un3_tup, un4_tup, gIt_t, gIt_f, gIt_b, dnat, ixB_dk, ixB_dz, keyT_int, keyT_str, lenT_tup, lenT_lst, lenT_dk, truT_lst, truT_tup, truT_bl, truT_int, truT_non, blT_bl, asL_lst, asK_dk, valT_lst, valT_nsT, lenT_nsT, valT_tup, tupT_lst, tupT_tup, listT_lst, listT_tup, intcT_int, intT_int, addT_int, ordT_int, cmpT_int, cmpT_bl, cmpT_str, isT_non, isT_bl, isNonT_non, isNonT_int, isNonT_tup, isNonT_bl, negT_int, intO_int, sumT_ints, sortedT_ints, Option.map_some, Option.map_none, Option.bind_some, List.length_map, List.length_range, Bool.not_not, Bool.true_xor, Bool.false_xor, Bool.xor_false, Bool.xor_true, if_true, if_false, Bool.false_eq_true, reduceIte, Bool.not_true, Bool.not_false, ixB_mapL 0 hsc', nT, rng1_ok (show sizes.getD sc 0 < 2 ^ 62 by omega)]
    refine wp_bnd (wp_for (I := fun pre x _ => ∃ row : List Int, x = .lst (row.map T.int) ∧ row.length = pre.length ∧ (∀ x ∈ row, 0 ≤ x ∧ x ≤ 1000000000000) ∧ ∀ f ∈ fs, f.getD sc 0 < row.length → 1 ≤ row.getD (f.getD sc 0) 0) ⟨[], rfl, rfl, by simp, by simp⟩ (fun pre2 sh post2 x s e2 hI => ?_) (fun x s4 hI => ?_))
    · obtain ⟨row, rfl, r1, r2, r3⟩ := hI
      obtain ⟨hsh, hsl2⟩ := range_split e2
      have hin := inT_nl false sh (fs.map fun f => f.getD sc 0)
      rw [← hme] at hin
      unfold nT at hin
      simp only [bnd_mret, bnd_assoc', ofO_some', noex_mret, noex_bnd, runF_nx, runF_rt, runF_bnd, runF_ite, runF_bndX, bnd_ite, bndX_nx, bndX_rt, bndX_bnd, bndX_ite, bndN_nx, un2_tup, un3_tup, un4_tup, gIt_t, gIt_f, gIt_b, dnat, ixB_dk, ixB_dz, keyT_int, keyT_str, lenT_tup, lenT_lst, lenT_dk, truT_lst, truT_tup, truT_bl, truT_int, truT_non, blT_bl, asL_lst, asK_dk, valT_lst, valT_nsT, lenT_nsT, valT_tup, tupT_lst, tupT_tup, listT_lst, listT_tup, intcT_int, intT_int, addT_int, ordT_int, cmpT_int, cmpT_bl, cmpT_str, isT_non, isT_bl, isNonT_non, isNonT_int, isNonT_tup, isNonT_bl, negT_int, intO_int, sumT_ints, sortedT_ints, Option.map_some, Option.map_none, Option.bind_some, List.length_map, List.length_range, Bool.not_not, Bool.true_xor, Bool.false_xor, Bool.xor_false, Bool.xor_true, if_true, if_false, Bool.false_eq_true, reduceIte, Bool.not_true, Bool.not_false, hin]
      have hap := fun y => appT_ok (ts := row.map T.int) (y := y) (by simp; omega)
      have key : ∀ (low v : Nat) (s' : Drw), low ≤ 1 → v < max great 1 → (low = 0 → sh ∉ fs.map fun f => f.getD sc 0) → wp (mret (Ex.nx (T.lst (row.map T.int ++ [T.int ((low : Int) + v)])))) s' fun r s' => match r with
          | .nx x' => ∃ row : List Int, x' = .lst (row.map T.int) ∧ row.length = (pre2 ++ [sh]).length ∧ (∀ x ∈ row, 0 ≤ x ∧ x ≤ 1000000000000) ∧ ∀ f ∈ fs, f.getD sc 0 < row.length → 1 ≤ row.getD (f.getD sc 0) 0
          | .bk x' => False
          | .rt v => False := fun low v s' hlow hv hno => by
        refine wp_ret ⟨row ++ [(low : Int) + v], by simp, by simp [r1], fun x hx => ?_, fun f hf' hlt => ?_⟩
        · rcases List.mem_append.mp hx with q | q
          · exact r2 x q
          · rw [List.mem_singleton] at q; subst q; omega
        · rw [List.getD_eq_getElem?_getD]
          by_cases hq : f.getD sc 0 < row.length
          · rw [List.getElem?_append_left hq, ← List.getD_eq_getElem?_getD]; exact r3 f hf' hq
          · simp at hlt
            have hq2 : f.getD sc 0 = row.length := by rw [List.getD_eq_getElem?_getD]; simp at hq; omega
            rw [hq2, List.getElem?_append_right (Nat.le_refl _)]
            simp
            rcases Nat.eq_zero_or_pos low with hl0 | hl0
            · exact absurd (List.mem_map.mpr ⟨f, hf', by omega⟩) (hno hl0)
            · omega
      cases hc : (fs.map fun f => f.getD sc 0).contains sh with
      | true =>
        try simp only [bnd_mret, bnd_assoc', ofO_some', noex_mret, noex_bnd, runF_nx, runF_rt, runF_bnd, runF_ite, runF_bndX, bnd_ite, bndX_nx, bndX_rt, bndX_bnd, bndX_ite, bndN_nx, un2_tup, un3_tup, un4_tup, gIt_t, gIt_f, gIt_b, dnat, ixB_dk, ixB_dz, keyT_int, keyT_str, lenT_tup, lenT_lst, lenT_dk, truT_lst, truT_tup, truT_bl, truT_int, truT_non, blT_bl, asL_lst, asK_dk, valT_lst, valT_nsT, lenT_nsT, valT_tup, tupT_lst, tupT_tup, listT_lst, listT_tup, intcT_int, intT_int, addT_int, ordT_int, cmpT_int, cmpT_bl, cmpT_str, isT_non, isT_bl, isNonT_non, isNonT_int, isNonT_tup, isNonT_bl, negT_int, intO_int, sumT_ints, sortedT_ints, Option.map_some, Option.map_none, Option.bind_some, List.length_map, List.length_range, Bool.not_not, Bool.true_xor, Bool.false_xor, Bool.xor_false, Bool.xor_true, if_true, if_false, Bool.false_eq_true, reduceIte, Bool.not_true, Bool.not_false]
        refine wp_bnd (wp_drawN (by omega) fun v s2 hv => ?_)
        simp only [bnd_mret, bnd_assoc', ofO_some', noex_mret, noex_bnd, runF_nx, runF_rt, runF_bnd, runF_ite, runF_bndX, bnd_ite, bndX_nx, bndX_rt, bndX_bnd, bndX_ite, bndN_nx, un2_tup, un3_tup, un4_tup, gIt_t, gIt_f, gIt_b, dnat, ixB_dk, ixB_dz, keyT_int, keyT_str, lenT_tup, lenT_lst, lenT_dk, truT_lst, truT_tup, truT_bl, truT_int, truT_non, blT_bl, asL_lst, asK_dk, valT_lst, valT_nsT, lenT_nsT, valT_tup, tupT_lst, tupT_tup, listT_lst, listT_tup, intcT_int, intT_int, addT_int, ordT_int, cmpT_int, cmpT_bl, cmpT_str, isT_non, isT_bl, isNonT_non, isNonT_int, isNonT_tup, isNonT_bl, negT_int, intO_int, sumT_ints, sortedT_ints, Option.map_some, Option.map_none, Option.bind_some, List.length_map, List.length_range, Bool.not_not, Bool.true_xor, Bool.false_xor, Bool.xor_false, Bool.xor_true, if_true, if_false, Bool.false_eq_true, reduceIte, Bool.not_true, Bool.not_false, hap]
        exact (key 1 v s2 (by omega) hv (fun z => by omega)).imp fun r s' q => by cases r <;> first | exact q | exact q.elim
      | false =>
        try simp only [bnd_mret, bnd_assoc', ofO_some', noex_mret, noex_bnd, runF_nx, runF_rt, runF_bnd, runF_ite, runF_bndX, bnd_ite, bndX_nx, bndX_rt, bndX_bnd, bndX_ite, bndN_nx, un2_tup, un3_tup, un4_tup, gIt_t, gIt_f, gIt_b, dnat, ixB_dk, ixB_dz, keyT_int, keyT_str, lenT_tup, lenT_lst, lenT_dk, truT_lst, truT_tup, truT_bl, truT_int, truT_non, blT_bl, asL_lst, asK_dk, valT_lst, valT_nsT, lenT_nsT, valT_tup, tupT_lst, tupT_tup, listT_lst, listT_tup, intcT_int, intT_int, addT_int, ordT_int, cmpT_int, cmpT_bl, cmpT_str, isT_non, isT_bl, isNonT_non, isNonT_int, isNonT_tup, isNonT_bl, negT_int, intO_int, sumT_ints, sortedT_ints, Option.map_some, Option.map_none, Option.bind_some, List.length_map, List.length_range, Bool.not_not, Bool.true_xor, Bool.false_xor, Bool.xor_false, Bool.xor_true, if_true, if_false, Bool.false_eq_true, reduceIte, Bool.not_true, Bool.not_false]
        refine wp_bnd (wp_drawN (by omega) fun v s2 hv => ?_)
        simp only [bnd_mret, bnd_assoc', ofO_some', noex_mret, noex_bnd, runF_nx, runF_rt, runF_bnd, runF_ite, runF_bndX, bnd_ite, bndX_nx, bndX_rt, bndX_bnd, bndX_ite, bndN_nx, un2_tup, un3_tup, un4_tup, gIt_t, gIt_f, gIt_b, dnat, ixB_dk, ixB_dz, keyT_int, keyT_str, lenT_tup, lenT_lst, lenT_dk, truT_lst, truT_tup, truT_bl, truT_int, truT_non, blT_bl, asL_lst, asK_dk, valT_lst, valT_nsT, lenT_nsT, valT_tup, tupT_lst, tupT_tup, listT_lst, listT_tup, intcT_int, intT_int, addT_int, ordT_int, cmpT_int, cmpT_bl, cmpT_str, isT_non, isT_bl, isNonT_non, isNonT_int, isNonT_tup, isNonT_bl, negT_int, intO_int, sumT_ints, sortedT_ints, Option.map_some, Option.map_none, Option.bind_some, List.length_map, List.length_range, Bool.not_not, Bool.true_xor, Bool.false_xor, Bool.xor_false, Bool.xor_true, if_true, if_false, Bool.false_eq_true, reduceIte, Bool.not_true, Bool.not_false, hap]
        exact (key 0 v s2 (by omega) hv (fun _ => by simpa using hc)).imp fun r s' q => by cases r <;> first | exact q | exact q.elim
    · obtain ⟨row, rfl, r1, r2, r3⟩ := hI
      simp at r1
      have hap := fun y => appT_ok (ts := cs.map tI) (y := y) (by simp; omega)
      simp only [bnd_mret, bnd_assoc', ofO_some', noex_mret, noex_bnd, runF_nx, runF_rt, runF_bnd, runF_ite, runF_bndX, bnd_ite, bndX_nx, bndX_rt, bndX_bnd, bndX_ite, bndN_nx, un2_tup, un3_tup, un4_tup, gIt_t, gIt_f, gIt_b, dnat, ixB_dk, ixB_dz, keyT_int, keyT_str, lenT_tup, lenT_lst, lenT_dk, truT_lst, truT_tup, truT_bl, truT_int, truT_non, blT_bl, asL_lst, asK_dk, valT_lst, valT_nsT, lenT_nsT, valT_tup, tupT_lst, tupT_tup, listT_lst, listT_tup, intcT_int, intT_int, addT_int, ordT_int, cmpT_int, cmpT_bl, cmpT_str, isT_non, isT_bl, isNonT_non, isNonT_int, isNonT_tup, isNonT_bl, negT_int, intO_int, sumT_ints, sortedT_ints, Option.map_some, Option.map_none, Option.bind_some, List.length_map, List.length_range, Bool.not_not, Bool.true_xor, Bool.false_xor, Bool.xor_false, Bool.xor_true, if_true, if_false, Bool.false_eq_true, reduceIte, Bool.not_true, Bool.not_false, hap]
      have hget : ∀ (s : Nat) (hs : s < cs.length + 1), (cs ++ [row]).getD s [] = if s < cs.length then cs.getD s [] else row := fun s hs => by
        rw [List.getD_eq_getElem?_getD]
        by_cases hq : s < cs.length
        · rw [if_pos hq, List.getElem?_append_left hq, ← List.getD_eq_getElem?_getD]
        · rw [if_neg hq, show s = cs.length by omega, List.getElem?_append_right (Nat.le_refl _)]; simp
      refine wp_ret ⟨cs ++ [row], by simp [tI], by simp [h1], fun s hs => ?_, fun r hr => ?_, fun f hf' s hs hlt => ?_⟩
      · simp at hs
        rw [hget s hs]
        split
        · rename_i hq; exact h2 s hq
        · have : s = sc := by omega
          subst this; rw [r1, List.getD_eq_getElem?_getD]
      · rcases List.mem_append.mp hr with q | q
        · exact h3 r q
        · rw [List.mem_singleton] at q; subst q; exact ⟨by rw [r1, ← List.getD_eq_getElem?_getD]; exact hzz.2, r2⟩
      · simp at hs
        rw [hget s hs]
        split
        · rename_i hq; exact h4 f hf' s hq hlt
        · have : s = sc := by omega
          subst this; exact r3 f hf' (by rw [r1, ← List.getD_eq_getElem?_getD]; exact hlt)
  · obtain ⟨cs, rfl, h1, h2, h3, h4⟩ := hI
    simp at h1
    try simp only [bnd_mret, bnd_assoc', ofO_some', noex_mret, noex_bnd, runF_nx, runF_rt, runF_bnd, runF_ite, runF_bndX, bnd_ite, bndX_nx, bndX_rt, bndX_bnd, bndX_ite, bndN_nx, un2_tup, un3_tup, un4_tup, gIt_t, gIt_f, gIt_b, dnat, ixB_dk, ixB_dz, keyT_int, keyT_str, lenT_tup, lenT_lst, lenT_dk, truT_lst, truT_tup, truT_bl, truT_int, truT_non, blT_bl, asL_lst, asK_dk, valT_lst, valT_nsT, lenT_nsT, valT_tup, tupT_lst, tupT_tup, listT_lst, listT_tup, intcT_int, intT_int, addT_int, ordT_int, cmpT_int, cmpT_bl, cmpT_str, isT_non, isT_bl, isNonT_non, isNonT_int, isNonT_tup, isNonT_bl, negT_int, intO_int, sumT_ints, sortedT_ints, Option.map_some, Option.map_none, Option.bind_some, List.length_map, List.length_range, Bool.not_not, Bool.true_xor, Bool.false_xor, Bool.xor_false, Bool.xor_true, if_true, if_false, Bool.false_eq_true, reduceIte, Bool.not_true, Bool.not_false]
    refine wp_ret (h cs s3 h1 (fun s hs => h2 s (by omega)) (fun s v => ?_) (fun f hf' s hs => h4 f hf' s (by omega)) fun row hr => (h3 row hr).1)
    by_cases hs : s < cs.length
    · have hr := (h3 _ (getD_mem [] hs)).2
      by_cases hv : v < (cs.getD s []).length
      · exact hr _ (getD_mem 0 hv)
      · rw [List.getD_eq_getElem?_getD (l := cs.getD s []), List.getElem?_eq_none (by omega)]; simp
    · rw [List.getD_eq_getElem?_getD (l := cs), List.getElem?_eq_none (by omega)]; simp

theorem numN_len (l : List Nat) : (numN l).length = l.length := by simp [numN]
theorem numN_bd {l : List Nat} : ∀ v ∈ numN l, v < l.length := fun v hv => by
  obtain ⟨w, hw, rfl⟩ := List.mem_map.mp hv
  have h1 : (insA [] l).idxOf w < (insA [] l).length := List.idxOf_lt_length_iff.mpr (mem_insA.mpr (.inr hw))
  have := len_insA [] l
  simp at this
  omega
theorem getD_getD_mem {α : Type} {X : List (List α)} {i j : Nat} {d : α} {P : α → Prop} (h : ∀ x ∈ X, ∀ y ∈ x, P y) (hi : i < X.length) (hj : j < (X.getD i []).length) : P ((X.getD i []).getD j d) := h _ (getD_mem [] hi) _ (getD_mem d hj)
theorem led_ok {sizes : List Nat} {fs : List (List Nat)} {cs : List (List Int)} {ms : List (List Nat)} {os : List (List (List Nat))} {R : Nat} (hf0 : 0 < fs.length) (hfl : fs.length ≤ 60) (hs0 : 0 < sizes.length) (hs6 : sizes.length ≤ 6)
    (hf : ∀ f ∈ fs, f.length = sizes.length ∧ ∀ s, s < sizes.length → f.getD s 0 < sizes.getD s 0) (hpw : fs.Pairwise (fun x y => HT.lexLt (x.map Int.ofNat) (y.map Int.ofNat) = true))
    (hc1 : cs.length = sizes.length) (hc2 : ∀ s, s < sizes.length → (cs.getD s []).length = sizes.getD s 0) (hc3 : ∀ s v, 0 ≤ (cs.getD s []).getD v 0 ∧ (cs.getD s []).getD v 0 ≤ 1000000000000) (hc4 : ∀ f ∈ fs, ∀ s, s < sizes.length → f.getD s 0 < sizes.getD s 0 → 1 ≤ (cs.getD s []).getD (f.getD s 0) 0) (hc5 : ∀ row ∈ cs, row.length ≤ 64)
    (h1 : ms.length = R) (h2 : os.length = R) (hR : R ≤ 60) (h3 : ∀ m ∈ ms, m.length = fs.length ∧ ∃ l, m = numN l) (h4 : ∀ r, r < ms.length → ∀ v ∈ ms.getD r [], v < (os.getD r []).length) (h5 : ∀ o ∈ os, ∀ t ∈ o, t.Pairwise (· < ·) ∧ ∀ x ∈ t, x < sizes.length) : Led.Ok ⟨fs, cs, ms, os⟩ R := by
  refine ⟨hf0, by simp only [Led.n]; omega, fun f hf' => by simp only [hc1]; exact (hf f hf').1, by simp only [hc1]; exact hs0, by simp only [hc1]; omega, fun k s hk hs => ?_, fun s v => (hc3 s v).1, fun s v => ?_, hc5, h1, h2, by omega, fun m hm => (h3 m hm).1, fun r k hr hk => ?_, fun r m x hx => ?_, fun r m => ?_, ?_⟩
  · simp only [hc1] at hs
    have hm := getD_mem [] (show k < fs.length from hk)
    have h6 := (hf _ hm).2 s hs
    simp only [Led.sh, Led.ct]
    exact ⟨by rw [hc2 s hs]; exact h6, hc4 _ hm s hs h6⟩
  · have := (hc3 s v).2
    simp only [Led.ct]; omega
  · simp only [Led.mk']
    refine h4 r (by omega) _ (getD_mem 0 ?_)
    rw [(h3 _ (getD_mem [] (by omega))).1]; exact hk
  · simp only [Led.op] at hx
    simp only [hc1]
    by_cases hr : r < os.length
    · by_cases hm : m < (os.getD r []).length
      · exact (h5 _ (getD_mem [] hr) _ (getD_mem [] hm)).2 x hx
      · rw [List.getD_eq_getElem?_getD (l := os.getD r []), List.getElem?_eq_none (by omega)] at hx; simp at hx
    · rw [List.getD_eq_getElem?_getD (l := os), List.getElem?_eq_none (by omega)] at hx; simp at hx
  · simp only [Led.op]
    by_cases hr : r < os.length
    · by_cases hm : m < (os.getD r []).length
      · exact (h5 _ (getD_mem [] hr) _ (getD_mem [] hm)).1
      · rw [List.getD_eq_getElem?_getD (l := os.getD r []), List.getElem?_eq_none (by omega)]; exact .nil
    · rw [List.getD_eq_getElem?_getD (l := os), List.getElem?_eq_none (by omega)]; exact .nil
  · exact hpw

theorem wp_ledger {turns R : Nat} {s : Drw} {Q : T → Drw → Prop} (h0 : 0 < turns) (ht : turns ≤ 60) (hR : R ≤ 60) (h : ∀ (L : Led) s', L.Ok R → L.cs.length ≤ 6 → L.n ≤ turns → (∀ s v, L.ct s v ≤ 1000000000000) → (∀ m ∈ L.ms, ∃ l, m = numN l) → Q L.t s') : wp (m__law_ledger [.tok, .int (turns : Int), .int (R : Int)]) s Q := by
  unfold m__law_ledger
  simp only [bnd_mret, bnd_assoc', ofO_some', noex_mret, noex_bnd, runF_nx, runF_rt, runF_bnd, runF_ite, runF_bndX, bnd_ite, bndX_nx, bndX_rt, bndX_bnd, bndX_ite, bndN_nx, un2_tup, un3_tup, un4_tup, gIt_t, gIt_f, gIt_b, dnat, ixB_dk, ixB_dz, keyT_int, keyT_str, lenT_tup, lenT_lst, lenT_dk, truT_lst, truT_tup, truT_bl, truT_int, truT_non, blT_bl, asL_lst, asK_dk, valT_lst, valT_nsT, lenT_nsT, valT_tup, tupT_lst, tupT_tup, listT_lst, listT_tup, intcT_int, intT_int, addT_int, ordT_int, cmpT_int, cmpT_bl, cmpT_str, isT_non, isT_bl, isNonT_non, isNonT_int, isNonT_tup, isNonT_bl, negT_int, intO_int, sumT_ints, sortedT_ints, Option.map_some, Option.map_none, Option.bind_some, List.length_map, List.length_range, Bool.not_not, Bool.true_xor, Bool.false_xor, Bool.xor_false, Bool.xor_true, if_true, if_false, Bool.false_eq_true, reduceIte, Bool.not_true, Bool.not_false]
  refine wp_bnd (wp_fill_set h0 ht fun sizes fs s1 hs0 hs6 hz hf0 hfl hf hpw => ?_)
  simp only [bnd_mret, bnd_assoc', ofO_some', noex_mret, noex_bnd, runF_nx, runF_rt, runF_bnd, runF_ite, runF_bndX, bnd_ite, bndX_nx, bndX_rt, bndX_bnd, bndX_ite, bndN_nx, un2_tup, un3_tup, un4_tup, gIt_t, gIt_f, gIt_b, dnat, ixB_dk, ixB_dz, keyT_int, keyT_str, lenT_tup, lenT_lst, lenT_dk, truT_lst, truT_tup, truT_bl, truT_int, truT_non, blT_bl, asL_lst, asK_dk, valT_lst, valT_nsT, lenT_nsT, valT_tup, tupT_lst, tupT_tup, listT_lst, listT_tup, intcT_int, intT_int, addT_int, ordT_int, cmpT_int, cmpT_bl, cmpT_str, isT_non, isT_bl, isNonT_non, isNonT_int, isNonT_tup, isNonT_bl, negT_int, intO_int, sumT_ints, sortedT_ints, Option.map_some, Option.map_none, Option.bind_some, List.length_map, List.length_range, Bool.not_not, Bool.true_xor, Bool.false_xor, Bool.xor_false, Bool.xor_true, if_true, if_false, Bool.false_eq_true, reduceIte, Bool.not_true, Bool.not_false]
  refine wp_bnd (wp_pickI (l := [3, 3, 5, 1000000000000]) (by simp) (by simp) fun g s2 hg => ?_)
  have hg : g ≤ 1000000000000 := by simp at hg; omega
  refine wp_bnd (wp_fill_counts hg hs6 hz (by omega) (fun f hf' => (hf f hf').1) fun cs s3 hc1 hc2 hc3 hc4 hc5 => ?_)
  simp only [bnd_mret, bnd_assoc', ofO_some', noex_mret, noex_bnd, runF_nx, runF_rt, runF_bnd, runF_ite, runF_bndX, bnd_ite, bndX_nx, bndX_rt, bndX_bnd, bndX_ite, bndN_nx, un2_tup, un3_tup, un4_tup, gIt_t, gIt_f, gIt_b, dnat, ixB_dk, ixB_dz, keyT_int, keyT_str, lenT_tup, lenT_lst, lenT_dk, truT_lst, truT_tup, truT_bl, truT_int, truT_non, blT_bl, asL_lst, asK_dk, valT_lst, valT_nsT, lenT_nsT, valT_tup, tupT_lst, tupT_tup, listT_lst, listT_tup, intcT_int, intT_int, addT_int, ordT_int, cmpT_int, cmpT_bl, cmpT_str, isT_non, isT_bl, isNonT_non, isNonT_int, isNonT_tup, isNonT_bl, negT_int, intO_int, sumT_ints, sortedT_ints, Option.map_some, Option.map_none, Option.bind_some, List.length_map, List.length_range, Bool.not_not, Bool.true_xor, Bool.false_xor, Bool.xor_false, Bool.xor_true, if_true, if_false, Bool.false_eq_true, reduceIte, Bool.not_true, Bool.not_false, rng1_ok (show R < 2 ^ 62 by omega)]
  refine wp_bnd (wp_for (I := fun pre x _ => ∃ (ms : List (List Nat)) (os : List (List (List Nat))), x = (T.lst (ms.map nsT), T.lst (os.map fun r => T.tup (r.map nsT))) ∧ ms.length = pre.length ∧ os.length = pre.length ∧ (∀ m ∈ ms, m.length = fs.length ∧ ∃ l, m = numN l) ∧
    (∀ r, r < ms.length → ∀ v ∈ ms.getD r [], v < (os.getD r []).length) ∧ ∀ o ∈ os, ∀ t ∈ o, t.Pairwise (· < ·) ∧ ∀ x ∈ t, x < sizes.length) ⟨[], [], rfl, rfl, rfl, by simp, by simp, by simp⟩ (fun pre r post x s e hI => ?_) (fun x s4 hI => ?_))
  · obtain ⟨ms, os, rfl, h1, h2, h3, h4, h5⟩ := hI
    have hpl := (range_split e).2
    simp only [bnd_mret, bnd_assoc', ofO_some', noex_mret, noex_bnd, runF_nx, runF_rt, runF_bnd, runF_ite, runF_bndX, bnd_ite, bndX_nx, bndX_rt, bndX_bnd, bndX_ite, bndN_nx, un2_tup, un3_tup, un4_tup, gIt_t, gIt_f, gIt_b, dnat, ixB_dk, ixB_dz, keyT_int, keyT_str, lenT_tup, lenT_lst, lenT_dk, truT_lst, truT_tup, truT_bl, truT_int, truT_non, blT_bl, asL_lst, asK_dk, valT_lst, valT_nsT, lenT_nsT, valT_tup, tupT_lst, tupT_tup, listT_lst, listT_tup, intcT_int, intT_int, addT_int, ordT_int, cmpT_int, cmpT_bl, cmpT_str, isT_non, isT_bl, isNonT_non, isNonT_int, isNonT_tup, isNonT_bl, negT_int, intO_int, sumT_ints, sortedT_ints, Option.map_some, Option.map_none, Option.bind_some, List.length_map, List.length_range, Bool.not_not, Bool.true_xor, Bool.false_xor, Bool.xor_false, Bool.xor_true, if_true, if_false, Bool.false_eq_true, reduceIte, Bool.not_true, Bool.not_false]
    refine wp_bnd (wp_marks hf0 (by omega) fun l s5 hl => ?_)
    have hap := fun y => appT_ok (ts := ms.map nsT) (y := y) (by simp; omega)
    simp only [bnd_mret, bnd_assoc', ofO_some', noex_mret, noex_bnd, runF_nx, runF_rt, runF_bnd, runF_ite, runF_bndX, bnd_ite, bndX_nx, bndX_rt, bndX_bnd, bndX_ite, bndN_nx, un2_tup, un3_tup, un4_tup, gIt_t, gIt_f, gIt_b, dnat, ixB_dk, ixB_dz, keyT_int, keyT_str, lenT_tup, lenT_lst, lenT_dk, truT_lst, truT_tup, truT_bl, truT_int, truT_non, blT_bl, asL_lst, asK_dk, valT_lst, valT_nsT, lenT_nsT, valT_tup, tupT_lst, tupT_tup, listT_lst, listT_tup, intcT_int, intT_int, addT_int, ordT_int, cmpT_int, cmpT_bl, cmpT_str, isT_non, isT_bl, isNonT_non, isNonT_int, isNonT_tup, isNonT_bl, negT_int, intO_int, sumT_ints, sortedT_ints, Option.map_some, Option.map_none, Option.bind_some, List.length_map, List.length_range, Bool.not_not, Bool.true_xor, Bool.false_xor, Bool.xor_false, Bool.xor_true, if_true, if_false, Bool.false_eq_true, reduceIte, Bool.not_true, Bool.not_false, hap]
    refine wp_bnd (wp_opens hf0 (by omega) (fun f hf' => (hf f hf').1) (by omega) (by rw [numN_len]; exact hl) (fun v hv => by have := numN_bd v hv; omega) fun o s6 ho1 ho2 => ?_)
    have haq := fun y => appT_ok (ts := os.map fun r => T.tup (r.map nsT)) (y := y) (by simp; omega)
    simp only [bnd_mret, bnd_assoc', ofO_some', noex_mret, noex_bnd, runF_nx, runF_rt, runF_bnd, runF_ite, runF_bndX, bnd_ite, bndX_nx, bndX_rt, bndX_bnd, bndX_ite, bndN_nx, un2_tup, un3_tup, un4_tup, gIt_t, gIt_f, gIt_b, dnat, ixB_dk, ixB_dz, keyT_int, keyT_str, lenT_tup, lenT_lst, lenT_dk, truT_lst, truT_tup, truT_bl, truT_int, truT_non, blT_bl, asL_lst, asK_dk, valT_lst, valT_nsT, lenT_nsT, valT_tup, tupT_lst, tupT_tup, listT_lst, listT_tup, intcT_int, intT_int, addT_int, ordT_int, cmpT_int, cmpT_bl, cmpT_str, isT_non, isT_bl, isNonT_non, isNonT_int, isNonT_tup, isNonT_bl, negT_int, intO_int, sumT_ints, sortedT_ints, Option.map_some, Option.map_none, Option.bind_some, List.length_map, List.length_range, Bool.not_not, Bool.true_xor, Bool.false_xor, Bool.xor_false, Bool.xor_true, if_true, if_false, Bool.false_eq_true, reduceIte, Bool.not_true, Bool.not_false, haq]
    refine wp_ret ⟨ms ++ [numN l], os ++ [o], by simp, by simp [h1], by simp [h2], fun m hm => ?_, fun q hq v hv => ?_, fun q hq => ?_⟩
    · rcases List.mem_append.mp hm with z | z
      · exact h3 m z
      · rw [List.mem_singleton] at z; subst z; exact ⟨by rw [numN_len]; exact hl, l, rfl⟩
    · simp at hq
      rw [List.getD_eq_getElem?_getD] at hv ⊢
      by_cases hq2 : q < ms.length
      · rw [List.getElem?_append_left hq2, ← List.getD_eq_getElem?_getD] at hv
        rw [List.getElem?_append_left (by omega), ← List.getD_eq_getElem?_getD]
        exact h4 q hq2 v hv
      · rw [show q = ms.length by omega, List.getElem?_append_right (Nat.le_refl _)] at hv
        rw [show q = os.length by omega, List.getElem?_append_right (Nat.le_refl _)]
        simp at hv ⊢
        exact ho1 v hv
    · rcases List.mem_append.mp hq with z | z
      · exact h5 q z
      · rw [List.mem_singleton] at z; subst z; exact ho2
  · obtain ⟨ms, os, rfl, h1, h2, h3, h4, h5⟩ := hI
    simp at h1 h2
    simp only [bnd_mret, bnd_assoc', ofO_some', noex_mret, noex_bnd, runF_nx, runF_rt, runF_bnd, runF_ite, runF_bndX, bnd_ite, bndX_nx, bndX_rt, bndX_bnd, bndX_ite, bndN_nx, un2_tup, un3_tup, un4_tup, gIt_t, gIt_f, gIt_b, dnat, ixB_dk, ixB_dz, keyT_int, keyT_str, lenT_tup, lenT_lst, lenT_dk, truT_lst, truT_tup, truT_bl, truT_int, truT_non, blT_bl, asL_lst, asK_dk, valT_lst, valT_nsT, lenT_nsT, valT_tup, tupT_lst, tupT_tup, listT_lst, listT_tup, intcT_int, intT_int, addT_int, ordT_int, cmpT_int, cmpT_bl, cmpT_str, isT_non, isT_bl, isNonT_non, isNonT_int, isNonT_tup, isNonT_bl, negT_int, intO_int, sumT_ints, sortedT_ints, Option.map_some, Option.map_none, Option.bind_some, List.length_map, List.length_range, Bool.not_not, Bool.true_xor, Bool.false_xor, Bool.xor_false, Bool.xor_true, if_true, if_false, Bool.false_eq_true, reduceIte, Bool.not_true, Bool.not_false]
    exact wp_ret (h ⟨fs, cs, ms, os⟩ s4 (led_ok hf0 (by omega) hs0 hs6 hf hpw hc1 hc2 hc3 hc4 (fun row hr => Nat.le_trans (hc5 row hr) (by decide)) h1 h2 hR h3 h4 h5) (by simp only [hc1]; exact hs6) hfl (fun s v => (hc3 s v).2) (fun m hm => (h3 m hm).2))
theorem wp_ledger' {turns R : Int} {t r : Nat} {s : Drw} {Q : T → Drw → Prop} (et : turns = t) (er : R = r) (h0 : 0 < t) (ht : t ≤ 60) (hR : r ≤ 60) (h : ∀ (L : Led) s', L.Ok r → L.cs.length ≤ 6 → L.n ≤ t → (∀ s v, L.ct s v ≤ 1000000000000) → (∀ m ∈ L.ms, ∃ l, m = numN l) → Q L.t s') : wp (m__law_ledger [.tok, .int turns, .int R]) s Q := by
  subst et; subst er; exact wp_ledger h0 ht hR h

theorem wp_circle {many : Nat} {s : Drw} {Q : T → Drw → Prop} (hm : many ≤ 1000) (h : ∀ (c : List Nat) s', c.Pairwise (· < ·) → (∀ r ∈ c, r < many) → Q (nsT c) s') : wp (m__law_circle [.tok, .int (many : Int)]) s Q := by
  unfold m__law_circle
  simp only [bnd_mret, bnd_assoc', ofO_some', noex_mret, noex_bnd, runF_nx, runF_rt, runF_bnd, runF_ite, runF_bndX, bnd_ite, bndX_nx, bndX_rt, bndX_bnd, bndX_ite, bndN_nx, un2_tup, un3_tup, un4_tup, gIt_t, gIt_f, gIt_b, dnat, ixB_dk, ixB_dz, keyT_int, keyT_str, lenT_tup, lenT_lst, lenT_dk, truT_lst, truT_tup, truT_bl, truT_int, truT_non, blT_bl, asL_lst, asK_dk, valT_lst, valT_nsT, lenT_nsT, valT_tup, tupT_lst, tupT_tup, listT_lst, listT_tup, intcT_int, intT_int, addT_int, ordT_int, cmpT_int, cmpT_bl, cmpT_str, isT_non, isT_bl, isNonT_non, isNonT_int, isNonT_tup, isNonT_bl, negT_int, intO_int, sumT_ints, sortedT_ints, Option.map_some, Option.map_none, Option.bind_some, List.length_map, List.length_range, Bool.not_not, Bool.true_xor, Bool.false_xor, Bool.xor_false, Bool.xor_true, if_true, if_false, Bool.false_eq_true, reduceIte, Bool.not_true, Bool.not_false, rng1_ok (show many < 2 ^ 62 by omega)]
  refine wp_bnd (wp_lc (I := fun pre acc _ => ∃ c : List Nat, acc = c.map nT ∧ c.Pairwise (· < ·) ∧ ∀ r ∈ c, r < pre.length) ⟨[], rfl, .nil, by simp⟩ (fun pre i post acc s e hI => ?_) (fun acc s hI => ?_))
  · obtain ⟨c, rfl, h1, h2⟩ := hI
    obtain ⟨hi, hil⟩ := range_split e
    unfold gIt
    simp only [bnd_mret, bnd_assoc', ofO_some', noex_mret, noex_bnd, runF_nx, runF_rt, runF_bnd, runF_ite, runF_bndX, bndX_nx, bndX_rt, bndX_bnd, bndX_ite, bndN_nx, un2_tup, un3_tup, un4_tup, gIt_t, gIt_f, gIt_b, dnat, ixB_dk, ixB_dz, keyT_int, keyT_str, lenT_tup, lenT_lst, lenT_dk, truT_lst, truT_tup, truT_bl, truT_int, truT_non, blT_bl, asL_lst, asK_dk, valT_lst, valT_nsT, lenT_nsT, valT_tup, tupT_lst, tupT_tup, listT_lst, listT_tup, intcT_int, intT_int, addT_int, ordT_int, cmpT_int, cmpT_bl, cmpT_str, isT_non, isT_bl, isNonT_non, isNonT_int, isNonT_tup, isNonT_bl, negT_int, intO_int, sumT_ints, sortedT_ints, Option.map_some, Option.map_none, Option.bind_some, List.length_map, List.length_range, Bool.not_not, Bool.true_xor, Bool.false_xor, Bool.xor_false, Bool.xor_true, if_true, if_false, Bool.false_eq_true, reduceIte, Bool.not_true, Bool.not_false]
    refine wp_bnd (wp_drawI (n := 3) rfl (by omega) fun v s2 hv => ?_)
    have hl := nodup_le (h1.imp fun {a b} z => Nat.ne_of_lt z) h2
    simp only [bnd_mret, bnd_assoc', ofO_some', noex_mret, noex_bnd, runF_nx, runF_rt, runF_bnd, runF_ite, runF_bndX, bnd_ite, bndX_nx, bndX_rt, bndX_bnd, bndX_ite, bndN_nx, un2_tup, un3_tup, un4_tup, gIt_t, gIt_f, gIt_b, dnat, ixB_dk, ixB_dz, keyT_int, keyT_str, lenT_tup, lenT_lst, lenT_dk, truT_lst, truT_tup, truT_bl, truT_int, truT_non, blT_bl, asL_lst, asK_dk, valT_lst, valT_nsT, lenT_nsT, valT_tup, tupT_lst, tupT_tup, listT_lst, listT_tup, intcT_int, intT_int, addT_int, ordT_int, cmpT_int, cmpT_bl, cmpT_str, isT_non, isT_bl, isNonT_non, isNonT_int, isNonT_tup, isNonT_bl, negT_int, intO_int, sumT_ints, sortedT_ints, Option.map_some, Option.map_none, Option.bind_some, List.length_map, List.length_range, Bool.not_not, Bool.true_xor, Bool.false_xor, Bool.xor_false, Bool.xor_true, if_true, if_false, Bool.false_eq_true, reduceIte, Bool.not_true, Bool.not_false]
    generalize decide ((0 : Int) < (v : Int)) = b
    cases b with
    | false => simp only [bnd_mret, bnd_assoc', ofO_some', noex_mret, noex_bnd, runF_nx, runF_rt, runF_bnd, runF_ite, runF_bndX, bnd_ite, bndX_nx, bndX_rt, bndX_bnd, bndX_ite, bndN_nx, un2_tup, un3_tup, un4_tup, gIt_t, gIt_f, gIt_b, dnat, ixB_dk, ixB_dz, keyT_int, keyT_str, lenT_tup, lenT_lst, lenT_dk, truT_lst, truT_tup, truT_bl, truT_int, truT_non, blT_bl, asL_lst, asK_dk, valT_lst, valT_nsT, lenT_nsT, valT_tup, tupT_lst, tupT_tup, listT_lst, listT_tup, intcT_int, intT_int, addT_int, ordT_int, cmpT_int, cmpT_bl, cmpT_str, isT_non, isT_bl, isNonT_non, isNonT_int, isNonT_tup, isNonT_bl, negT_int, intO_int, sumT_ints, sortedT_ints, Option.map_some, Option.map_none, Option.bind_some, List.length_map, List.length_range, Bool.not_not, Bool.true_xor, Bool.false_xor, Bool.xor_false, Bool.xor_true, if_true, if_false, Bool.false_eq_true, reduceIte, Bool.not_true, Bool.not_false]; exact wp_ret ⟨c, rfl, h1, fun r hr => by have := h2 r hr; simp; omega⟩
    | true =>
      simp only [bnd_mret, bnd_assoc', ofO_some', noex_mret, noex_bnd, runF_nx, runF_rt, runF_bnd, runF_ite, runF_bndX, bnd_ite, bndX_nx, bndX_rt, bndX_bnd, bndX_ite, bndN_nx, un2_tup, un3_tup, un4_tup, gIt_t, gIt_f, gIt_b, dnat, ixB_dk, ixB_dz, keyT_int, keyT_str, lenT_tup, lenT_lst, lenT_dk, truT_lst, truT_tup, truT_bl, truT_int, truT_non, blT_bl, asL_lst, asK_dk, valT_lst, valT_nsT, lenT_nsT, valT_tup, tupT_lst, tupT_tup, listT_lst, listT_tup, intcT_int, intT_int, addT_int, ordT_int, cmpT_int, cmpT_bl, cmpT_str, isT_non, isT_bl, isNonT_non, isNonT_int, isNonT_tup, isNonT_bl, negT_int, intO_int, sumT_ints, sortedT_ints, Option.map_some, Option.map_none, Option.bind_some, List.length_map, List.length_range, Bool.not_not, Bool.true_xor, Bool.false_xor, Bool.xor_false, Bool.xor_true, if_true, if_false, Bool.false_eq_true, reduceIte, Bool.not_true, Bool.not_false]
      refine wp_ret ⟨by first | omega | (simp; omega), c ++ [i], by simp [nT], ?_, fun r hr => ?_⟩
      · rw [List.pairwise_append]
        exact ⟨h1, by simp, fun a ha b hb => by rw [List.mem_singleton] at hb; subst hb; have := h2 a ha; omega⟩
      · rcases List.mem_append.mp hr with q | q
        · have := h2 r q; simp; omega
        · rw [List.mem_singleton] at q; subst q; simp; omega
  · obtain ⟨c, rfl, h1, h2⟩ := hI
    simp only [bnd_mret, bnd_assoc', ofO_some', noex_mret, noex_bnd, runF_nx, runF_rt, runF_bnd, runF_ite, runF_bndX, bnd_ite, bndX_nx, bndX_rt, bndX_bnd, bndX_ite, bndN_nx, un2_tup, un3_tup, un4_tup, gIt_t, gIt_f, gIt_b, dnat, ixB_dk, ixB_dz, keyT_int, keyT_str, lenT_tup, lenT_lst, lenT_dk, truT_lst, truT_tup, truT_bl, truT_int, truT_non, blT_bl, asL_lst, asK_dk, valT_lst, valT_nsT, lenT_nsT, valT_tup, tupT_lst, tupT_tup, listT_lst, listT_tup, intcT_int, intT_int, addT_int, ordT_int, cmpT_int, cmpT_bl, cmpT_str, isT_non, isT_bl, isNonT_non, isNonT_int, isNonT_tup, isNonT_bl, negT_int, intO_int, sumT_ints, sortedT_ints, Option.map_some, Option.map_none, Option.bind_some, List.length_map, List.length_range, Bool.not_not, Bool.true_xor, Bool.false_xor, Bool.xor_false, Bool.xor_true, if_true, if_false, Bool.false_eq_true, reduceIte, Bool.not_true, Bool.not_false]
    exact wp_ret (h c s h1 (by simpa using h2))

/-! ints in lists and tuples -/
def inI (i : Int) (l : List Nat) : Bool := decide (0 ≤ i) && l.contains i.toNat
theorem any_int (l : List Int) (i : Int) : ((l.map T.int).any fun z => FM.eqT z (.int i)) = l.contains i := by
  induction l with
  | nil => rfl
  | cons x l ih =>
    rw [List.map_cons, List.any_cons, ih, List.contains_cons]
    congr 1
    simp only [FM.eqT]
    exact Bool.eq_iff_iff.mpr ⟨fun h => by simp at h ⊢; exact h.symm, fun h => by simp at h ⊢; exact h.symm⟩
theorem okTs_int (n : Nat) (l : List Int) : okTs n (l.map T.int) = true := okTs_map fun x _ => okT_int _ x
theorem inT_it (n : Bool) (i : Int) (l : List Int) : inT n (.int i) (.tup (l.map T.int)) = some (.bl (xor n (l.contains i))) := by
  unfold inT; simp only
  rw [if_pos ⟨okT_int _ _, okTs_int _ _⟩, any_int]
theorem inT_il (n : Bool) (i : Int) (l : List Int) : inT n (.int i) (.lst (l.map T.int)) = some (.bl (xor n (l.contains i))) := by
  unfold inT; simp only
  rw [if_pos ⟨okT_int _ _, okTs_int _ _⟩, any_int]
theorem ii_contains (l : List Nat) (i : Int) : (ii l).contains i = inI i l := by
  unfold inI ii
  rw [Bool.eq_iff_iff, Bool.and_eq_true, List.contains_iff_mem, List.contains_iff_mem, List.mem_map, decide_eq_true_eq]
  constructor
  · rintro ⟨n, hn, rfl⟩; exact ⟨by omega, by simpa using hn⟩
  · rintro ⟨h0, h⟩; exact ⟨i.toNat, h, by omega⟩
theorem inT_in (n : Bool) (i : Int) (l : List Nat) : inT n (.int i) (nsT l) = some (.bl (xor n (inI i l))) := by
  rw [nsT_eq]; unfold tI; rw [inT_it, ii_contains]
theorem inT_inl (n : Bool) (i : Int) (l : List Nat) : inT n (.int i) (.lst (l.map nT)) = some (.bl (xor n (inI i l))) := by
  rw [nT_map, inT_il, ii_contains]
theorem inI_some {i : Int} {c : List Nat} (h : inI i c = true) : ∃ r : Nat, i = r ∧ r ∈ c := by
  simp only [inI, Bool.and_eq_true, decide_eq_true_eq, List.contains_iff_mem] at h
  exact ⟨i.toNat, by omega, h.2⟩
theorem inI_range {i : Int} {n : Nat} : inI i (List.range n) = (decide (0 ≤ i) && decide (i < n)) := by
  unfold inI
  by_cases h : 0 ≤ i
  · simp only [h, decide_true, Bool.true_and]
    rw [Bool.eq_iff_iff, List.contains_iff_mem, List.mem_range, decide_eq_true_eq]; omega
  · simp [h]
theorem forE_allS {σ α : Type} {f : σ → T → M (Ex σ)} {enc : α → T} {p : α → Bool} {v : T} {x : σ} : ∀ {xs pre : List α}, (∀ y ∈ pre, p y = true) → (∀ pre' y post, pre ++ xs = pre' ++ y :: post → (∀ z ∈ pre', p z = true) → f x (enc y) = if p y = true then mret (.nx x) else mret (.rt v)) →
    forE f (xs.map enc) x = if xs.all p = true then mret (.nx x) else mret (.rt v)
  | [], pre, _, _ => rfl
  | y :: xs, pre, h, hf => by
    rw [List.map_cons]
    unfold forE
    rw [hf pre y xs rfl h, List.all_cons]
    cases e : p y
    · simp
    · simp only [if_true, bnd_mret, Bool.true_and]
      exact forE_allS (pre := pre ++ [y]) (fun z hz => by
        rcases List.mem_append.mp hz with hz | hz
        · exact h z hz
        · rw [List.mem_singleton] at hz; subst hz; exact e) (by simpa using hf)
theorem ixB_lastL {α : Type} {f : α → T} {l : List α} (d : α) (h : 0 < l.length) : ixB (.lst (l.map f)) (.int (-1)) = some (f (l.getD (l.length - 1) d)) := by
  rw [ixB_lst]
  unfold atI ixN
  rw [List.length_map, if_neg (by decide), if_pos (by omega), Option.bind_some, show ((-1 : Int) + (l.length : Int)).toNat = l.length - 1 by omega, List.getElem?_map, getD_some d (show l.length - 1 < l.length by omega)]; rfl
theorem ixB_last {α : Type} {f : α → T} {l : List α} (d : α) (h : 0 < l.length) : ixB (.tup (l.map f)) (.int (-1)) = some (f (l.getD (l.length - 1) d)) := ixB_lastL d h

def Led.step (L : Led) (c : List Nat) (l : List Int) (i : Nat) : Bool := inI (l.getD (2 * i + 1) 0) c && (decide (0 ≤ l.getD (2 * i + 2) 0) && decide (l.getD (2 * i + 2) 0 < L.n)) && (L.mk' (l.getD (2 * i + 1) 0).toNat (l.getD (2 * i) 0).toNat == L.mk' (l.getD (2 * i + 1) 0).toNat (l.getD (2 * i + 2) 0).toNat)
def Led.linkOk (L : Led) (c : List Nat) (j : Nat) (k : Int) (l : List Int) : Bool := decide (l.length % 2 = 1) && decide (l.getD 0 0 = (j : Int)) && decide (l.getD (l.length - 1) 0 = k) && (List.range (l.length / 2)).all (L.step c l)
theorem len_and (l : List Int) : decide (Builtin.bitAnd (l.length : Int) 1 = 0) = !decide (l.length % 2 = 1) := by
  rw [bitAnd_m1]
  by_cases h : l.length % 2 = 1
  · simp [h]; omega
  · simp [h]; omega
theorem rng_odd {n : Nat} (h : n % 2 = 1) (hn : n ≤ 1000000) : rng3T [.int 1, .int (n : Int), .int 2] = some ((List.range (n / 2)).map fun i : Nat => T.int ((2 * i + 1 : Nat) : Int)) := by
  have := rng3_up (i := 1) (j := n) (c := 2) (by omega) (by omega) (by omega) (by omega) (by omega) (by omega)
  rw [show (((2 : Nat) : Int)) = 2 from rfl] at this
  rw [this]
  congr 1
  unfold rngT
  rw [show (((n : Int) - 1).toNat + (2 - 1)) / 2 = n / 2 by omega]
  refine List.map_congr_left fun i _ => ?_
  congr 1
  push_cast; omega
theorem prev_ok {L : Led} {c : List Nat} {j : Nat} {l : List Int} {i : Nat} (h0 : l.getD 0 0 = (j : Int)) (hj : j < L.n) (hp : ∀ z < i, L.step c l z = true) : ∃ a : Nat, l.getD (2 * i) 0 = a ∧ a < L.n := by
  cases i with
  | zero => exact ⟨j, h0, hj⟩
  | succ i =>
    have := hp i (by omega)
    simp only [Led.step, Bool.and_eq_true, decide_eq_true_eq] at this
    refine ⟨(l.getD (2 * (i + 1)) 0).toNat, ?_, ?_⟩
    · rw [show 2 * (i + 1) = 2 * i + 2 by omega]; omega
    · rw [show 2 * (i + 1) = 2 * i + 2 by omega]; omega
theorem pre_range {n : Nat} {pre post : List Nat} {y : Nat} (e : [] ++ List.range n = pre ++ y :: post) : y = pre.length ∧ pre.length < n ∧ ∀ z < y, z ∈ pre := by
  rw [List.nil_append] at e
  obtain ⟨rfl, h⟩ := range_split e
  refine ⟨rfl, h, fun z hz => ?_⟩
  have := congrArg (fun l => l[z]?) e
  rw [List.getElem?_range (by omega), List.getElem?_append_left hz] at this
  exact List.mem_of_getElem? this.symm
theorem judge_link_eq {L : Led} {R : Nat} (ok : L.Ok R) {c : List Nat} (hc : ∀ r ∈ c, r < R) {j : Nat} (hj : j < L.n) {k : Int} {l : List Int} (hl : l.length ≤ 1000) : m_judge_link [L.t, nsT c, .int j, .int k, .tup (l.map T.int)] = mret (.bl (L.linkOk c j k l)) := by
  unfold m_judge_link
  simp only [bnd_mret, bnd_assoc', ofO_some', noex_mret, noex_bnd, runF_nx, runF_rt, runF_bnd, runF_ite, runF_bndX, bndX_nx, bndX_rt, bndX_bnd, bndX_ite, bndN_nx, un2_tup, un3_tup, un4_tup, gIt_t, gIt_f, gIt_b, dnat, ixB_dk, ixB_dz, keyT_int, keyT_str, lenT_tup, lenT_lst, lenT_dk, truT_lst, truT_tup, truT_bl, truT_int, truT_non, blT_bl, asL_lst, asK_dk, valT_lst, valT_nsT, lenT_nsT, valT_tup, tupT_lst, tupT_tup, listT_lst, listT_tup, intcT_int, intT_int, addT_int, ordT_int, cmpT_int, cmpT_bl, cmpT_str, isT_non, isT_bl, isNonT_non, isNonT_int, isNonT_tup, isNonT_bl, negT_int, intO_int, sumT_ints, sortedT_ints, Option.map_some, Option.map_none, Option.bind_some, List.length_map, List.length_range, Bool.not_not, Bool.true_xor, Bool.false_xor, Bool.xor_false, Bool.xor_true, if_true, if_false, Bool.false_eq_true, reduceIte, Bool.not_true, Bool.not_false, len_and]
  by_cases ho : l.length % 2 = 1
  · have hpos : 0 < l.length := by omega
    have i0 : ixB (.tup (l.map T.int)) (.int 0) = some (.int (l.getD 0 0)) := ixB_map0 0 hpos
    simp only [bnd_mret, bnd_assoc', ofO_some', noex_mret, noex_bnd, runF_nx, runF_rt, runF_bnd, runF_ite, runF_bndX, bnd_ite, bndX_nx, bndX_rt, bndX_bnd, bndX_ite, bndN_nx, un2_tup, un3_tup, un4_tup, gIt_t, gIt_f, gIt_b, dnat, ixB_dk, ixB_dz, keyT_int, keyT_str, lenT_tup, lenT_lst, lenT_dk, truT_lst, truT_tup, truT_bl, truT_int, truT_non, blT_bl, asL_lst, asK_dk, valT_lst, valT_nsT, lenT_nsT, valT_tup, tupT_lst, tupT_tup, listT_lst, listT_tup, intcT_int, intT_int, addT_int, ordT_int, cmpT_int, cmpT_bl, cmpT_str, isT_non, isT_bl, isNonT_non, isNonT_int, isNonT_tup, isNonT_bl, negT_int, intO_int, sumT_ints, sortedT_ints, Option.map_some, Option.map_none, Option.bind_some, List.length_map, List.length_range, Bool.not_not, Bool.true_xor, Bool.false_xor, Bool.xor_false, Bool.xor_true, if_true, if_false, Bool.false_eq_true, reduceIte, Bool.not_true, Bool.not_false, ho, decide_true, i0, ixB_last (f := T.int) 0 hpos]
    by_cases h0 : l.getD 0 0 = (j : Int)
    · by_cases h1 : l.getD (l.length - 1) 0 = k
      · simp only [h0, h1, decide_true, bnd_mret, bnd_assoc', ofO_some', noex_mret, noex_bnd, runF_nx, runF_rt, runF_bnd, runF_ite, runF_bndX, bnd_ite, bndX_nx, bndX_rt, bndX_bnd, bndX_ite, bndN_nx, un2_tup, un3_tup, un4_tup, gIt_t, gIt_f, gIt_b, dnat, ixB_dk, ixB_dz, keyT_int, keyT_str, lenT_tup, lenT_lst, lenT_dk, truT_lst, truT_tup, truT_bl, truT_int, truT_non, blT_bl, asL_lst, asK_dk, valT_lst, valT_nsT, lenT_nsT, valT_tup, tupT_lst, tupT_tup, listT_lst, listT_tup, intcT_int, intT_int, addT_int, ordT_int, cmpT_int, cmpT_bl, cmpT_str, isT_non, isT_bl, isNonT_non, isNonT_int, isNonT_tup, isNonT_bl, negT_int, intO_int, sumT_ints, sortedT_ints, Option.map_some, Option.map_none, Option.bind_some, List.length_map, List.length_range, Bool.not_not, Bool.true_xor, Bool.false_xor, Bool.xor_false, Bool.xor_true, if_true, if_false, Bool.false_eq_true, reduceIte, Bool.not_true, Bool.not_false, rng_odd ho (by omega)]
        rw [forE_allS (pre := []) (p := L.step c l) (v := .bl false) (by simp) (fun pre i post e hp => by
          obtain ⟨rfl, hlt, hz⟩ := pre_range e
          obtain ⟨a, ha, han⟩ := prev_ok h0 hj fun z hz' => hp z (hz z hz')
          generalize pre.length = i at *
          have g0 := ixB_map (f := T.int) (xs := l) (k := 2 * i) 0 (by omega)
          have g1 := ixB_map (f := T.int) (xs := l) (k := 2 * i + 1) 0 (by omega)
          have g2 := ixB_map (f := T.int) (xs := l) (k := 2 * i + 2) 0 (by omega)
          have a1 : (((2 * i + 1 : Nat) : Int) + 1) = ((2 * i + 2 : Nat) : Int) := by push_cast; omega
          have a2 : (((2 * i + 1 : Nat) : Int) - 1) = ((2 * i : Nat) : Int) := by push_cast; omega
          simp only [bnd_mret, bnd_assoc', ofO_some', noex_mret, noex_bnd, runF_nx, runF_rt, runF_bnd, runF_ite, runF_bndX, bnd_ite, bndX_nx, bndX_rt, bndX_bnd, bndX_ite, bndN_nx, un2_tup, un3_tup, un4_tup, gIt_t, gIt_f, gIt_b, dnat, ixB_dk, ixB_dz, keyT_int, keyT_str, lenT_tup, lenT_lst, lenT_dk, truT_lst, truT_tup, truT_bl, truT_int, truT_non, blT_bl, asL_lst, asK_dk, valT_lst, valT_nsT, lenT_nsT, valT_tup, tupT_lst, tupT_tup, listT_lst, listT_tup, intcT_int, intT_int, addT_int, ordT_int, cmpT_int, cmpT_bl, cmpT_str, isT_non, isT_bl, isNonT_non, isNonT_int, isNonT_tup, isNonT_bl, negT_int, intO_int, sumT_ints, sortedT_ints, Option.map_some, Option.map_none, Option.bind_some, List.length_map, List.length_range, Bool.not_not, Bool.true_xor, Bool.false_xor, Bool.xor_false, Bool.xor_true, if_true, if_false, Bool.false_eq_true, reduceIte, Bool.not_true, Bool.not_false, g1, a1, g2, a2, g0, inT_in, Led.t0, ha, Led.step]
          cases hin : inI (l.getD (2 * i + 1) 0) c with
          | false => simp
          | true =>
            obtain ⟨r, hr, hrc⟩ := inI_some hin
            have hr' := hc r hrc
            simp only [hr, bnd_mret, bnd_assoc', ofO_some', noex_mret, noex_bnd, runF_nx, runF_rt, runF_bnd, runF_ite, runF_bndX, bnd_ite, bndX_nx, bndX_rt, bndX_bnd, bndX_ite, bndN_nx, un2_tup, un3_tup, un4_tup, gIt_t, gIt_f, gIt_b, dnat, ixB_dk, ixB_dz, keyT_int, keyT_str, lenT_tup, lenT_lst, lenT_dk, truT_lst, truT_tup, truT_bl, truT_int, truT_non, blT_bl, asL_lst, asK_dk, valT_lst, valT_nsT, lenT_nsT, valT_tup, tupT_lst, tupT_tup, listT_lst, listT_tup, intcT_int, intT_int, addT_int, ordT_int, cmpT_int, cmpT_bl, cmpT_str, isT_non, isT_bl, isNonT_non, isNonT_int, isNonT_tup, isNonT_bl, negT_int, intO_int, sumT_ints, sortedT_ints, Option.map_some, Option.map_none, Option.bind_some, List.length_map, List.length_range, Bool.not_not, Bool.true_xor, Bool.false_xor, Bool.xor_false, Bool.xor_true, if_true, if_false, Bool.false_eq_true, reduceIte, Bool.not_true, Bool.not_false]
            by_cases hb0 : l.getD (2 * i + 2) 0 < 0
            · have z1 : decide (l.getD (2 * i + 2) 0 < 0) = true := decide_eq_true hb0
              have z3 : decide (0 ≤ l.getD (2 * i + 2) 0) = false := decide_eq_false (by omega)
              simp only [z1, z3, bnd_mret, bnd_assoc', ofO_some', noex_mret, noex_bnd, runF_nx, runF_rt, runF_bnd, runF_ite, runF_bndX, bnd_ite, bndX_nx, bndX_rt, bndX_bnd, bndX_ite, bndN_nx, un2_tup, un3_tup, un4_tup, gIt_t, gIt_f, gIt_b, dnat, ixB_dk, ixB_dz, keyT_int, keyT_str, lenT_tup, lenT_lst, lenT_dk, truT_lst, truT_tup, truT_bl, truT_int, truT_non, blT_bl, asL_lst, asK_dk, valT_lst, valT_nsT, lenT_nsT, valT_tup, tupT_lst, tupT_tup, listT_lst, listT_tup, intcT_int, intT_int, addT_int, ordT_int, cmpT_int, cmpT_bl, cmpT_str, isT_non, isT_bl, isNonT_non, isNonT_int, isNonT_tup, isNonT_bl, negT_int, intO_int, sumT_ints, sortedT_ints, Option.map_some, Option.map_none, Option.bind_some, List.length_map, List.length_range, Bool.not_not, Bool.true_xor, Bool.false_xor, Bool.xor_false, Bool.xor_true, if_true, if_false, Bool.false_eq_true, reduceIte, Bool.not_true, Bool.not_false, Bool.false_and, Bool.and_false]
            · by_cases hb1 : l.getD (2 * i + 2) 0 < L.n
              · obtain ⟨b, hb⟩ : ∃ b : Nat, l.getD (2 * i + 2) 0 = b := ⟨_, (Int.toNat_of_nonneg (by omega)).symm⟩
                rw [hb] at hb0 hb1 ⊢
                have hbn : b < L.n := by omega
                have z1 : decide ((b : Int) < 0) = false := by simp
                have z2 : decide ((L.fs.length : Int) ≤ (b : Int)) = false := by unfold Led.n at hbn; simp; omega
                simp only [bnd_mret, bnd_assoc', ofO_some', noex_mret, noex_bnd, runF_nx, runF_rt, runF_bnd, runF_ite, runF_bndX, bnd_ite, bndX_nx, bndX_rt, bndX_bnd, bndX_ite, bndN_nx, un2_tup, un3_tup, un4_tup, gIt_t, gIt_f, gIt_b, dnat, ixB_dk, ixB_dz, keyT_int, keyT_str, lenT_tup, lenT_lst, lenT_dk, truT_lst, truT_tup, truT_bl, truT_int, truT_non, blT_bl, asL_lst, asK_dk, valT_lst, valT_nsT, lenT_nsT, valT_tup, tupT_lst, tupT_tup, listT_lst, listT_tup, intcT_int, intT_int, addT_int, ordT_int, cmpT_int, cmpT_bl, cmpT_str, isT_non, isT_bl, isNonT_non, isNonT_int, isNonT_tup, isNonT_bl, negT_int, intO_int, sumT_ints, sortedT_ints, Option.map_some, Option.map_none, Option.bind_some, List.length_map, List.length_range, Bool.not_not, Bool.true_xor, Bool.false_xor, Bool.xor_false, Bool.xor_true, if_true, if_false, Bool.false_eq_true, reduceIte, Bool.not_true, Bool.not_false, z1, z2, Led.t2, ok.i_ms hr', ok.i_mk hr' han, ok.i_mk hr' hbn, nT, Int.toNat_natCast]
                have z3 : decide ((0 : Int) ≤ (b : Int)) = true := by simp
                have z4 : decide ((b : Int) < (L.n : Int)) = true := by simp; omega
                rw [z3, z4]
                by_cases hm : L.mk' r a = L.mk' r b <;> simp [hm]
              · have z1 : decide (l.getD (2 * i + 2) 0 < 0) = false := decide_eq_false (by omega)
                have z2 : decide ((L.fs.length : Int) ≤ l.getD (2 * i + 2) 0) = true := decide_eq_true (by unfold Led.n at hb1; omega)
                have z4 : decide (l.getD (2 * i + 2) 0 < (L.n : Int)) = false := decide_eq_false (by omega)
                simp only [bnd_mret, bnd_assoc', ofO_some', noex_mret, noex_bnd, runF_nx, runF_rt, runF_bnd, runF_ite, runF_bndX, bnd_ite, bndX_nx, bndX_rt, bndX_bnd, bndX_ite, bndN_nx, un2_tup, un3_tup, un4_tup, gIt_t, gIt_f, gIt_b, dnat, ixB_dk, ixB_dz, keyT_int, keyT_str, lenT_tup, lenT_lst, lenT_dk, truT_lst, truT_tup, truT_bl, truT_int, truT_non, blT_bl, asL_lst, asK_dk, valT_lst, valT_nsT, lenT_nsT, valT_tup, tupT_lst, tupT_tup, listT_lst, listT_tup, intcT_int, intT_int, addT_int, ordT_int, cmpT_int, cmpT_bl, cmpT_str, isT_non, isT_bl, isNonT_non, isNonT_int, isNonT_tup, isNonT_bl, negT_int, intO_int, sumT_ints, sortedT_ints, Option.map_some, Option.map_none, Option.bind_some, List.length_map, List.length_range, Bool.not_not, Bool.true_xor, Bool.false_xor, Bool.xor_false, Bool.xor_true, if_true, if_false, Bool.false_eq_true, reduceIte, Bool.not_true, Bool.not_false, z1, z2, z4, Bool.and_false, Bool.false_and])]
        unfold Led.linkOk
        rw [h0, h1, ho]
        cases (List.range (l.length / 2)).all (L.step c l) <;> simp [bnd_mret, bnd_assoc', ofO_some', noex_mret, noex_bnd, runF_nx, runF_rt, runF_bnd, runF_ite, runF_bndX, bnd_ite, bndX_nx, bndX_rt, bndX_bnd, bndX_ite, bndN_nx, un2_tup, un3_tup, un4_tup, gIt_t, gIt_f, gIt_b, dnat, ixB_dk, ixB_dz, keyT_int, keyT_str, lenT_tup, lenT_lst, lenT_dk, truT_lst, truT_tup, truT_bl, truT_int, truT_non, blT_bl, asL_lst, asK_dk, valT_lst, valT_nsT, lenT_nsT, valT_tup, tupT_lst, tupT_tup, listT_lst, listT_tup, intcT_int, intT_int, addT_int, ordT_int, cmpT_int, cmpT_bl, cmpT_str, isT_non, isT_bl, isNonT_non, isNonT_int, isNonT_tup, isNonT_bl, negT_int, intO_int, sumT_ints, sortedT_ints, Option.map_some, Option.map_none, Option.bind_some, List.length_map, List.length_range, Bool.not_not, Bool.true_xor, Bool.false_xor, Bool.xor_false, Bool.xor_true, if_true, if_false, Bool.false_eq_true, reduceIte, Bool.not_true, Bool.not_false]
      · have h1' : decide (l.getD (l.length - 1) 0 = k) = false := by simpa using h1
        simp only [Led.linkOk, h0, h1', decide_true, bnd_mret, bnd_assoc', ofO_some', noex_mret, noex_bnd, runF_nx, runF_rt, runF_bnd, runF_ite, runF_bndX, bnd_ite, bndX_nx, bndX_rt, bndX_bnd, bndX_ite, bndN_nx, un2_tup, un3_tup, un4_tup, gIt_t, gIt_f, gIt_b, dnat, ixB_dk, ixB_dz, keyT_int, keyT_str, lenT_tup, lenT_lst, lenT_dk, truT_lst, truT_tup, truT_bl, truT_int, truT_non, blT_bl, asL_lst, asK_dk, valT_lst, valT_nsT, lenT_nsT, valT_tup, tupT_lst, tupT_tup, listT_lst, listT_tup, intcT_int, intT_int, addT_int, ordT_int, cmpT_int, cmpT_bl, cmpT_str, isT_non, isT_bl, isNonT_non, isNonT_int, isNonT_tup, isNonT_bl, negT_int, intO_int, sumT_ints, sortedT_ints, Option.map_some, Option.map_none, Option.bind_some, List.length_map, List.length_range, Bool.not_not, Bool.true_xor, Bool.false_xor, Bool.xor_false, Bool.xor_true, if_true, if_false, Bool.false_eq_true, reduceIte, Bool.not_true, Bool.not_false, Bool.and_false, Bool.false_and]
    · have h0' : decide (l.getD 0 0 = (j : Int)) = false := by simpa using h0
      simp only [Led.linkOk, h0', bnd_mret, bnd_assoc', ofO_some', noex_mret, noex_bnd, runF_nx, runF_rt, runF_bnd, runF_ite, runF_bndX, bnd_ite, bndX_nx, bndX_rt, bndX_bnd, bndX_ite, bndN_nx, un2_tup, un3_tup, un4_tup, gIt_t, gIt_f, gIt_b, dnat, ixB_dk, ixB_dz, keyT_int, keyT_str, lenT_tup, lenT_lst, lenT_dk, truT_lst, truT_tup, truT_bl, truT_int, truT_non, blT_bl, asL_lst, asK_dk, valT_lst, valT_nsT, lenT_nsT, valT_tup, tupT_lst, tupT_tup, listT_lst, listT_tup, intcT_int, intT_int, addT_int, ordT_int, cmpT_int, cmpT_bl, cmpT_str, isT_non, isT_bl, isNonT_non, isNonT_int, isNonT_tup, isNonT_bl, negT_int, intO_int, sumT_ints, sortedT_ints, Option.map_some, Option.map_none, Option.bind_some, List.length_map, List.length_range, Bool.not_not, Bool.true_xor, Bool.false_xor, Bool.xor_false, Bool.xor_true, if_true, if_false, Bool.false_eq_true, reduceIte, Bool.not_true, Bool.not_false, Bool.and_false, Bool.false_and]
  · have ho' : decide (l.length % 2 = 1) = false := by simpa using ho
    simp only [Led.linkOk, ho', bnd_mret, bnd_assoc', ofO_some', noex_mret, noex_bnd, runF_nx, runF_rt, runF_bnd, runF_ite, runF_bndX, bnd_ite, bndX_nx, bndX_rt, bndX_bnd, bndX_ite, bndN_nx, un2_tup, un3_tup, un4_tup, gIt_t, gIt_f, gIt_b, dnat, ixB_dk, ixB_dz, keyT_int, keyT_str, lenT_tup, lenT_lst, lenT_dk, truT_lst, truT_tup, truT_bl, truT_int, truT_non, blT_bl, asL_lst, asK_dk, valT_lst, valT_nsT, lenT_nsT, valT_tup, tupT_lst, tupT_tup, listT_lst, listT_tup, intcT_int, intT_int, addT_int, ordT_int, cmpT_int, cmpT_bl, cmpT_str, isT_non, isT_bl, isNonT_non, isNonT_int, isNonT_tup, isNonT_bl, negT_int, intO_int, sumT_ints, sortedT_ints, Option.map_some, Option.map_none, Option.bind_some, List.length_map, List.length_range, Bool.not_not, Bool.true_xor, Bool.false_xor, Bool.xor_false, Bool.xor_true, if_true, if_false, Bool.false_eq_true, reduceIte, Bool.not_true, Bool.not_false, Bool.false_and]

theorem lrT_n {n : Nat} (h : n ≤ 1000000) : lrT (.int 0) (.int (n : Int)) = some (.lst ((List.range n).map nT)) := by
  unfold lrT
  simp only
  rw [if_pos (RgOk.of_le (by omega) (by omega) (by omega) (by omega))]
  unfold rgT
  rw [show ((n : Int) - 0).toNat = n by omega]
  congr 2
  refine List.map_congr_left fun i _ => ?_
  unfold nT; congr 1; omega
theorem link_right_eq {L : Led} {R : Nat} (ok : L.Ok R) {c : List Nat} (hc : ∀ r ∈ c, r < R) {j : Nat} (hj : j < L.n) {k : Int} {l : List Int} (hl : l.length ≤ 1000) : m__law_link_right [L.t, nsT c, .int j, .int k, .lst (l.map T.int)] = mret (.bl (L.linkOk c j k l)) := by
  unfold m__law_link_right
  have hnl := ok.nle
  simp only [bnd_mret, bnd_assoc', ofO_some', noex_mret, noex_bnd, runF_nx, runF_rt, runF_bnd, runF_ite, runF_bndX, bndX_nx, bndX_rt, bndX_bnd, bndX_ite, bndN_nx, un2_tup, un3_tup, un4_tup, gIt_t, gIt_f, gIt_b, dnat, ixB_dk, ixB_dz, keyT_int, keyT_str, lenT_tup, lenT_lst, lenT_dk, truT_lst, truT_tup, truT_bl, truT_int, truT_non, blT_bl, asL_lst, asK_dk, valT_lst, valT_nsT, lenT_nsT, valT_tup, tupT_lst, tupT_tup, listT_lst, listT_tup, intcT_int, intT_int, addT_int, ordT_int, cmpT_int, cmpT_bl, cmpT_str, isT_non, isT_bl, isNonT_non, isNonT_int, isNonT_tup, isNonT_bl, negT_int, intO_int, sumT_ints, sortedT_ints, Option.map_some, Option.map_none, Option.bind_some, List.length_map, List.length_range, Bool.not_not, Bool.true_xor, Bool.false_xor, Bool.xor_false, Bool.xor_true, if_true, if_false, Bool.false_eq_true, reduceIte, Bool.not_true, Bool.not_false, len_and, Led.t0]
  by_cases ho : l.length % 2 = 1
  · have hpos : 0 < l.length := by omega
    have i0 : ixB (.lst (l.map T.int)) (.int 0) = some (.int (l.getD 0 0)) := ixB_mapL0 0 hpos
    simp only [bnd_mret, bnd_assoc', ofO_some', noex_mret, noex_bnd, runF_nx, runF_rt, runF_bnd, runF_ite, runF_bndX, bnd_ite, bndX_nx, bndX_rt, bndX_bnd, bndX_ite, bndN_nx, un2_tup, un3_tup, un4_tup, gIt_t, gIt_f, gIt_b, dnat, ixB_dk, ixB_dz, keyT_int, keyT_str, lenT_tup, lenT_lst, lenT_dk, truT_lst, truT_tup, truT_bl, truT_int, truT_non, blT_bl, asL_lst, asK_dk, valT_lst, valT_nsT, lenT_nsT, valT_tup, tupT_lst, tupT_tup, listT_lst, listT_tup, intcT_int, intT_int, addT_int, ordT_int, cmpT_int, cmpT_bl, cmpT_str, isT_non, isT_bl, isNonT_non, isNonT_int, isNonT_tup, isNonT_bl, negT_int, intO_int, sumT_ints, sortedT_ints, Option.map_some, Option.map_none, Option.bind_some, List.length_map, List.length_range, Bool.not_not, Bool.true_xor, Bool.false_xor, Bool.xor_false, Bool.xor_true, if_true, if_false, Bool.false_eq_true, reduceIte, Bool.not_true, Bool.not_false, ho, decide_true, i0, ixB_lastL (f := T.int) 0 hpos]
    by_cases h0 : l.getD 0 0 = (j : Int)
    · by_cases h1 : l.getD (l.length - 1) 0 = k
      · simp only [h0, h1, decide_true, bnd_mret, bnd_assoc', ofO_some', noex_mret, noex_bnd, runF_nx, runF_rt, runF_bnd, runF_ite, runF_bndX, bnd_ite, bndX_nx, bndX_rt, bndX_bnd, bndX_ite, bndN_nx, un2_tup, un3_tup, un4_tup, gIt_t, gIt_f, gIt_b, dnat, ixB_dk, ixB_dz, keyT_int, keyT_str, lenT_tup, lenT_lst, lenT_dk, truT_lst, truT_tup, truT_bl, truT_int, truT_non, blT_bl, asL_lst, asK_dk, valT_lst, valT_nsT, lenT_nsT, valT_tup, tupT_lst, tupT_tup, listT_lst, listT_tup, intcT_int, intT_int, addT_int, ordT_int, cmpT_int, cmpT_bl, cmpT_str, isT_non, isT_bl, isNonT_non, isNonT_int, isNonT_tup, isNonT_bl, negT_int, intO_int, sumT_ints, sortedT_ints, Option.map_some, Option.map_none, Option.bind_some, List.length_map, List.length_range, Bool.not_not, Bool.true_xor, Bool.false_xor, Bool.xor_false, Bool.xor_true, if_true, if_false, Bool.false_eq_true, reduceIte, Bool.not_true, Bool.not_false, rng_odd ho (by omega)]
        rw [forE_allS (pre := []) (p := L.step c l) (v := .bl false) (by simp) (fun pre i post e hp => by
          obtain ⟨rfl, hlt, hz⟩ := pre_range e
          obtain ⟨a, ha, han⟩ := prev_ok h0 hj fun z hz' => hp z (hz z hz')
          generalize pre.length = i at *
          have g0 := ixB_mapL (f := T.int) (xs := l) (k := 2 * i) 0 (by omega)
          have g1 := ixB_mapL (f := T.int) (xs := l) (k := 2 * i + 1) 0 (by omega)
          have g2 := ixB_mapL (f := T.int) (xs := l) (k := 2 * i + 2) 0 (by omega)
          have a1 : (((2 * i + 1 : Nat) : Int) + 1) = ((2 * i + 2 : Nat) : Int) := by push_cast; omega
          have a2 : (((2 * i + 1 : Nat) : Int) - 1) = ((2 * i : Nat) : Int) := by push_cast; omega
          have hlr := lrT_n (n := L.fs.length) (by unfold Led.n at hnl; omega)
          simp only [bnd_mret, bnd_assoc', ofO_some', noex_mret, noex_bnd, runF_nx, runF_rt, runF_bnd, runF_ite, runF_bndX, bnd_ite, bndX_nx, bndX_rt, bndX_bnd, bndX_ite, bndN_nx, un2_tup, un3_tup, un4_tup, gIt_t, gIt_f, gIt_b, dnat, ixB_dk, ixB_dz, keyT_int, keyT_str, lenT_tup, lenT_lst, lenT_dk, truT_lst, truT_tup, truT_bl, truT_int, truT_non, blT_bl, asL_lst, asK_dk, valT_lst, valT_nsT, lenT_nsT, valT_tup, tupT_lst, tupT_tup, listT_lst, listT_tup, intcT_int, intT_int, addT_int, ordT_int, cmpT_int, cmpT_bl, cmpT_str, isT_non, isT_bl, isNonT_non, isNonT_int, isNonT_tup, isNonT_bl, negT_int, intO_int, sumT_ints, sortedT_ints, Option.map_some, Option.map_none, Option.bind_some, List.length_map, List.length_range, Bool.not_not, Bool.true_xor, Bool.false_xor, Bool.xor_false, Bool.xor_true, if_true, if_false, Bool.false_eq_true, reduceIte, Bool.not_true, Bool.not_false, g1, a1, g2, a2, g0, inT_in, inT_inl, hlr, ha, Led.step, inI_range]
          rw [show (L.fs.length : Int) = (L.n : Int) from rfl]
          cases hin : inI (l.getD (2 * i + 1) 0) c with
          | false => simp
          | true =>
            obtain ⟨r, hr, hrc⟩ := inI_some hin
            have hr' := hc r hrc
            simp only [hr, bnd_mret, bnd_assoc', ofO_some', noex_mret, noex_bnd, runF_nx, runF_rt, runF_bnd, runF_ite, runF_bndX, bnd_ite, bndX_nx, bndX_rt, bndX_bnd, bndX_ite, bndN_nx, un2_tup, un3_tup, un4_tup, gIt_t, gIt_f, gIt_b, dnat, ixB_dk, ixB_dz, keyT_int, keyT_str, lenT_tup, lenT_lst, lenT_dk, truT_lst, truT_tup, truT_bl, truT_int, truT_non, blT_bl, asL_lst, asK_dk, valT_lst, valT_nsT, lenT_nsT, valT_tup, tupT_lst, tupT_tup, listT_lst, listT_tup, intcT_int, intT_int, addT_int, ordT_int, cmpT_int, cmpT_bl, cmpT_str, isT_non, isT_bl, isNonT_non, isNonT_int, isNonT_tup, isNonT_bl, negT_int, intO_int, sumT_ints, sortedT_ints, Option.map_some, Option.map_none, Option.bind_some, List.length_map, List.length_range, Bool.not_not, Bool.true_xor, Bool.false_xor, Bool.xor_false, Bool.xor_true, if_true, if_false, Bool.false_eq_true, reduceIte, Bool.not_true, Bool.not_false]
            cases hb : (decide (0 ≤ l.getD (2 * i + 2) 0) && decide (l.getD (2 * i + 2) 0 < (L.n : Int))) with
            | false => simp
            | true =>
              rw [Bool.and_eq_true, decide_eq_true_eq, decide_eq_true_eq] at hb
              obtain ⟨b, hb'⟩ : ∃ b : Nat, l.getD (2 * i + 2) 0 = b := ⟨_, (Int.toNat_of_nonneg hb.1).symm⟩
              rw [hb'] at hb ⊢
              have hbn : b < L.n := by omega
              simp only [bnd_mret, bnd_assoc', ofO_some', noex_mret, noex_bnd, runF_nx, runF_rt, runF_bnd, runF_ite, runF_bndX, bnd_ite, bndX_nx, bndX_rt, bndX_bnd, bndX_ite, bndN_nx, un2_tup, un3_tup, un4_tup, gIt_t, gIt_f, gIt_b, dnat, ixB_dk, ixB_dz, keyT_int, keyT_str, lenT_tup, lenT_lst, lenT_dk, truT_lst, truT_tup, truT_bl, truT_int, truT_non, blT_bl, asL_lst, asK_dk, valT_lst, valT_nsT, lenT_nsT, valT_tup, tupT_lst, tupT_tup, listT_lst, listT_tup, intcT_int, intT_int, addT_int, ordT_int, cmpT_int, cmpT_bl, cmpT_str, isT_non, isT_bl, isNonT_non, isNonT_int, isNonT_tup, isNonT_bl, negT_int, intO_int, sumT_ints, sortedT_ints, Option.map_some, Option.map_none, Option.bind_some, List.length_map, List.length_range, Bool.not_not, Bool.true_xor, Bool.false_xor, Bool.xor_false, Bool.xor_true, if_true, if_false, Bool.false_eq_true, reduceIte, Bool.not_true, Bool.not_false, Led.t2, ok.i_ms hr', ok.i_mk hr' han, ok.i_mk hr' hbn, nT, Int.toNat_natCast]
              by_cases hm : L.mk' r a = L.mk' r b <;> simp [hm])]
        unfold Led.linkOk
        rw [h0, h1, ho]
        cases (List.range (l.length / 2)).all (L.step c l) <;> simp [bnd_mret, bnd_assoc', ofO_some', noex_mret, noex_bnd, runF_nx, runF_rt, runF_bnd, runF_ite, runF_bndX, bnd_ite, bndX_nx, bndX_rt, bndX_bnd, bndX_ite, bndN_nx, un2_tup, un3_tup, un4_tup, gIt_t, gIt_f, gIt_b, dnat, ixB_dk, ixB_dz, keyT_int, keyT_str, lenT_tup, lenT_lst, lenT_dk, truT_lst, truT_tup, truT_bl, truT_int, truT_non, blT_bl, asL_lst, asK_dk, valT_lst, valT_nsT, lenT_nsT, valT_tup, tupT_lst, tupT_tup, listT_lst, listT_tup, intcT_int, intT_int, addT_int, ordT_int, cmpT_int, cmpT_bl, cmpT_str, isT_non, isT_bl, isNonT_non, isNonT_int, isNonT_tup, isNonT_bl, negT_int, intO_int, sumT_ints, sortedT_ints, Option.map_some, Option.map_none, Option.bind_some, List.length_map, List.length_range, Bool.not_not, Bool.true_xor, Bool.false_xor, Bool.xor_false, Bool.xor_true, if_true, if_false, Bool.false_eq_true, reduceIte, Bool.not_true, Bool.not_false]
      · have h1' : decide (l.getD (l.length - 1) 0 = k) = false := by simpa using h1
        simp only [Led.linkOk, h0, h1', decide_true, bnd_mret, bnd_assoc', ofO_some', noex_mret, noex_bnd, runF_nx, runF_rt, runF_bnd, runF_ite, runF_bndX, bnd_ite, bndX_nx, bndX_rt, bndX_bnd, bndX_ite, bndN_nx, un2_tup, un3_tup, un4_tup, gIt_t, gIt_f, gIt_b, dnat, ixB_dk, ixB_dz, keyT_int, keyT_str, lenT_tup, lenT_lst, lenT_dk, truT_lst, truT_tup, truT_bl, truT_int, truT_non, blT_bl, asL_lst, asK_dk, valT_lst, valT_nsT, lenT_nsT, valT_tup, tupT_lst, tupT_tup, listT_lst, listT_tup, intcT_int, intT_int, addT_int, ordT_int, cmpT_int, cmpT_bl, cmpT_str, isT_non, isT_bl, isNonT_non, isNonT_int, isNonT_tup, isNonT_bl, negT_int, intO_int, sumT_ints, sortedT_ints, Option.map_some, Option.map_none, Option.bind_some, List.length_map, List.length_range, Bool.not_not, Bool.true_xor, Bool.false_xor, Bool.xor_false, Bool.xor_true, if_true, if_false, Bool.false_eq_true, reduceIte, Bool.not_true, Bool.not_false, Bool.and_false, Bool.false_and]
    · have h0' : decide (l.getD 0 0 = (j : Int)) = false := by simpa using h0
      simp only [Led.linkOk, h0', bnd_mret, bnd_assoc', ofO_some', noex_mret, noex_bnd, runF_nx, runF_rt, runF_bnd, runF_ite, runF_bndX, bnd_ite, bndX_nx, bndX_rt, bndX_bnd, bndX_ite, bndN_nx, un2_tup, un3_tup, un4_tup, gIt_t, gIt_f, gIt_b, dnat, ixB_dk, ixB_dz, keyT_int, keyT_str, lenT_tup, lenT_lst, lenT_dk, truT_lst, truT_tup, truT_bl, truT_int, truT_non, blT_bl, asL_lst, asK_dk, valT_lst, valT_nsT, lenT_nsT, valT_tup, tupT_lst, tupT_tup, listT_lst, listT_tup, intcT_int, intT_int, addT_int, ordT_int, cmpT_int, cmpT_bl, cmpT_str, isT_non, isT_bl, isNonT_non, isNonT_int, isNonT_tup, isNonT_bl, negT_int, intO_int, sumT_ints, sortedT_ints, Option.map_some, Option.map_none, Option.bind_some, List.length_map, List.length_range, Bool.not_not, Bool.true_xor, Bool.false_xor, Bool.xor_false, Bool.xor_true, if_true, if_false, Bool.false_eq_true, reduceIte, Bool.not_true, Bool.not_false, Bool.and_false, Bool.false_and]
  · have ho' : decide (l.length % 2 = 1) = false := by simpa using ho
    simp only [Led.linkOk, ho', bnd_mret, bnd_assoc', ofO_some', noex_mret, noex_bnd, runF_nx, runF_rt, runF_bnd, runF_ite, runF_bndX, bnd_ite, bndX_nx, bndX_rt, bndX_bnd, bndX_ite, bndN_nx, un2_tup, un3_tup, un4_tup, gIt_t, gIt_f, gIt_b, dnat, ixB_dk, ixB_dz, keyT_int, keyT_str, lenT_tup, lenT_lst, lenT_dk, truT_lst, truT_tup, truT_bl, truT_int, truT_non, blT_bl, asL_lst, asK_dk, valT_lst, valT_nsT, lenT_nsT, valT_tup, tupT_lst, tupT_tup, listT_lst, listT_tup, intcT_int, intT_int, addT_int, ordT_int, cmpT_int, cmpT_bl, cmpT_str, isT_non, isT_bl, isNonT_non, isNonT_int, isNonT_tup, isNonT_bl, negT_int, intO_int, sumT_ints, sortedT_ints, Option.map_some, Option.map_none, Option.bind_some, List.length_map, List.length_range, Bool.not_not, Bool.true_xor, Bool.false_xor, Bool.xor_false, Bool.xor_true, if_true, if_false, Bool.false_eq_true, reduceIte, Bool.not_true, Bool.not_false, Bool.false_and]
/-! hedges -/
def Led.hedgeOk (L : Led) (c : List Nat) (j k : Nat) (h : List Int) : Bool := h.contains (j : Int) && !h.contains (k : Int) && (h.all fun one => decide (0 ≤ one) && decide (one < L.n)) &&
  (h.all fun one => c.all fun r => (List.range L.n).all fun m => !(L.mk' r m == L.mk' r one.toNat) || h.contains (m : Int))
theorem lot1 {L : Led} {r k : Nat} : L.lot [r] k = (List.range L.n).filter fun m => L.mk' r m == L.mk' r k := by
  unfold Led.lot Led.like; simp
def Led.steps (L : Led) (c : List Nat) (k : Nat) : List (Nat × Nat) := (c.map fun r => (L.lot [r] k).map fun n => (r, n)).flatten
theorem lot_lenX {L : Led} {c : List Nat} {k : Nat} : (L.lot c k).length ≤ L.n := by
  have := List.length_filter_le (L.like c k) (List.range L.n)
  rw [List.length_range] at this
  exact this
theorem steps_eq {L : Led} {R : Nat} (ok : L.Ok R) {c : List Nat} (hc : ∀ r ∈ c, r < R) (hcl : c.length ≤ 64) {k : Nat} (hk : k < L.n) : m_steps_from [L.t, nsT c, .int k] = mret (.lst ((L.steps c k).map fun x => .tup [nT x.1, nT x.2])) := by
  unfold m_steps_from
  simp only [bnd_mret, bnd_assoc', ofO_some', noex_mret, noex_bnd, runF_nx, runF_rt, runF_bnd, runF_ite, runF_bndX, bnd_ite, bndX_nx, bndX_rt, bndX_bnd, bndX_ite, bndN_nx, un2_tup, un3_tup, un4_tup, gIt_t, gIt_f, gIt_b, dnat, ixB_dk, ixB_dz, keyT_int, keyT_str, lenT_tup, lenT_lst, lenT_dk, truT_lst, truT_tup, truT_bl, truT_int, truT_non, blT_bl, asL_lst, asK_dk, valT_lst, valT_nsT, lenT_nsT, valT_tup, tupT_lst, tupT_tup, listT_lst, listT_tup, intcT_int, intT_int, addT_int, ordT_int, cmpT_int, cmpT_bl, cmpT_str, isT_non, isT_bl, isNonT_non, isNonT_int, isNonT_tup, isNonT_bl, negT_int, intO_int, sumT_ints, sortedT_ints, Option.map_some, Option.map_none, Option.bind_some, List.length_map, List.length_range, Bool.not_not, Bool.true_xor, Bool.false_xor, Bool.xor_false, Bool.xor_true, if_true, if_false, Bool.false_eq_true, reduceIte, Bool.not_true, Bool.not_false]
  have hnl := ok.nle
  refine bnd_for (I := fun pre x => x = T.lst ((L.steps pre k).map fun x => .tup [nT x.1, nT x.2]) ∧ (L.steps pre k).length ≤ 64 * pre.length) ⟨rfl, by simp [Led.steps]⟩ (fun pre r post x e hI => ?_) (fun x hI => by rw [hI.1])
  obtain ⟨rfl, hl⟩ := hI
  have hr := hc r (by rw [e]; simp)
  have hpl : pre.length ≤ 64 := by have := congrArg List.length e; simp at this; omega
  have hlot := lot_at_eq ok (c := [r]) (by simpa using hr) (by simp) hk
  rw [show nsT [r] = T.tup [nT r] from rfl] at hlot
  have hll := lot_lenX (L := L) (c := [r]) (k := k)
  have e1 : L.steps (pre ++ [r]) k = L.steps pre k ++ (L.lot [r] k).map fun n => (r, n) := by simp [Led.steps]
  refine ⟨_, ?_, rfl, by rw [e1, List.length_append, List.length_map, List.length_append, List.length_singleton]; omega⟩
  simp only [bnd_mret, bnd_assoc', ofO_some', noex_mret, noex_bnd, runF_nx, runF_rt, runF_bnd, runF_ite, runF_bndX, bnd_ite, bndX_nx, bndX_rt, bndX_bnd, bndX_ite, bndN_nx, un2_tup, un3_tup, un4_tup, gIt_t, gIt_f, gIt_b, dnat, ixB_dk, ixB_dz, keyT_int, keyT_str, lenT_tup, lenT_lst, lenT_dk, truT_lst, truT_tup, truT_bl, truT_int, truT_non, blT_bl, asL_lst, asK_dk, valT_lst, valT_nsT, lenT_nsT, valT_tup, tupT_lst, tupT_tup, listT_lst, listT_tup, intcT_int, intT_int, addT_int, ordT_int, cmpT_int, cmpT_bl, cmpT_str, isT_non, isT_bl, isNonT_non, isNonT_int, isNonT_tup, isNonT_bl, negT_int, intO_int, sumT_ints, sortedT_ints, Option.map_some, Option.map_none, Option.bind_some, List.length_map, List.length_range, Bool.not_not, Bool.true_xor, Bool.false_xor, Bool.xor_false, Bool.xor_true, if_true, if_false, Bool.false_eq_true, reduceIte, Bool.not_true, Bool.not_false, hlot]
  rw [forE_app (o := fun n => some (T.tup [nT r, nT n])) (fun n hn acc ha => by simp only [bnd_mret, bnd_assoc', ofO_some', noex_mret, noex_bnd, runF_nx, runF_rt, runF_bnd, runF_ite, runF_bndX, bnd_ite, bndX_nx, bndX_rt, bndX_bnd, bndX_ite, bndN_nx, un2_tup, un3_tup, un4_tup, gIt_t, gIt_f, gIt_b, dnat, ixB_dk, ixB_dz, keyT_int, keyT_str, lenT_tup, lenT_lst, lenT_dk, truT_lst, truT_tup, truT_bl, truT_int, truT_non, blT_bl, asL_lst, asK_dk, valT_lst, valT_nsT, lenT_nsT, valT_tup, tupT_lst, tupT_tup, listT_lst, listT_tup, intcT_int, intT_int, addT_int, ordT_int, cmpT_int, cmpT_bl, cmpT_str, isT_non, isT_bl, isNonT_non, isNonT_int, isNonT_tup, isNonT_bl, negT_int, intO_int, sumT_ints, sortedT_ints, Option.map_some, Option.map_none, Option.bind_some, List.length_map, List.length_range, Bool.not_not, Bool.true_xor, Bool.false_xor, Bool.xor_false, Bool.xor_true, if_true, if_false, Bool.false_eq_true, reduceIte, Bool.not_true, Bool.not_false, appT_ok ha]; rfl) (by rw [List.length_map]; omega)]
  simp only [bnd_mret, bnd_assoc', ofO_some', noex_mret, noex_bnd, runF_nx, runF_rt, runF_bnd, runF_ite, runF_bndX, bnd_ite, bndX_nx, bndX_rt, bndX_bnd, bndX_ite, bndN_nx, un2_tup, un3_tup, un4_tup, gIt_t, gIt_f, gIt_b, dnat, ixB_dk, ixB_dz, keyT_int, keyT_str, lenT_tup, lenT_lst, lenT_dk, truT_lst, truT_tup, truT_bl, truT_int, truT_non, blT_bl, asL_lst, asK_dk, valT_lst, valT_nsT, lenT_nsT, valT_tup, tupT_lst, tupT_tup, listT_lst, listT_tup, intcT_int, intT_int, addT_int, ordT_int, cmpT_int, cmpT_bl, cmpT_str, isT_non, isT_bl, isNonT_non, isNonT_int, isNonT_tup, isNonT_bl, negT_int, intO_int, sumT_ints, sortedT_ints, Option.map_some, Option.map_none, Option.bind_some, List.length_map, List.length_range, Bool.not_not, Bool.true_xor, Bool.false_xor, Bool.xor_false, Bool.xor_true, if_true, if_false, Bool.false_eq_true, reduceIte, Bool.not_true, Bool.not_false]
  rw [e1, List.map_append, List.map_map]
  congr 4
  induction L.lot [r] k with
  | nil => rfl
  | cons x xs ih => simp only [List.filterMap_cons, ih, List.map_cons]; rfl
theorem steps_all {L : Led} {c : List Nat} {k : Nat} {h : List Int} : ((L.steps c k).all fun x => h.contains (x.2 : Int)) = c.all fun r => (List.range L.n).all fun m => !(L.mk' r m == L.mk' r k) || h.contains (m : Int) := by
  unfold Led.steps
  rw [List.all_flatten, List.all_map]
  congr 1
  funext r
  simp only [Function.comp, List.all_map, lot1, List.all_filter]
theorem judge_hedge_eq {L : Led} {R : Nat} (ok : L.Ok R) {c : List Nat} (hc : ∀ r ∈ c, r < R) (hcl : c.length ≤ 64) {j k : Nat} {h : List Int} : m_judge_hedge [L.t, nsT c, .int j, .int k, .tup (h.map T.int)] = mret (.bl (L.hedgeOk c j k h)) := by
  unfold m_judge_hedge
  simp only [bnd_mret, bnd_assoc', ofO_some', noex_mret, noex_bnd, runF_nx, runF_rt, runF_bnd, runF_ite, runF_bndX, bndX_nx, bndX_rt, bndX_bnd, bndX_ite, bndN_nx, un2_tup, un3_tup, un4_tup, gIt_t, gIt_f, gIt_b, dnat, ixB_dk, ixB_dz, keyT_int, keyT_str, lenT_tup, lenT_lst, lenT_dk, truT_lst, truT_tup, truT_bl, truT_int, truT_non, blT_bl, asL_lst, asK_dk, valT_lst, valT_nsT, lenT_nsT, valT_tup, tupT_lst, tupT_tup, listT_lst, listT_tup, intcT_int, intT_int, addT_int, ordT_int, cmpT_int, cmpT_bl, cmpT_str, isT_non, isT_bl, isNonT_non, isNonT_int, isNonT_tup, isNonT_bl, negT_int, intO_int, sumT_ints, sortedT_ints, Option.map_some, Option.map_none, Option.bind_some, List.length_map, List.length_range, Bool.not_not, Bool.true_xor, Bool.false_xor, Bool.xor_false, Bool.xor_true, if_true, if_false, Bool.false_eq_true, reduceIte, Bool.not_true, Bool.not_false, inT_it, Led.t0]
  rw [show (L.fs.length : Int) = (L.n : Int) from rfl]
  cases h1 : h.contains (j : Int) with
  | false => simp only [bnd_mret, bnd_assoc', ofO_some', noex_mret, noex_bnd, runF_nx, runF_rt, runF_bnd, runF_ite, runF_bndX, bnd_ite, bndX_nx, bndX_rt, bndX_bnd, bndX_ite, bndN_nx, un2_tup, un3_tup, un4_tup, gIt_t, gIt_f, gIt_b, dnat, ixB_dk, ixB_dz, keyT_int, keyT_str, lenT_tup, lenT_lst, lenT_dk, truT_lst, truT_tup, truT_bl, truT_int, truT_non, blT_bl, asL_lst, asK_dk, valT_lst, valT_nsT, lenT_nsT, valT_tup, tupT_lst, tupT_tup, listT_lst, listT_tup, intcT_int, intT_int, addT_int, ordT_int, cmpT_int, cmpT_bl, cmpT_str, isT_non, isT_bl, isNonT_non, isNonT_int, isNonT_tup, isNonT_bl, negT_int, intO_int, sumT_ints, sortedT_ints, Option.map_some, Option.map_none, Option.bind_some, List.length_map, List.length_range, Bool.not_not, Bool.true_xor, Bool.false_xor, Bool.xor_false, Bool.xor_true, if_true, if_false, Bool.false_eq_true, reduceIte, Bool.not_true, Bool.not_false, Led.hedgeOk, h1, Bool.false_and]
  | true =>
    cases h2 : h.contains (k : Int) with
    | true => simp only [bnd_mret, bnd_assoc', ofO_some', noex_mret, noex_bnd, runF_nx, runF_rt, runF_bnd, runF_ite, runF_bndX, bnd_ite, bndX_nx, bndX_rt, bndX_bnd, bndX_ite, bndN_nx, un2_tup, un3_tup, un4_tup, gIt_t, gIt_f, gIt_b, dnat, ixB_dk, ixB_dz, keyT_int, keyT_str, lenT_tup, lenT_lst, lenT_dk, truT_lst, truT_tup, truT_bl, truT_int, truT_non, blT_bl, asL_lst, asK_dk, valT_lst, valT_nsT, lenT_nsT, valT_tup, tupT_lst, tupT_tup, listT_lst, listT_tup, intcT_int, intT_int, addT_int, ordT_int, cmpT_int, cmpT_bl, cmpT_str, isT_non, isT_bl, isNonT_non, isNonT_int, isNonT_tup, isNonT_bl, negT_int, intO_int, sumT_ints, sortedT_ints, Option.map_some, Option.map_none, Option.bind_some, List.length_map, List.length_range, Bool.not_not, Bool.true_xor, Bool.false_xor, Bool.xor_false, Bool.xor_true, if_true, if_false, Bool.false_eq_true, reduceIte, Bool.not_true, Bool.not_false, Led.hedgeOk, h1, h2, Bool.true_and, Bool.false_and]
    | false =>
      simp only [bnd_mret, bnd_assoc', ofO_some', noex_mret, noex_bnd, runF_nx, runF_rt, runF_bnd, runF_ite, runF_bndX, bndX_nx, bndX_rt, bndX_bnd, bndX_ite, bndN_nx, un2_tup, un3_tup, un4_tup, gIt_t, gIt_f, gIt_b, dnat, ixB_dk, ixB_dz, keyT_int, keyT_str, lenT_tup, lenT_lst, lenT_dk, truT_lst, truT_tup, truT_bl, truT_int, truT_non, blT_bl, asL_lst, asK_dk, valT_lst, valT_nsT, lenT_nsT, valT_tup, tupT_lst, tupT_tup, listT_lst, listT_tup, intcT_int, intT_int, addT_int, ordT_int, cmpT_int, cmpT_bl, cmpT_str, isT_non, isT_bl, isNonT_non, isNonT_int, isNonT_tup, isNonT_bl, negT_int, intO_int, sumT_ints, sortedT_ints, Option.map_some, Option.map_none, Option.bind_some, List.length_map, List.length_range, Bool.not_not, Bool.true_xor, Bool.false_xor, Bool.xor_false, Bool.xor_true, if_true, if_false, Bool.false_eq_true, reduceIte, Bool.not_true, Bool.not_false]
      rw [forE_all (p := fun one : Int => decide (0 ≤ one) && decide (one < L.n)) (v := .bl false) (fun one ho => by
        simp only [bnd_mret, bnd_assoc', ofO_some', noex_mret, noex_bnd, runF_nx, runF_rt, runF_bnd, runF_ite, runF_bndX, bnd_ite, bndX_nx, bndX_rt, bndX_bnd, bndX_ite, bndN_nx, un2_tup, un3_tup, un4_tup, gIt_t, gIt_f, gIt_b, dnat, ixB_dk, ixB_dz, keyT_int, keyT_str, lenT_tup, lenT_lst, lenT_dk, truT_lst, truT_tup, truT_bl, truT_int, truT_non, blT_bl, asL_lst, asK_dk, valT_lst, valT_nsT, lenT_nsT, valT_tup, tupT_lst, tupT_tup, listT_lst, listT_tup, intcT_int, intT_int, addT_int, ordT_int, cmpT_int, cmpT_bl, cmpT_str, isT_non, isT_bl, isNonT_non, isNonT_int, isNonT_tup, isNonT_bl, negT_int, intO_int, sumT_ints, sortedT_ints, Option.map_some, Option.map_none, Option.bind_some, List.length_map, List.length_range, Bool.not_not, Bool.true_xor, Bool.false_xor, Bool.xor_false, Bool.xor_true, if_true, if_false, Bool.false_eq_true, reduceIte, Bool.not_true, Bool.not_false]
        by_cases z1 : one < 0
        · have z2 : ¬ (0 ≤ one) := by omega
          simp [z1, z2]
        · have z2 : 0 ≤ one := by omega
          by_cases z3 : one < L.n
          · have z4 : ¬ ((L.n : Int) ≤ one) := by omega
            simp [z1, z2, z3, z4]
          · have z4 : (L.n : Int) ≤ one := by omega
            simp [z1, z2, z3, z4])]
      cases h3 : h.all fun one => decide (0 ≤ one) && decide (one < L.n) with
      | false => simp only [bnd_mret, bnd_assoc', ofO_some', noex_mret, noex_bnd, runF_nx, runF_rt, runF_bnd, runF_ite, runF_bndX, bnd_ite, bndX_nx, bndX_rt, bndX_bnd, bndX_ite, bndN_nx, un2_tup, un3_tup, un4_tup, gIt_t, gIt_f, gIt_b, dnat, ixB_dk, ixB_dz, keyT_int, keyT_str, lenT_tup, lenT_lst, lenT_dk, truT_lst, truT_tup, truT_bl, truT_int, truT_non, blT_bl, asL_lst, asK_dk, valT_lst, valT_nsT, lenT_nsT, valT_tup, tupT_lst, tupT_tup, listT_lst, listT_tup, intcT_int, intT_int, addT_int, ordT_int, cmpT_int, cmpT_bl, cmpT_str, isT_non, isT_bl, isNonT_non, isNonT_int, isNonT_tup, isNonT_bl, negT_int, intO_int, sumT_ints, sortedT_ints, Option.map_some, Option.map_none, Option.bind_some, List.length_map, List.length_range, Bool.not_not, Bool.true_xor, Bool.false_xor, Bool.xor_false, Bool.xor_true, if_true, if_false, Bool.false_eq_true, reduceIte, Bool.not_true, Bool.not_false, Led.hedgeOk, h1, h2, h3, Bool.true_and, Bool.false_and]
      | true =>
        simp only [bnd_mret, bnd_assoc', ofO_some', noex_mret, noex_bnd, runF_nx, runF_rt, runF_bnd, runF_ite, runF_bndX, bndX_nx, bndX_rt, bndX_bnd, bndX_ite, bndN_nx, un2_tup, un3_tup, un4_tup, gIt_t, gIt_f, gIt_b, dnat, ixB_dk, ixB_dz, keyT_int, keyT_str, lenT_tup, lenT_lst, lenT_dk, truT_lst, truT_tup, truT_bl, truT_int, truT_non, blT_bl, asL_lst, asK_dk, valT_lst, valT_nsT, lenT_nsT, valT_tup, tupT_lst, tupT_tup, listT_lst, listT_tup, intcT_int, intT_int, addT_int, ordT_int, cmpT_int, cmpT_bl, cmpT_str, isT_non, isT_bl, isNonT_non, isNonT_int, isNonT_tup, isNonT_bl, negT_int, intO_int, sumT_ints, sortedT_ints, Option.map_some, Option.map_none, Option.bind_some, List.length_map, List.length_range, Bool.not_not, Bool.true_xor, Bool.false_xor, Bool.xor_false, Bool.xor_true, if_true, if_false, Bool.false_eq_true, reduceIte, Bool.not_true, Bool.not_false]
        rw [forE_all (p := fun one : Int => (L.steps c one.toNat).all fun x => h.contains (x.2 : Int)) (v := .bl false) (fun one ho => by
          have := List.all_eq_true.mp h3 one ho
          rw [Bool.and_eq_true, decide_eq_true_eq, decide_eq_true_eq] at this
          obtain ⟨n, rfl⟩ : ∃ n : Nat, one = n := ⟨_, (Int.toNat_of_nonneg this.1).symm⟩
          simp only [bnd_mret, bnd_assoc', ofO_some', noex_mret, noex_bnd, runF_nx, runF_rt, runF_bnd, runF_ite, runF_bndX, bnd_ite, bndX_nx, bndX_rt, bndX_bnd, bndX_ite, bndN_nx, un2_tup, un3_tup, un4_tup, gIt_t, gIt_f, gIt_b, dnat, ixB_dk, ixB_dz, keyT_int, keyT_str, lenT_tup, lenT_lst, lenT_dk, truT_lst, truT_tup, truT_bl, truT_int, truT_non, blT_bl, asL_lst, asK_dk, valT_lst, valT_nsT, lenT_nsT, valT_tup, tupT_lst, tupT_tup, listT_lst, listT_tup, intcT_int, intT_int, addT_int, ordT_int, cmpT_int, cmpT_bl, cmpT_str, isT_non, isT_bl, isNonT_non, isNonT_int, isNonT_tup, isNonT_bl, negT_int, intO_int, sumT_ints, sortedT_ints, Option.map_some, Option.map_none, Option.bind_some, List.length_map, List.length_range, Bool.not_not, Bool.true_xor, Bool.false_xor, Bool.xor_false, Bool.xor_true, if_true, if_false, Bool.false_eq_true, reduceIte, Bool.not_true, Bool.not_false, steps_eq ok hc hcl (show n < L.n by omega), Int.toNat_natCast]
          rw [forE_all (p := fun x : Nat × Nat => h.contains (x.2 : Int)) (v := .bl false) (fun x hx => by
            simp only [bnd_mret, bnd_assoc', ofO_some', noex_mret, noex_bnd, runF_nx, runF_rt, runF_bnd, runF_ite, runF_bndX, bnd_ite, bndX_nx, bndX_rt, bndX_bnd, bndX_ite, bndN_nx, un2_tup, un3_tup, un4_tup, gIt_t, gIt_f, gIt_b, dnat, ixB_dk, ixB_dz, keyT_int, keyT_str, lenT_tup, lenT_lst, lenT_dk, truT_lst, truT_tup, truT_bl, truT_int, truT_non, blT_bl, asL_lst, asK_dk, valT_lst, valT_nsT, lenT_nsT, valT_tup, tupT_lst, tupT_tup, listT_lst, listT_tup, intcT_int, intT_int, addT_int, ordT_int, cmpT_int, cmpT_bl, cmpT_str, isT_non, isT_bl, isNonT_non, isNonT_int, isNonT_tup, isNonT_bl, negT_int, intO_int, sumT_ints, sortedT_ints, Option.map_some, Option.map_none, Option.bind_some, List.length_map, List.length_range, Bool.not_not, Bool.true_xor, Bool.false_xor, Bool.xor_false, Bool.xor_true, if_true, if_false, Bool.false_eq_true, reduceIte, Bool.not_true, Bool.not_false, nT, inT_it]
            cases h.contains (x.2 : Int) <;> rfl)]
          by_cases z : ((L.steps c n).all fun x => h.contains (x.2 : Int)) = true
          · rw [if_pos z]; rfl
          · rw [if_neg z]; rfl)]
        simp only [steps_all]
        cases h4 : h.all fun one => c.all fun r => (List.range L.n).all fun m => !(L.mk' r m == L.mk' r one.toNat) || h.contains (m : Int) <;>
          simp only [bnd_mret, bnd_assoc', ofO_some', noex_mret, noex_bnd, runF_nx, runF_rt, runF_bnd, runF_ite, runF_bndX, bnd_ite, bndX_nx, bndX_rt, bndX_bnd, bndX_ite, bndN_nx, un2_tup, un3_tup, un4_tup, gIt_t, gIt_f, gIt_b, dnat, ixB_dk, ixB_dz, keyT_int, keyT_str, lenT_tup, lenT_lst, lenT_dk, truT_lst, truT_tup, truT_bl, truT_int, truT_non, blT_bl, asL_lst, asK_dk, valT_lst, valT_nsT, lenT_nsT, valT_tup, tupT_lst, tupT_tup, listT_lst, listT_tup, intcT_int, intT_int, addT_int, ordT_int, cmpT_int, cmpT_bl, cmpT_str, isT_non, isT_bl, isNonT_non, isNonT_int, isNonT_tup, isNonT_bl, negT_int, intO_int, sumT_ints, sortedT_ints, Option.map_some, Option.map_none, Option.bind_some, List.length_map, List.length_range, Bool.not_not, Bool.true_xor, Bool.false_xor, Bool.xor_false, Bool.xor_true, if_true, if_false, Bool.false_eq_true, reduceIte, Bool.not_true, Bool.not_false, Led.hedgeOk, h1, h2, h3, h4, Bool.true_and, Bool.and_true, Bool.and_false]
theorem hedge_right_eq {L : Led} {R : Nat} (ok : L.Ok R) {c : List Nat} (hc : ∀ r ∈ c, r < R) {j k : Nat} {h : List Int} (hh : h.length ≤ 1000) : m__law_hedge_right [L.t, nsT c, .int j, .int k, .lst (h.map T.int)] = mret (.bl (L.hedgeOk c j k h)) := by
  unfold m__law_hedge_right
  have hnl := ok.nle
  simp only [bnd_mret, bnd_assoc', ofO_some', noex_mret, noex_bnd, runF_nx, runF_rt, runF_bnd, runF_ite, runF_bndX, bndX_nx, bndX_rt, bndX_bnd, bndX_ite, bndN_nx, un2_tup, un3_tup, un4_tup, gIt_t, gIt_f, gIt_b, dnat, ixB_dk, ixB_dz, keyT_int, keyT_str, lenT_tup, lenT_lst, lenT_dk, truT_lst, truT_tup, truT_bl, truT_int, truT_non, blT_bl, asL_lst, asK_dk, valT_lst, valT_nsT, lenT_nsT, valT_tup, tupT_lst, tupT_tup, listT_lst, listT_tup, intcT_int, intT_int, addT_int, ordT_int, cmpT_int, cmpT_bl, cmpT_str, isT_non, isT_bl, isNonT_non, isNonT_int, isNonT_tup, isNonT_bl, negT_int, intO_int, sumT_ints, sortedT_ints, Option.map_some, Option.map_none, Option.bind_some, List.length_map, List.length_range, Bool.not_not, Bool.true_xor, Bool.false_xor, Bool.xor_false, Bool.xor_true, if_true, if_false, Bool.false_eq_true, reduceIte, Bool.not_true, Bool.not_false, inT_il, Led.t0]
  rw [show (L.fs.length : Int) = (L.n : Int) from rfl]
  cases h1 : h.contains (j : Int) with
  | false => simp only [bnd_mret, bnd_assoc', ofO_some', noex_mret, noex_bnd, runF_nx, runF_rt, runF_bnd, runF_ite, runF_bndX, bnd_ite, bndX_nx, bndX_rt, bndX_bnd, bndX_ite, bndN_nx, un2_tup, un3_tup, un4_tup, gIt_t, gIt_f, gIt_b, dnat, ixB_dk, ixB_dz, keyT_int, keyT_str, lenT_tup, lenT_lst, lenT_dk, truT_lst, truT_tup, truT_bl, truT_int, truT_non, blT_bl, asL_lst, asK_dk, valT_lst, valT_nsT, lenT_nsT, valT_tup, tupT_lst, tupT_tup, listT_lst, listT_tup, intcT_int, intT_int, addT_int, ordT_int, cmpT_int, cmpT_bl, cmpT_str, isT_non, isT_bl, isNonT_non, isNonT_int, isNonT_tup, isNonT_bl, negT_int, intO_int, sumT_ints, sortedT_ints, Option.map_some, Option.map_none, Option.bind_some, List.length_map, List.length_range, Bool.not_not, Bool.true_xor, Bool.false_xor, Bool.xor_false, Bool.xor_true, if_true, if_false, Bool.false_eq_true, reduceIte, Bool.not_true, Bool.not_false, Led.hedgeOk, h1, Bool.false_and]
  | true =>
    cases h2 : h.contains (k : Int) with
    | true => simp only [bnd_mret, bnd_assoc', ofO_some', noex_mret, noex_bnd, runF_nx, runF_rt, runF_bnd, runF_ite, runF_bndX, bnd_ite, bndX_nx, bndX_rt, bndX_bnd, bndX_ite, bndN_nx, un2_tup, un3_tup, un4_tup, gIt_t, gIt_f, gIt_b, dnat, ixB_dk, ixB_dz, keyT_int, keyT_str, lenT_tup, lenT_lst, lenT_dk, truT_lst, truT_tup, truT_bl, truT_int, truT_non, blT_bl, asL_lst, asK_dk, valT_lst, valT_nsT, lenT_nsT, valT_tup, tupT_lst, tupT_tup, listT_lst, listT_tup, intcT_int, intT_int, addT_int, ordT_int, cmpT_int, cmpT_bl, cmpT_str, isT_non, isT_bl, isNonT_non, isNonT_int, isNonT_tup, isNonT_bl, negT_int, intO_int, sumT_ints, sortedT_ints, Option.map_some, Option.map_none, Option.bind_some, List.length_map, List.length_range, Bool.not_not, Bool.true_xor, Bool.false_xor, Bool.xor_false, Bool.xor_true, if_true, if_false, Bool.false_eq_true, reduceIte, Bool.not_true, Bool.not_false, Led.hedgeOk, h1, h2, Bool.true_and, Bool.false_and]
    | false =>
      simp only [bnd_mret, bnd_assoc', ofO_some', noex_mret, noex_bnd, runF_nx, runF_rt, runF_bnd, runF_ite, runF_bndX, bndX_nx, bndX_rt, bndX_bnd, bndX_ite, bndN_nx, un2_tup, un3_tup, un4_tup, gIt_t, gIt_f, gIt_b, dnat, ixB_dk, ixB_dz, keyT_int, keyT_str, lenT_tup, lenT_lst, lenT_dk, truT_lst, truT_tup, truT_bl, truT_int, truT_non, blT_bl, asL_lst, asK_dk, valT_lst, valT_nsT, lenT_nsT, valT_tup, tupT_lst, tupT_tup, listT_lst, listT_tup, intcT_int, intT_int, addT_int, ordT_int, cmpT_int, cmpT_bl, cmpT_str, isT_non, isT_bl, isNonT_non, isNonT_int, isNonT_tup, isNonT_bl, negT_int, intO_int, sumT_ints, sortedT_ints, Option.map_some, Option.map_none, Option.bind_some, List.length_map, List.length_range, Bool.not_not, Bool.true_xor, Bool.false_xor, Bool.xor_false, Bool.xor_true, if_true, if_false, Bool.false_eq_true, reduceIte, Bool.not_true, Bool.not_false]
      rw [lcM_flt (p := fun one : Int => !(decide (0 ≤ one) && decide (one < L.n))) (h := T.int) (fun one ho => by simp only [bnd_mret, bnd_assoc', ofO_some', noex_mret, noex_bnd, runF_nx, runF_rt, runF_bnd, runF_ite, runF_bndX, bnd_ite, bndX_nx, bndX_rt, bndX_bnd, bndX_ite, bndN_nx, un2_tup, un3_tup, un4_tup, gIt_t, gIt_f, gIt_b, dnat, ixB_dk, ixB_dz, keyT_int, keyT_str, lenT_tup, lenT_lst, lenT_dk, truT_lst, truT_tup, truT_bl, truT_int, truT_non, blT_bl, asL_lst, asK_dk, valT_lst, valT_nsT, lenT_nsT, valT_tup, tupT_lst, tupT_tup, listT_lst, listT_tup, intcT_int, intT_int, addT_int, ordT_int, cmpT_int, cmpT_bl, cmpT_str, isT_non, isT_bl, isNonT_non, isNonT_int, isNonT_tup, isNonT_bl, negT_int, intO_int, sumT_ints, sortedT_ints, Option.map_some, Option.map_none, Option.bind_some, List.length_map, List.length_range, Bool.not_not, Bool.true_xor, Bool.false_xor, Bool.xor_false, Bool.xor_true, if_true, if_false, Bool.false_eq_true, reduceIte, Bool.not_true, Bool.not_false, lrT_n (n := L.n) (by omega), inT_inl, inI_range]) (by omega)]
      have e3 : ((h.filter fun one : Int => !(decide (0 ≤ one) && decide (one < L.n))).map T.int).isEmpty = h.all fun one => decide (0 ≤ one) && decide (one < L.n) := by
        rw [map_nT_isEmpty, isEmpty_filter]; simp only [Bool.not_not]
      simp only [bnd_mret, bnd_assoc', ofO_some', noex_mret, noex_bnd, runF_nx, runF_rt, runF_bnd, runF_ite, runF_bndX, bndX_nx, bndX_rt, bndX_bnd, bndX_ite, bndN_nx, un2_tup, un3_tup, un4_tup, gIt_t, gIt_f, gIt_b, dnat, ixB_dk, ixB_dz, keyT_int, keyT_str, lenT_tup, lenT_lst, lenT_dk, truT_lst, truT_tup, truT_bl, truT_int, truT_non, blT_bl, asL_lst, asK_dk, valT_lst, valT_nsT, lenT_nsT, valT_tup, tupT_lst, tupT_tup, listT_lst, listT_tup, intcT_int, intT_int, addT_int, ordT_int, cmpT_int, cmpT_bl, cmpT_str, isT_non, isT_bl, isNonT_non, isNonT_int, isNonT_tup, isNonT_bl, negT_int, intO_int, sumT_ints, sortedT_ints, Option.map_some, Option.map_none, Option.bind_some, List.length_map, List.length_range, Bool.not_not, Bool.true_xor, Bool.false_xor, Bool.xor_false, Bool.xor_true, if_true, if_false, Bool.false_eq_true, reduceIte, Bool.not_true, Bool.not_false, e3]
      cases h3 : h.all fun one => decide (0 ≤ one) && decide (one < L.n) with
      | false => simp only [bnd_mret, bnd_assoc', ofO_some', noex_mret, noex_bnd, runF_nx, runF_rt, runF_bnd, runF_ite, runF_bndX, bnd_ite, bndX_nx, bndX_rt, bndX_bnd, bndX_ite, bndN_nx, un2_tup, un3_tup, un4_tup, gIt_t, gIt_f, gIt_b, dnat, ixB_dk, ixB_dz, keyT_int, keyT_str, lenT_tup, lenT_lst, lenT_dk, truT_lst, truT_tup, truT_bl, truT_int, truT_non, blT_bl, asL_lst, asK_dk, valT_lst, valT_nsT, lenT_nsT, valT_tup, tupT_lst, tupT_tup, listT_lst, listT_tup, intcT_int, intT_int, addT_int, ordT_int, cmpT_int, cmpT_bl, cmpT_str, isT_non, isT_bl, isNonT_non, isNonT_int, isNonT_tup, isNonT_bl, negT_int, intO_int, sumT_ints, sortedT_ints, Option.map_some, Option.map_none, Option.bind_some, List.length_map, List.length_range, Bool.not_not, Bool.true_xor, Bool.false_xor, Bool.xor_false, Bool.xor_true, if_true, if_false, Bool.false_eq_true, reduceIte, Bool.not_true, Bool.not_false, Led.hedgeOk, h1, h2, h3, Bool.true_and, Bool.false_and]
      | true =>
        simp only [bnd_mret, bnd_assoc', ofO_some', noex_mret, noex_bnd, runF_nx, runF_rt, runF_bnd, runF_ite, runF_bndX, bndX_nx, bndX_rt, bndX_bnd, bndX_ite, bndN_nx, un2_tup, un3_tup, un4_tup, gIt_t, gIt_f, gIt_b, dnat, ixB_dk, ixB_dz, keyT_int, keyT_str, lenT_tup, lenT_lst, lenT_dk, truT_lst, truT_tup, truT_bl, truT_int, truT_non, blT_bl, asL_lst, asK_dk, valT_lst, valT_nsT, lenT_nsT, valT_tup, tupT_lst, tupT_tup, listT_lst, listT_tup, intcT_int, intT_int, addT_int, ordT_int, cmpT_int, cmpT_bl, cmpT_str, isT_non, isT_bl, isNonT_non, isNonT_int, isNonT_tup, isNonT_bl, negT_int, intO_int, sumT_ints, sortedT_ints, Option.map_some, Option.map_none, Option.bind_some, List.length_map, List.length_range, Bool.not_not, Bool.true_xor, Bool.false_xor, Bool.xor_false, Bool.xor_true, if_true, if_false, Bool.false_eq_true, reduceIte, Bool.not_true, Bool.not_false]
        rw [forE_all (p := fun one : Int => c.all fun r => (List.range L.n).all fun m => !(L.mk' r m == L.mk' r one.toNat) || h.contains (m : Int)) (v := .bl false) (fun one ho => by
          have := List.all_eq_true.mp h3 one ho
          rw [Bool.and_eq_true, decide_eq_true_eq, decide_eq_true_eq] at this
          obtain ⟨n, rfl⟩ : ∃ n : Nat, one = n := ⟨_, (Int.toNat_of_nonneg this.1).symm⟩
          have hn : n < L.n := by omega
          simp only [bnd_mret, bnd_assoc', ofO_some', noex_mret, noex_bnd, runF_nx, runF_rt, runF_bnd, runF_ite, runF_bndX, bnd_ite, bndX_nx, bndX_rt, bndX_bnd, bndX_ite, bndN_nx, un2_tup, un3_tup, un4_tup, gIt_t, gIt_f, gIt_b, dnat, ixB_dk, ixB_dz, keyT_int, keyT_str, lenT_tup, lenT_lst, lenT_dk, truT_lst, truT_tup, truT_bl, truT_int, truT_non, blT_bl, asL_lst, asK_dk, valT_lst, valT_nsT, lenT_nsT, valT_tup, tupT_lst, tupT_tup, listT_lst, listT_tup, intcT_int, intT_int, addT_int, ordT_int, cmpT_int, cmpT_bl, cmpT_str, isT_non, isT_bl, isNonT_non, isNonT_int, isNonT_tup, isNonT_bl, negT_int, intO_int, sumT_ints, sortedT_ints, Option.map_some, Option.map_none, Option.bind_some, List.length_map, List.length_range, Bool.not_not, Bool.true_xor, Bool.false_xor, Bool.xor_false, Bool.xor_true, if_true, if_false, Bool.false_eq_true, reduceIte, Bool.not_true, Bool.not_false, Int.toNat_natCast]
          rw [forE_all (p := fun r : Nat => (List.range L.n).all fun m => !(L.mk' r m == L.mk' r n) || h.contains (m : Int)) (v := .bl false) (fun r hr => by
            have hr := hc r hr
            simp only [bnd_mret, bnd_assoc', ofO_some', noex_mret, noex_bnd, runF_nx, runF_rt, runF_bnd, runF_ite, runF_bndX, bnd_ite, bndX_nx, bndX_rt, bndX_bnd, bndX_ite, bndN_nx, un2_tup, un3_tup, un4_tup, gIt_t, gIt_f, gIt_b, dnat, ixB_dk, ixB_dz, keyT_int, keyT_str, lenT_tup, lenT_lst, lenT_dk, truT_lst, truT_tup, truT_bl, truT_int, truT_non, blT_bl, asL_lst, asK_dk, valT_lst, valT_nsT, lenT_nsT, valT_tup, tupT_lst, tupT_tup, listT_lst, listT_tup, intcT_int, intT_int, addT_int, ordT_int, cmpT_int, cmpT_bl, cmpT_str, isT_non, isT_bl, isNonT_non, isNonT_int, isNonT_tup, isNonT_bl, negT_int, intO_int, sumT_ints, sortedT_ints, Option.map_some, Option.map_none, Option.bind_some, List.length_map, List.length_range, Bool.not_not, Bool.true_xor, Bool.false_xor, Bool.xor_false, Bool.xor_true, if_true, if_false, Bool.false_eq_true, reduceIte, Bool.not_true, Bool.not_false, rng1_ok (show L.n < 2 ^ 62 by omega)]
            rw [lcM_flt (p := fun m : Nat => (L.mk' r m == L.mk' r n) && !h.contains (m : Int)) (h := nT) (fun m hm => by
              have hm : m < L.n := by simpa using hm
              simp only [bnd_mret, bnd_assoc', ofO_some', noex_mret, noex_bnd, runF_nx, runF_rt, runF_bnd, runF_ite, runF_bndX, bnd_ite, bndX_nx, bndX_rt, bndX_bnd, bndX_ite, bndN_nx, un2_tup, un3_tup, un4_tup, gIt_t, gIt_f, gIt_b, dnat, ixB_dk, ixB_dz, keyT_int, keyT_str, lenT_tup, lenT_lst, lenT_dk, truT_lst, truT_tup, truT_bl, truT_int, truT_non, blT_bl, asL_lst, asK_dk, valT_lst, valT_nsT, lenT_nsT, valT_tup, tupT_lst, tupT_tup, listT_lst, listT_tup, intcT_int, intT_int, addT_int, ordT_int, cmpT_int, cmpT_bl, cmpT_str, isT_non, isT_bl, isNonT_non, isNonT_int, isNonT_tup, isNonT_bl, negT_int, intO_int, sumT_ints, sortedT_ints, Option.map_some, Option.map_none, Option.bind_some, List.length_map, List.length_range, Bool.not_not, Bool.true_xor, Bool.false_xor, Bool.xor_false, Bool.xor_true, if_true, if_false, Bool.false_eq_true, reduceIte, Bool.not_true, Bool.not_false, Led.t2, nT, ok.i_ms hr, ok.i_mk hr hn, ok.i_mk hr hm, inT_il]
              by_cases z : L.mk' r m = L.mk' r n <;> simp [z, bnd_mret, bnd_assoc', ofO_some', noex_mret, noex_bnd, runF_nx, runF_rt, runF_bnd, runF_ite, runF_bndX, bnd_ite, bndX_nx, bndX_rt, bndX_bnd, bndX_ite, bndN_nx, un2_tup, un3_tup, un4_tup, gIt_t, gIt_f, gIt_b, dnat, ixB_dk, ixB_dz, keyT_int, keyT_str, lenT_tup, lenT_lst, lenT_dk, truT_lst, truT_tup, truT_bl, truT_int, truT_non, blT_bl, asL_lst, asK_dk, valT_lst, valT_nsT, lenT_nsT, valT_tup, tupT_lst, tupT_tup, listT_lst, listT_tup, intcT_int, intT_int, addT_int, ordT_int, cmpT_int, cmpT_bl, cmpT_str, isT_non, isT_bl, isNonT_non, isNonT_int, isNonT_tup, isNonT_bl, negT_int, intO_int, sumT_ints, sortedT_ints, Option.map_some, Option.map_none, Option.bind_some, List.length_map, List.length_range, Bool.not_not, Bool.true_xor, Bool.false_xor, Bool.xor_false, Bool.xor_true, if_true, if_false, Bool.false_eq_true, reduceIte, Bool.not_true, Bool.not_false]) (by simp; omega)]
            have e4 : (((List.range L.n).filter fun m : Nat => (L.mk' r m == L.mk' r n) && !h.contains (m : Int)).map nT).isEmpty = (List.range L.n).all fun m => !(L.mk' r m == L.mk' r n) || h.contains (m : Int) := by
              rw [map_nT_isEmpty, isEmpty_filter]; simp only [Bool.not_and, Bool.not_not]
            simp only [bnd_mret, bnd_assoc', ofO_some', noex_mret, noex_bnd, runF_nx, runF_rt, runF_bnd, runF_ite, runF_bndX, bnd_ite, bndX_nx, bndX_rt, bndX_bnd, bndX_ite, bndN_nx, un2_tup, un3_tup, un4_tup, gIt_t, gIt_f, gIt_b, dnat, ixB_dk, ixB_dz, keyT_int, keyT_str, lenT_tup, lenT_lst, lenT_dk, truT_lst, truT_tup, truT_bl, truT_int, truT_non, blT_bl, asL_lst, asK_dk, valT_lst, valT_nsT, lenT_nsT, valT_tup, tupT_lst, tupT_tup, listT_lst, listT_tup, intcT_int, intT_int, addT_int, ordT_int, cmpT_int, cmpT_bl, cmpT_str, isT_non, isT_bl, isNonT_non, isNonT_int, isNonT_tup, isNonT_bl, negT_int, intO_int, sumT_ints, sortedT_ints, Option.map_some, Option.map_none, Option.bind_some, List.length_map, List.length_range, Bool.not_not, Bool.true_xor, Bool.false_xor, Bool.xor_false, Bool.xor_true, if_true, if_false, Bool.false_eq_true, reduceIte, Bool.not_true, Bool.not_false, e4]
            cases (List.range L.n).all fun m => !(L.mk' r m == L.mk' r n) || h.contains (m : Int) <;> rfl)]
          by_cases z : (c.all fun r => (List.range L.n).all fun m => !(L.mk' r m == L.mk' r n) || h.contains (m : Int)) = true
          · rw [if_pos z]; rfl
          · rw [if_neg z]; rfl)]
        cases h4 : h.all fun one => c.all fun r => (List.range L.n).all fun m => !(L.mk' r m == L.mk' r one.toNat) || h.contains (m : Int) <;>
          simp only [bnd_mret, bnd_assoc', ofO_some', noex_mret, noex_bnd, runF_nx, runF_rt, runF_bnd, runF_ite, runF_bndX, bnd_ite, bndX_nx, bndX_rt, bndX_bnd, bndX_ite, bndN_nx, un2_tup, un3_tup, un4_tup, gIt_t, gIt_f, gIt_b, dnat, ixB_dk, ixB_dz, keyT_int, keyT_str, lenT_tup, lenT_lst, lenT_dk, truT_lst, truT_tup, truT_bl, truT_int, truT_non, blT_bl, asL_lst, asK_dk, valT_lst, valT_nsT, lenT_nsT, valT_tup, tupT_lst, tupT_tup, listT_lst, listT_tup, intcT_int, intT_int, addT_int, ordT_int, cmpT_int, cmpT_bl, cmpT_str, isT_non, isT_bl, isNonT_non, isNonT_int, isNonT_tup, isNonT_bl, negT_int, intO_int, sumT_ints, sortedT_ints, Option.map_some, Option.map_none, Option.bind_some, List.length_map, List.length_range, Bool.not_not, Bool.true_xor, Bool.false_xor, Bool.xor_false, Bool.xor_true, if_true, if_false, Bool.false_eq_true, reduceIte, Bool.not_true, Bool.not_false, Led.hedgeOk, h1, h2, h3, h4, Bool.true_and, Bool.and_true, Bool.and_false]

theorem wp_imp {α : Type} {m : M α} {s : Drw} {Q Q' : α → Drw → Prop} (h : wp m s Q) (k : ∀ a s', Q a s' → Q' a s') : wp m s Q' := by
  unfold wp at *
  cases e : m s with
  | ok a s' => rw [e] at h; exact k a s' h
  | ex a s' => rw [e] at h; exact h
  | no => rw [e] at h; exact h
theorem wp_wh {τ : Type} {c : τ → M Bool} {f : τ → M (Ex τ)} {I : Nat → τ → Drw → Prop} {Q : Ex τ → Drw → Prop} (step : ∀ m x s, I m x s → wp (c x) s fun b s' => if b = true then wp (f x) s' (fun r s'' => match r with | .nx x' => ∃ m', m' < m ∧ I m' x' s'' | .bk x' => Q (.nx x') s'' | .rt v => Q (.rt v) s'') else Q (.nx x) s') :
    ∀ {n m : Nat} {x : τ} {s : Drw}, m < n → I m x s → wp (whE c f n x) s Q
  | 0, m, x, s, hn, _ => by omega
  | n + 1, m, x, s, hn, h0 => by
    unfold whE
    refine wp_bnd (wp_imp (step m x s h0) fun b s' hb => ?_)
    cases b with
    | false => simp only [Bool.false_eq_true, if_false] at hb ⊢; exact wp_ret hb
    | true =>
      simp only [if_true] at hb ⊢
      refine wp_bnd (wp_imp hb fun r s'' hr => ?_)
      cases r with
      | nx x' => obtain ⟨m', hm, hI⟩ := hr; exact wp_wh step (by omega) hI
      | bk x' => exact wp_ret hr
      | rt v => exact wp_ret hr
theorem popAT_ints {l : List Int} {v : Nat} (hv : v < l.length) (hl : l.length ≤ 1000000) : popAT (.lst (l.map T.int)) (.int (v : Int)) = some (.lst ((l.eraseIdx v).map T.int), .int (l.getD v 0)) := by
  unfold popAT
  simp only
  have e0 : ixN (l.map T.int).length (v : Int) = some v := by
    unfold ixN; rw [List.length_map, if_pos (by omega), if_pos (by omega)]; simp
  have e := (L2.ixN_seq e0).1
  rw [if_pos (show sm62 (v : Int) from ⟨by omega, by omega⟩), e, Option.bind_some, List.getElem?_map, getD_some 0 hv]
  simp only [Option.map_some, List.eraseIdx_eq_take_drop_succ, List.map_append, List.map_take, List.map_drop]
theorem wp_shuffled {xs : List Int} {s : Drw} {Q : T → Drw → Prop} (hl : xs.length ≤ 900000) (h : ∀ (ys : List Int) s', ys.length = xs.length → Q (.lst (ys.map T.int)) s') : wp (m__law_shuffled [.tok, .lst (xs.map T.int)]) s Q := by
  unfold m__law_shuffled
  simp only [bnd_mret, bnd_assoc', ofO_some', noex_mret, noex_bnd, runF_nx, runF_rt, runF_bnd, runF_ite, runF_bndX, bndX_nx, bndX_rt, bndX_bnd, bndX_ite, bndN_nx, un2_tup, un3_tup, un4_tup, gIt_t, gIt_f, gIt_b, dnat, ixB_dk, ixB_dz, keyT_int, keyT_str, lenT_tup, lenT_lst, lenT_dk, truT_lst, truT_tup, truT_bl, truT_int, truT_non, blT_bl, asL_lst, asK_dk, valT_lst, valT_nsT, lenT_nsT, valT_tup, tupT_lst, tupT_tup, listT_lst, listT_tup, intcT_int, intT_int, addT_int, ordT_int, cmpT_int, cmpT_bl, cmpT_str, isT_non, isT_bl, isNonT_non, isNonT_int, isNonT_tup, isNonT_bl, negT_int, intO_int, sumT_ints, sortedT_ints, Option.map_some, Option.map_none, Option.bind_some, List.length_map, List.length_range, Bool.not_not, Bool.true_xor, Bool.false_xor, Bool.xor_false, Bool.xor_true, if_true, if_false, Bool.false_eq_true, reduceIte, Bool.not_true, Bool.not_false]
  refine wp_bnd (wp_wh (I := fun m x _ => ∃ l g : List Int, x = (T.lst (l.map T.int), T.lst (g.map T.int)) ∧ l.length + g.length = xs.length ∧ m = l.length) (fun m x s hI => ?_) (m := xs.length) (by unfold fuel; omega) ⟨xs, [], rfl, by simp, rfl⟩)
  obtain ⟨l, g, rfl, hlg, rfl⟩ := hI
  simp only [bnd_mret, bnd_assoc', ofO_some', noex_mret, noex_bnd, runF_nx, runF_rt, runF_bnd, runF_ite, runF_bndX, bndX_nx, bndX_rt, bndX_bnd, bndX_ite, bndN_nx, un2_tup, un3_tup, un4_tup, gIt_t, gIt_f, gIt_b, dnat, ixB_dk, ixB_dz, keyT_int, keyT_str, lenT_tup, lenT_lst, lenT_dk, truT_lst, truT_tup, truT_bl, truT_int, truT_non, blT_bl, asL_lst, asK_dk, valT_lst, valT_nsT, lenT_nsT, valT_tup, tupT_lst, tupT_tup, listT_lst, listT_tup, intcT_int, intT_int, addT_int, ordT_int, cmpT_int, cmpT_bl, cmpT_str, isT_non, isT_bl, isNonT_non, isNonT_int, isNonT_tup, isNonT_bl, negT_int, intO_int, sumT_ints, sortedT_ints, Option.map_some, Option.map_none, Option.bind_some, List.length_map, List.length_range, Bool.not_not, Bool.true_xor, Bool.false_xor, Bool.xor_false, Bool.xor_true, if_true, if_false, Bool.false_eq_true, reduceIte, Bool.not_true, Bool.not_false]
  cases l with
  | nil =>
    refine wp_ret ?_
    simp only [List.map_nil, List.isEmpty_nil, bnd_mret, bnd_assoc', ofO_some', noex_mret, noex_bnd, runF_nx, runF_rt, runF_bnd, runF_ite, runF_bndX, bnd_ite, bndX_nx, bndX_rt, bndX_bnd, bndX_ite, bndN_nx, un2_tup, un3_tup, un4_tup, gIt_t, gIt_f, gIt_b, dnat, ixB_dk, ixB_dz, keyT_int, keyT_str, lenT_tup, lenT_lst, lenT_dk, truT_lst, truT_tup, truT_bl, truT_int, truT_non, blT_bl, asL_lst, asK_dk, valT_lst, valT_nsT, lenT_nsT, valT_tup, tupT_lst, tupT_tup, listT_lst, listT_tup, intcT_int, intT_int, addT_int, ordT_int, cmpT_int, cmpT_bl, cmpT_str, isT_non, isT_bl, isNonT_non, isNonT_int, isNonT_tup, isNonT_bl, negT_int, intO_int, sumT_ints, sortedT_ints, Option.map_some, Option.map_none, Option.bind_some, List.length_map, List.length_range, Bool.not_not, Bool.true_xor, Bool.false_xor, Bool.xor_false, Bool.xor_true, if_true, if_false, Bool.false_eq_true, reduceIte, Bool.not_true, Bool.not_false]
    exact wp_ret (h g s (by simpa using hlg))
  | cons a l =>
    have ht : (List.map T.int (a :: l)).isEmpty = false := rfl
    refine wp_ret ?_
    simp only [ht, bnd_mret, bnd_assoc', ofO_some', noex_mret, noex_bnd, runF_nx, runF_rt, runF_bnd, runF_ite, runF_bndX, bnd_ite, bndX_nx, bndX_rt, bndX_bnd, bndX_ite, bndN_nx, un2_tup, un3_tup, un4_tup, gIt_t, gIt_f, gIt_b, dnat, ixB_dk, ixB_dz, keyT_int, keyT_str, lenT_tup, lenT_lst, lenT_dk, truT_lst, truT_tup, truT_bl, truT_int, truT_non, blT_bl, asL_lst, asK_dk, valT_lst, valT_nsT, lenT_nsT, valT_tup, tupT_lst, tupT_tup, listT_lst, listT_tup, intcT_int, intT_int, addT_int, ordT_int, cmpT_int, cmpT_bl, cmpT_str, isT_non, isT_bl, isNonT_non, isNonT_int, isNonT_tup, isNonT_bl, negT_int, intO_int, sumT_ints, sortedT_ints, Option.map_some, Option.map_none, Option.bind_some, List.length_map, List.length_range, Bool.not_not, Bool.true_xor, Bool.false_xor, Bool.xor_false, Bool.xor_true, if_true, if_false, Bool.false_eq_true, reduceIte, Bool.not_true, Bool.not_false]
    refine wp_bnd (wp_drawI (n := l.length + 1) (by simp) (by simp at hlg; omega) fun v s1 hv => ?_)
    have hv' : v < (a :: l).length := by simp only [List.length_cons]; omega
    simp only [popAT_ints hv' (by simp at hlg ⊢; omega), bnd_mret, bnd_assoc', ofO_some', noex_mret, noex_bnd, runF_nx, runF_rt, runF_bnd, runF_ite, runF_bndX, bnd_ite, bndX_nx, bndX_rt, bndX_bnd, bndX_ite, bndN_nx, un2_tup, un3_tup, un4_tup, gIt_t, gIt_f, gIt_b, dnat, ixB_dk, ixB_dz, keyT_int, keyT_str, lenT_tup, lenT_lst, lenT_dk, truT_lst, truT_tup, truT_bl, truT_int, truT_non, blT_bl, asL_lst, asK_dk, valT_lst, valT_nsT, lenT_nsT, valT_tup, tupT_lst, tupT_tup, listT_lst, listT_tup, intcT_int, intT_int, addT_int, ordT_int, cmpT_int, cmpT_bl, cmpT_str, isT_non, isT_bl, isNonT_non, isNonT_int, isNonT_tup, isNonT_bl, negT_int, intO_int, sumT_ints, sortedT_ints, Option.map_some, Option.map_none, Option.bind_some, List.length_map, List.length_range, Bool.not_not, Bool.true_xor, Bool.false_xor, Bool.xor_false, Bool.xor_true, if_true, if_false, Bool.false_eq_true, reduceIte, Bool.not_true, Bool.not_false]
    rw [appT_ok (by simp at hlg ⊢; omega)]
    simp only [bnd_mret, bnd_assoc', ofO_some', noex_mret, noex_bnd, runF_nx, runF_rt, runF_bnd, runF_ite, runF_bndX, bnd_ite, bndX_nx, bndX_rt, bndX_bnd, bndX_ite, bndN_nx, un2_tup, un3_tup, un4_tup, gIt_t, gIt_f, gIt_b, dnat, ixB_dk, ixB_dz, keyT_int, keyT_str, lenT_tup, lenT_lst, lenT_dk, truT_lst, truT_tup, truT_bl, truT_int, truT_non, blT_bl, asL_lst, asK_dk, valT_lst, valT_nsT, lenT_nsT, valT_tup, tupT_lst, tupT_tup, listT_lst, listT_tup, intcT_int, intT_int, addT_int, ordT_int, cmpT_int, cmpT_bl, cmpT_str, isT_non, isT_bl, isNonT_non, isNonT_int, isNonT_tup, isNonT_bl, negT_int, intO_int, sumT_ints, sortedT_ints, Option.map_some, Option.map_none, Option.bind_some, List.length_map, List.length_range, Bool.not_not, Bool.true_xor, Bool.false_xor, Bool.xor_false, Bool.xor_true, if_true, if_false, Bool.false_eq_true, reduceIte, Bool.not_true, Bool.not_false]
    refine wp_ret ⟨_, ?_, (a :: l).eraseIdx v, g ++ [(a :: l).getD v 0], by simp, ?_, rfl⟩
    · rw [List.length_eraseIdx_of_lt hv']; simp
    · rw [List.length_eraseIdx_of_lt hv']; simp at hlg ⊢; omega
/-! the law's own walks, bent rows -/
theorem sl_takeI {l : List Int} {n : Nat} : slT (.lst (l.map T.int)) none (some (n : Int)) = some (.lst ((l.take n).map T.int)) := by
  unfold slT cutT
  dsimp only
  rw [HT.sIx_none, HT.sIx_nat, List.drop_zero, Nat.sub_zero, List.map_take]
  congr 2
  rw [List.length_map]
  by_cases h : n ≤ l.length
  · rw [Nat.min_eq_left h]
  · rw [Nat.min_eq_right (by omega), List.take_of_length_le (by simp), List.take_of_length_le (by simp; omega)]
theorem sl_dropI {l : List Int} {n : Nat} : slT (.lst (l.map T.int)) (some ((n : Int) + 1)) none = some (.lst ((l.drop (n + 1)).map T.int)) := by
  rw [show (n : Int) + 1 = ((n + 1 : Nat) : Int) by push_cast; rfl]
  generalize n + 1 = n
  unfold slT cutT
  dsimp only
  rw [HT.sIx_none, HT.sIx_nat, List.map_drop]
  congr 2
  rw [List.length_map]
  by_cases h : n ≤ l.length
  · rw [Nat.min_eq_left h, List.take_of_length_le (by simp)]
  · rw [Nat.min_eq_right (by omega), List.drop_of_length_le (by simp), List.drop_of_length_le (by simp; omega)]; simp
theorem sl_butI {l : List Int} : slT (.lst (l.map T.int)) none (some (-1)) = some (.lst (l.dropLast.map T.int)) := by
  unfold slT cutT
  dsimp only
  rw [HT.sIx_none, List.drop_zero, Nat.sub_zero, ← List.map_take, List.length_map, List.dropLast_eq_take]
  rw [show HT.sIx l.length l.length (some (-1)) = l.length - 1 by unfold HT.sIx; simp; omega]
theorem add_ints {a b : List Int} (h : a.length + b.length ≤ 16777216) : addT (.lst (a.map T.int)) (.lst (b.map T.int)) = some (.lst ((a ++ b).map T.int)) := by
  rw [addT_lst (by simpa using h), List.map_append]
theorem add_int1 {a : List Int} {x : Int} (h : a.length < 16777216) : addT (.lst (a.map T.int)) (.lst [.int x]) = some (.lst ((a ++ [x]).map T.int)) := add_ints (b := [x]) (by simp; omega)
theorem wp_bent {xs : List Int} {s : Drw} {Q : T → Drw → Prop} (hl : xs.length ≤ 900) (h : ∀ (ys : List Int) s', ys.length ≤ xs.length + 1 → Q (.lst (ys.map T.int)) s') : wp (m__law_bent [.tok, .lst (xs.map T.int)]) s Q := by
  unfold m__law_bent
  simp only [bnd_mret, bnd_assoc', ofO_some', noex_mret, noex_bnd, runF_nx, runF_rt, runF_bnd, runF_ite, runF_bndX, bndX_nx, bndX_rt, bndX_bnd, bndX_ite, bndN_nx, un2_tup, un3_tup, un4_tup, gIt_t, gIt_f, gIt_b, dnat, ixB_dk, ixB_dz, keyT_int, keyT_str, lenT_tup, lenT_lst, lenT_dk, truT_lst, truT_tup, truT_bl, truT_int, truT_non, blT_bl, asL_lst, asK_dk, valT_lst, valT_nsT, lenT_nsT, valT_tup, tupT_lst, tupT_tup, listT_lst, listT_tup, intcT_int, intT_int, addT_int, ordT_int, cmpT_int, cmpT_bl, cmpT_str, isT_non, isT_bl, isNonT_non, isNonT_int, isNonT_tup, isNonT_bl, negT_int, intO_int, sumT_ints, sortedT_ints, Option.map_some, Option.map_none, Option.bind_some, List.length_map, List.length_range, Bool.not_not, Bool.true_xor, Bool.false_xor, Bool.xor_false, Bool.xor_true, if_true, if_false, Bool.false_eq_true, reduceIte, Bool.not_true, Bool.not_false]
  refine wp_bnd (wp_drawI (n := 6) rfl (by omega) fun kind s1 hk => ?_)
  simp only [bnd_mret, bnd_assoc', ofO_some', noex_mret, noex_bnd, runF_nx, runF_rt, runF_bnd, runF_ite, runF_bndX, bnd_ite, bndX_nx, bndX_rt, bndX_bnd, bndX_ite, bndN_nx, un2_tup, un3_tup, un4_tup, gIt_t, gIt_f, gIt_b, dnat, ixB_dk, ixB_dz, keyT_int, keyT_str, lenT_tup, lenT_lst, lenT_dk, truT_lst, truT_tup, truT_bl, truT_int, truT_non, blT_bl, asL_lst, asK_dk, valT_lst, valT_nsT, lenT_nsT, valT_tup, tupT_lst, tupT_tup, listT_lst, listT_tup, intcT_int, intT_int, addT_int, ordT_int, cmpT_int, cmpT_bl, cmpT_str, isT_non, isT_bl, isNonT_non, isNonT_int, isNonT_tup, isNonT_bl, negT_int, intO_int, sumT_ints, sortedT_ints, Option.map_some, Option.map_none, Option.bind_some, List.length_map, List.length_range, Bool.not_not, Bool.true_xor, Bool.false_xor, Bool.xor_false, Bool.xor_true, if_true, if_false, Bool.false_eq_true, reduceIte, Bool.not_true, Bool.not_false]
  have part : wp (bnd (m__law_draw [T.tok, T.int 14]) fun a => bnd (ofO (intT (fun x1 x2 => x1 - x2) a (T.int 1))) fun a => bnd (ofO (addT (T.lst (List.map T.int xs)) (T.lst [a]))) fun a => mret a) s1 Q := by
    refine wp_bnd (wp_drawI (n := 14) rfl (by omega) fun v s2 hv => ?_)
    simp only [bnd_mret, bnd_assoc', ofO_some', noex_mret, noex_bnd, runF_nx, runF_rt, runF_bnd, runF_ite, runF_bndX, bnd_ite, bndX_nx, bndX_rt, bndX_bnd, bndX_ite, bndN_nx, un2_tup, un3_tup, un4_tup, gIt_t, gIt_f, gIt_b, dnat, ixB_dk, ixB_dz, keyT_int, keyT_str, lenT_tup, lenT_lst, lenT_dk, truT_lst, truT_tup, truT_bl, truT_int, truT_non, blT_bl, asL_lst, asK_dk, valT_lst, valT_nsT, lenT_nsT, valT_tup, tupT_lst, tupT_tup, listT_lst, listT_tup, intcT_int, intT_int, addT_int, ordT_int, cmpT_int, cmpT_bl, cmpT_str, isT_non, isT_bl, isNonT_non, isNonT_int, isNonT_tup, isNonT_bl, negT_int, intO_int, sumT_ints, sortedT_ints, Option.map_some, Option.map_none, Option.bind_some, List.length_map, List.length_range, Bool.not_not, Bool.true_xor, Bool.false_xor, Bool.xor_false, Bool.xor_true, if_true, if_false, Bool.false_eq_true, reduceIte, Bool.not_true, Bool.not_false, add_int1 (show xs.length < 16777216 by omega)]
    exact wp_ret (h _ s2 (by simp))
  split
  · split
    · rename_i hk0 hne
      have hpos : 0 < xs.length := by
        cases xs with
        | nil => simp at hne
        | cons => simp
      refine wp_bnd (wp_drawI (n := xs.length) rfl (by omega) fun at' s2 ha => ?_)
      simp only [bnd_mret, bnd_assoc', ofO_some', noex_mret, noex_bnd, runF_nx, runF_rt, runF_bnd, runF_ite, runF_bndX, bnd_ite, bndX_nx, bndX_rt, bndX_bnd, bndX_ite, bndN_nx, un2_tup, un3_tup, un4_tup, gIt_t, gIt_f, gIt_b, dnat, ixB_dk, ixB_dz, keyT_int, keyT_str, lenT_tup, lenT_lst, lenT_dk, truT_lst, truT_tup, truT_bl, truT_int, truT_non, blT_bl, asL_lst, asK_dk, valT_lst, valT_nsT, lenT_nsT, valT_tup, tupT_lst, tupT_tup, listT_lst, listT_tup, intcT_int, intT_int, addT_int, ordT_int, cmpT_int, cmpT_bl, cmpT_str, isT_non, isT_bl, isNonT_non, isNonT_int, isNonT_tup, isNonT_bl, negT_int, intO_int, sumT_ints, sortedT_ints, Option.map_some, Option.map_none, Option.bind_some, List.length_map, List.length_range, Bool.not_not, Bool.true_xor, Bool.false_xor, Bool.xor_false, Bool.xor_true, if_true, if_false, Bool.false_eq_true, reduceIte, Bool.not_true, Bool.not_false, sl_takeI, sl_dropI]
      refine wp_bnd (wp_drawI (n := 14) rfl (by omega) fun v s3 hv => ?_)
      simp only [bnd_mret, bnd_assoc', ofO_some', noex_mret, noex_bnd, runF_nx, runF_rt, runF_bnd, runF_ite, runF_bndX, bnd_ite, bndX_nx, bndX_rt, bndX_bnd, bndX_ite, bndN_nx, un2_tup, un3_tup, un4_tup, gIt_t, gIt_f, gIt_b, dnat, ixB_dk, ixB_dz, keyT_int, keyT_str, lenT_tup, lenT_lst, lenT_dk, truT_lst, truT_tup, truT_bl, truT_int, truT_non, blT_bl, asL_lst, asK_dk, valT_lst, valT_nsT, lenT_nsT, valT_tup, tupT_lst, tupT_tup, listT_lst, listT_tup, intcT_int, intT_int, addT_int, ordT_int, cmpT_int, cmpT_bl, cmpT_str, isT_non, isT_bl, isNonT_non, isNonT_int, isNonT_tup, isNonT_bl, negT_int, intO_int, sumT_ints, sortedT_ints, Option.map_some, Option.map_none, Option.bind_some, List.length_map, List.length_range, Bool.not_not, Bool.true_xor, Bool.false_xor, Bool.xor_false, Bool.xor_true, if_true, if_false, Bool.false_eq_true, reduceIte, Bool.not_true, Bool.not_false]
      rw [add_int1 (by rw [List.length_take]; omega)]
      simp only [bnd_mret, bnd_assoc', ofO_some', noex_mret, noex_bnd, runF_nx, runF_rt, runF_bnd, runF_ite, runF_bndX, bnd_ite, bndX_nx, bndX_rt, bndX_bnd, bndX_ite, bndN_nx, un2_tup, un3_tup, un4_tup, gIt_t, gIt_f, gIt_b, dnat, ixB_dk, ixB_dz, keyT_int, keyT_str, lenT_tup, lenT_lst, lenT_dk, truT_lst, truT_tup, truT_bl, truT_int, truT_non, blT_bl, asL_lst, asK_dk, valT_lst, valT_nsT, lenT_nsT, valT_tup, tupT_lst, tupT_tup, listT_lst, listT_tup, intcT_int, intT_int, addT_int, ordT_int, cmpT_int, cmpT_bl, cmpT_str, isT_non, isT_bl, isNonT_non, isNonT_int, isNonT_tup, isNonT_bl, negT_int, intO_int, sumT_ints, sortedT_ints, Option.map_some, Option.map_none, Option.bind_some, List.length_map, List.length_range, Bool.not_not, Bool.true_xor, Bool.false_xor, Bool.xor_false, Bool.xor_true, if_true, if_false, Bool.false_eq_true, reduceIte, Bool.not_true, Bool.not_false]
      rw [add_ints (by simp; omega)]
      simp only [bnd_mret, bnd_assoc', ofO_some', noex_mret, noex_bnd, runF_nx, runF_rt, runF_bnd, runF_ite, runF_bndX, bnd_ite, bndX_nx, bndX_rt, bndX_bnd, bndX_ite, bndN_nx, un2_tup, un3_tup, un4_tup, gIt_t, gIt_f, gIt_b, dnat, ixB_dk, ixB_dz, keyT_int, keyT_str, lenT_tup, lenT_lst, lenT_dk, truT_lst, truT_tup, truT_bl, truT_int, truT_non, blT_bl, asL_lst, asK_dk, valT_lst, valT_nsT, lenT_nsT, valT_tup, tupT_lst, tupT_tup, listT_lst, listT_tup, intcT_int, intT_int, addT_int, ordT_int, cmpT_int, cmpT_bl, cmpT_str, isT_non, isT_bl, isNonT_non, isNonT_int, isNonT_tup, isNonT_bl, negT_int, intO_int, sumT_ints, sortedT_ints, Option.map_some, Option.map_none, Option.bind_some, List.length_map, List.length_range, Bool.not_not, Bool.true_xor, Bool.false_xor, Bool.xor_false, Bool.xor_true, if_true, if_false, Bool.false_eq_true, reduceIte, Bool.not_true, Bool.not_false]
      exact wp_ret (h _ s3 (by simp; omega))
    · split
      · simp only [sl_butI, bnd_mret, bnd_assoc', ofO_some', noex_mret, noex_bnd, runF_nx, runF_rt, runF_bnd, runF_ite, runF_bndX, bnd_ite, bndX_nx, bndX_rt, bndX_bnd, bndX_ite, bndN_nx, un2_tup, un3_tup, un4_tup, gIt_t, gIt_f, gIt_b, dnat, ixB_dk, ixB_dz, keyT_int, keyT_str, lenT_tup, lenT_lst, lenT_dk, truT_lst, truT_tup, truT_bl, truT_int, truT_non, blT_bl, asL_lst, asK_dk, valT_lst, valT_nsT, lenT_nsT, valT_tup, tupT_lst, tupT_tup, listT_lst, listT_tup, intcT_int, intT_int, addT_int, ordT_int, cmpT_int, cmpT_bl, cmpT_str, isT_non, isT_bl, isNonT_non, isNonT_int, isNonT_tup, isNonT_bl, negT_int, intO_int, sumT_ints, sortedT_ints, Option.map_some, Option.map_none, Option.bind_some, List.length_map, List.length_range, Bool.not_not, Bool.true_xor, Bool.false_xor, Bool.xor_false, Bool.xor_true, if_true, if_false, Bool.false_eq_true, reduceIte, Bool.not_true, Bool.not_false]; exact wp_ret (h _ s1 (by rw [List.length_dropLast]; omega))
      · split
        · exact part
        · split
          · refine wp_bnd (wp_drawI (n := 3) rfl (by omega) fun v s2 hv => ?_)
            simp only [bnd_mret, bnd_assoc', ofO_some', noex_mret, noex_bnd, runF_nx, runF_rt, runF_bnd, runF_ite, runF_bndX, bnd_ite, bndX_nx, bndX_rt, bndX_bnd, bndX_ite, bndN_nx, un2_tup, un3_tup, un4_tup, gIt_t, gIt_f, gIt_b, dnat, ixB_dk, ixB_dz, keyT_int, keyT_str, lenT_tup, lenT_lst, lenT_dk, truT_lst, truT_tup, truT_bl, truT_int, truT_non, blT_bl, asL_lst, asK_dk, valT_lst, valT_nsT, lenT_nsT, valT_tup, tupT_lst, tupT_tup, listT_lst, listT_tup, intcT_int, intT_int, addT_int, ordT_int, cmpT_int, cmpT_bl, cmpT_str, isT_non, isT_bl, isNonT_non, isNonT_int, isNonT_tup, isNonT_bl, negT_int, intO_int, sumT_ints, sortedT_ints, Option.map_some, Option.map_none, Option.bind_some, List.length_map, List.length_range, Bool.not_not, Bool.true_xor, Bool.false_xor, Bool.xor_false, Bool.xor_true, if_true, if_false, Bool.false_eq_true, reduceIte, Bool.not_true, Bool.not_false]
            split
            · exact wp_ret (h [] s2 (by simp))
            · exact wp_ret (h xs s2 (by omega))
          · exact wp_ret (h xs s1 (by omega))
  · split
    · simp only [sl_butI, bnd_mret, bnd_assoc', ofO_some', noex_mret, noex_bnd, runF_nx, runF_rt, runF_bnd, runF_ite, runF_bndX, bnd_ite, bndX_nx, bndX_rt, bndX_bnd, bndX_ite, bndN_nx, un2_tup, un3_tup, un4_tup, gIt_t, gIt_f, gIt_b, dnat, ixB_dk, ixB_dz, keyT_int, keyT_str, lenT_tup, lenT_lst, lenT_dk, truT_lst, truT_tup, truT_bl, truT_int, truT_non, blT_bl, asL_lst, asK_dk, valT_lst, valT_nsT, lenT_nsT, valT_tup, tupT_lst, tupT_tup, listT_lst, listT_tup, intcT_int, intT_int, addT_int, ordT_int, cmpT_int, cmpT_bl, cmpT_str, isT_non, isT_bl, isNonT_non, isNonT_int, isNonT_tup, isNonT_bl, negT_int, intO_int, sumT_ints, sortedT_ints, Option.map_some, Option.map_none, Option.bind_some, List.length_map, List.length_range, Bool.not_not, Bool.true_xor, Bool.false_xor, Bool.xor_false, Bool.xor_true, if_true, if_false, Bool.false_eq_true, reduceIte, Bool.not_true, Bool.not_false]; exact wp_ret (h _ s1 (by rw [List.length_dropLast]; omega))
    · split
      · exact part
      · split
        · refine wp_bnd (wp_drawI (n := 3) rfl (by omega) fun v s2 hv => ?_)
          simp only [bnd_mret, bnd_assoc', ofO_some', noex_mret, noex_bnd, runF_nx, runF_rt, runF_bnd, runF_ite, runF_bndX, bnd_ite, bndX_nx, bndX_rt, bndX_bnd, bndX_ite, bndN_nx, un2_tup, un3_tup, un4_tup, gIt_t, gIt_f, gIt_b, dnat, ixB_dk, ixB_dz, keyT_int, keyT_str, lenT_tup, lenT_lst, lenT_dk, truT_lst, truT_tup, truT_bl, truT_int, truT_non, blT_bl, asL_lst, asK_dk, valT_lst, valT_nsT, lenT_nsT, valT_tup, tupT_lst, tupT_tup, listT_lst, listT_tup, intcT_int, intT_int, addT_int, ordT_int, cmpT_int, cmpT_bl, cmpT_str, isT_non, isT_bl, isNonT_non, isNonT_int, isNonT_tup, isNonT_bl, negT_int, intO_int, sumT_ints, sortedT_ints, Option.map_some, Option.map_none, Option.bind_some, List.length_map, List.length_range, Bool.not_not, Bool.true_xor, Bool.false_xor, Bool.xor_false, Bool.xor_true, if_true, if_false, Bool.false_eq_true, reduceIte, Bool.not_true, Bool.not_false]
          split
          · exact wp_ret (h [] s2 (by simp))
          · exact wp_ret (h xs s2 (by omega))
        · exact wp_ret (h xs s1 (by omega))
theorem wp_pickT {l : List Nat} {s : Drw} {Q : T → Drw → Prop} (h0 : 0 < l.length) (hl : l.length < 2 ^ 60) (h : ∀ v s', v ∈ l → Q (.int (v : Int)) s') : wp (m__law_pick [.tok, nsT l]) s Q := by
  unfold m__law_pick
  simp only [bnd_mret, bnd_assoc', ofO_some', noex_mret, noex_bnd, runF_nx, runF_rt, runF_bnd, runF_ite, runF_bndX, bnd_ite, bndX_nx, bndX_rt, bndX_bnd, bndX_ite, bndN_nx, un2_tup, un3_tup, un4_tup, gIt_t, gIt_f, gIt_b, dnat, ixB_dk, ixB_dz, keyT_int, keyT_str, lenT_tup, lenT_lst, lenT_dk, truT_lst, truT_tup, truT_bl, truT_int, truT_non, blT_bl, asL_lst, asK_dk, valT_lst, valT_nsT, lenT_nsT, valT_tup, tupT_lst, tupT_tup, listT_lst, listT_tup, intcT_int, intT_int, addT_int, ordT_int, cmpT_int, cmpT_bl, cmpT_str, isT_non, isT_bl, isNonT_non, isNonT_int, isNonT_tup, isNonT_bl, negT_int, intO_int, sumT_ints, sortedT_ints, Option.map_some, Option.map_none, Option.bind_some, List.length_map, List.length_range, Bool.not_not, Bool.true_xor, Bool.false_xor, Bool.xor_false, Bool.xor_true, if_true, if_false, Bool.false_eq_true, reduceIte, Bool.not_true, Bool.not_false]
  unfold m__law_draw
  refine wp_bnd (wp_draw (by omega) fun v s' h1 h2 => ?_)
  obtain ⟨n, rfl⟩ : ∃ n : Nat, v = n := ⟨v.toNat, by omega⟩
  have hn : n < l.length := by omega
  simp only [bnd_mret, bnd_assoc', ofO_some', noex_mret, noex_bnd, runF_nx, runF_rt, runF_bnd, runF_ite, runF_bndX, bnd_ite, bndX_nx, bndX_rt, bndX_bnd, bndX_ite, bndN_nx, un2_tup, un3_tup, un4_tup, gIt_t, gIt_f, gIt_b, dnat, ixB_dk, ixB_dz, keyT_int, keyT_str, lenT_tup, lenT_lst, lenT_dk, truT_lst, truT_tup, truT_bl, truT_int, truT_non, blT_bl, asL_lst, asK_dk, valT_lst, valT_nsT, lenT_nsT, valT_tup, tupT_lst, tupT_tup, listT_lst, listT_tup, intcT_int, intT_int, addT_int, ordT_int, cmpT_int, cmpT_bl, cmpT_str, isT_non, isT_bl, isNonT_non, isNonT_int, isNonT_tup, isNonT_bl, negT_int, intO_int, sumT_ints, sortedT_ints, Option.map_some, Option.map_none, Option.bind_some, List.length_map, List.length_range, Bool.not_not, Bool.true_xor, Bool.false_xor, Bool.xor_false, Bool.xor_true, if_true, if_false, Bool.false_eq_true, reduceIte, Bool.not_true, Bool.not_false, ixB_ns hn]
  exact wp_ret (h _ _ (getD_mem 0 hn))
theorem wp_walk {L : Led} {R : Nat} (ok : L.Ok R) {c : List Nat} (hc : ∀ r ∈ c, r < R) (hR : 0 < R) {j : Nat} (hj : j < L.n) {s : Drw} {Q : T → Drw → Prop} (h : ∀ (w : List Int) s', w.length ≤ 15 → 0 < w.length → Q (.lst (w.map T.int)) s') (hcl : c.length ≤ 64) : wp (m__law_walk [.tok, L.t, nsT c, .int j]) s Q := by
  unfold m__law_walk
  have hnl := ok.nle
  have hrl := ok.rle
  simp only [bnd_mret, bnd_assoc', ofO_some', noex_mret, noex_bnd, runF_nx, runF_rt, runF_bnd, runF_ite, runF_bndX, bndX_nx, bndX_rt, bndX_bnd, bndX_ite, bndN_nx, un2_tup, un3_tup, un4_tup, gIt_t, gIt_f, gIt_b, dnat, ixB_dk, ixB_dz, keyT_int, keyT_str, lenT_tup, lenT_lst, lenT_dk, truT_lst, truT_tup, truT_bl, truT_int, truT_non, blT_bl, asL_lst, asK_dk, valT_lst, valT_nsT, lenT_nsT, valT_tup, tupT_lst, tupT_tup, listT_lst, listT_tup, intcT_int, intT_int, addT_int, ordT_int, cmpT_int, cmpT_bl, cmpT_str, isT_non, isT_bl, isNonT_non, isNonT_int, isNonT_tup, isNonT_bl, negT_int, intO_int, sumT_ints, sortedT_ints, Option.map_some, Option.map_none, Option.bind_some, List.length_map, List.length_range, Bool.not_not, Bool.true_xor, Bool.false_xor, Bool.xor_false, Bool.xor_true, if_true, if_false, Bool.false_eq_true, reduceIte, Bool.not_true, Bool.not_false, Led.t0, Led.t2]
  refine wp_bnd (wp_drawI (n := 7) rfl (by omega) fun t s1 ht => ?_)
  simp only [bnd_mret, bnd_assoc', ofO_some', noex_mret, noex_bnd, runF_nx, runF_rt, runF_bnd, runF_ite, runF_bndX, bndX_nx, bndX_rt, bndX_bnd, bndX_ite, bndN_nx, un2_tup, un3_tup, un4_tup, gIt_t, gIt_f, gIt_b, dnat, ixB_dk, ixB_dz, keyT_int, keyT_str, lenT_tup, lenT_lst, lenT_dk, truT_lst, truT_tup, truT_bl, truT_int, truT_non, blT_bl, asL_lst, asK_dk, valT_lst, valT_nsT, lenT_nsT, valT_tup, tupT_lst, tupT_tup, listT_lst, listT_tup, intcT_int, intT_int, addT_int, ordT_int, cmpT_int, cmpT_bl, cmpT_str, isT_non, isT_bl, isNonT_non, isNonT_int, isNonT_tup, isNonT_bl, negT_int, intO_int, sumT_ints, sortedT_ints, Option.map_some, Option.map_none, Option.bind_some, List.length_map, List.length_range, Bool.not_not, Bool.true_xor, Bool.false_xor, Bool.xor_false, Bool.xor_true, if_true, if_false, Bool.false_eq_true, reduceIte, Bool.not_true, Bool.not_false, rng1_ok (show t < 2 ^ 62 by omega)]
  refine wp_bnd (wp_for (I := fun pre x _ => ∃ (w : List Int) (a : Nat), x = .lst (w.map T.int) ∧ w.length = 1 + 2 * pre.length ∧ w.getD (w.length - 1) 0 = a ∧ a < L.n) ⟨[(j : Int)], j, rfl, rfl, rfl, hj⟩ (fun pre n post x s e hI => ?_) (fun x s hI => ?_))
  · obtain ⟨w, a, rfl, hw, ha, han⟩ := hI
    obtain ⟨rfl, hlt⟩ := range_split e
    have fin : ∀ (r : Nat) (s : Drw) (Q' : Ex T → Drw → Prop), r < R → (∀ (w' : List Int) s', (∃ (w : List Int) (a : Nat), T.lst (w'.map T.int) = .lst (w.map T.int) ∧ w.length = 1 + 2 * (pre ++ [pre.length]).length ∧ w.getD (w.length - 1) 0 = a ∧ a < L.n) → Q' (.nx (.lst (w'.map T.int))) s') → wp (bnd (ofO (rng1T [T.int L.fs.length])) fun xs => bnd (lcM (fun n33 => gIt (bnd (ofO (ixB (.tup (L.ms.map nsT)) (T.int r))) fun a => bnd (ofO (ixB a n33)) fun a => bnd (ofO (ixB (.tup (L.ms.map nsT)) (T.int r))) fun a_9 => bnd (ofO (ixB (.lst (w.map T.int)) (T.int (-1)))) fun a_10 => bnd (ofO (ixB a_9 a_10)) fun a_11 => bnd (ofO (cmpT false a a_11)) fun x17 => ofO (blT x17)) (mret n33)) xs []) fun near => bnd (m__law_pick [.tok, near]) fun a => bnd (ofO (addT (.lst (w.map T.int)) (T.lst [.int r, a]))) fun walk => mret (Ex.nx walk) : M (Ex T)) s Q' := fun r s Q' hr hq => by
      simp only [bnd_mret, bnd_assoc', ofO_some', noex_mret, noex_bnd, runF_nx, runF_rt, runF_bnd, runF_ite, runF_bndX, bnd_ite, bndX_nx, bndX_rt, bndX_bnd, bndX_ite, bndN_nx, un2_tup, un3_tup, un4_tup, gIt_t, gIt_f, gIt_b, dnat, ixB_dk, ixB_dz, keyT_int, keyT_str, lenT_tup, lenT_lst, lenT_dk, truT_lst, truT_tup, truT_bl, truT_int, truT_non, blT_bl, asL_lst, asK_dk, valT_lst, valT_nsT, lenT_nsT, valT_tup, tupT_lst, tupT_tup, listT_lst, listT_tup, intcT_int, intT_int, addT_int, ordT_int, cmpT_int, cmpT_bl, cmpT_str, isT_non, isT_bl, isNonT_non, isNonT_int, isNonT_tup, isNonT_bl, negT_int, intO_int, sumT_ints, sortedT_ints, Option.map_some, Option.map_none, Option.bind_some, List.length_map, List.length_range, Bool.not_not, Bool.true_xor, Bool.false_xor, Bool.xor_false, Bool.xor_true, if_true, if_false, Bool.false_eq_true, reduceIte, Bool.not_true, Bool.not_false, rng1_ok (show L.fs.length < 2 ^ 62 by unfold Led.n at hnl; omega)]
      rw [lcM_flt (p := fun m => L.mk' r m == L.mk' r a) (h := nT) (fun m hm => by
        have hm : m < L.n := by simpa [Led.n] using hm
        simp only [bnd_mret, bnd_assoc', ofO_some', noex_mret, noex_bnd, runF_nx, runF_rt, runF_bnd, runF_ite, runF_bndX, bnd_ite, bndX_nx, bndX_rt, bndX_bnd, bndX_ite, bndN_nx, un2_tup, un3_tup, un4_tup, gIt_t, gIt_f, gIt_b, dnat, ixB_dk, ixB_dz, keyT_int, keyT_str, lenT_tup, lenT_lst, lenT_dk, truT_lst, truT_tup, truT_bl, truT_int, truT_non, blT_bl, asL_lst, asK_dk, valT_lst, valT_nsT, lenT_nsT, valT_tup, tupT_lst, tupT_tup, listT_lst, listT_tup, intcT_int, intT_int, addT_int, ordT_int, cmpT_int, cmpT_bl, cmpT_str, isT_non, isT_bl, isNonT_non, isNonT_int, isNonT_tup, isNonT_bl, negT_int, intO_int, sumT_ints, sortedT_ints, Option.map_some, Option.map_none, Option.bind_some, List.length_map, List.length_range, Bool.not_not, Bool.true_xor, Bool.false_xor, Bool.xor_false, Bool.xor_true, if_true, if_false, Bool.false_eq_true, reduceIte, Bool.not_true, Bool.not_false, nT, ok.i_ms hr, ok.i_mk hr hm, ixB_lastL (f := T.int) 0 (show 0 < w.length by omega), ha, ok.i_mk hr han]) (by simp; unfold Led.n at hnl; omega)]
      simp only [bnd_mret, bnd_assoc', ofO_some', noex_mret, noex_bnd, runF_nx, runF_rt, runF_bnd, runF_ite, runF_bndX, bnd_ite, bndX_nx, bndX_rt, bndX_bnd, bndX_ite, bndN_nx, un2_tup, un3_tup, un4_tup, gIt_t, gIt_f, gIt_b, dnat, ixB_dk, ixB_dz, keyT_int, keyT_str, lenT_tup, lenT_lst, lenT_dk, truT_lst, truT_tup, truT_bl, truT_int, truT_non, blT_bl, asL_lst, asK_dk, valT_lst, valT_nsT, lenT_nsT, valT_tup, tupT_lst, tupT_tup, listT_lst, listT_tup, intcT_int, intT_int, addT_int, ordT_int, cmpT_int, cmpT_bl, cmpT_str, isT_non, isT_bl, isNonT_non, isNonT_int, isNonT_tup, isNonT_bl, negT_int, intO_int, sumT_ints, sortedT_ints, Option.map_some, Option.map_none, Option.bind_some, List.length_map, List.length_range, Bool.not_not, Bool.true_xor, Bool.false_xor, Bool.xor_false, Bool.xor_true, if_true, if_false, Bool.false_eq_true, reduceIte, Bool.not_true, Bool.not_false]
      have hfl := List.length_filter_le (fun m => L.mk' r m == L.mk' r a) (List.range L.fs.length)
      rw [List.length_range] at hfl
      refine wp_bnd (wp_pickI (List.length_pos_of_mem (a := a) (List.mem_filter.mpr ⟨List.mem_range.mpr han, by simp⟩)) (by unfold Led.n at hnl; omega) fun v s2 hv => ?_)
      have hvn := List.mem_range.mp (List.mem_filter.mp hv).1
      have e1 := add_ints (a := w) (b := [(r : Int), (v : Int)]) (by simp; omega)
      simp only [List.map_cons, List.map_nil] at e1
      simp only [e1, bnd_mret, bnd_assoc', ofO_some', noex_mret, noex_bnd, runF_nx, runF_rt, runF_bnd, runF_ite, runF_bndX, bnd_ite, bndX_nx, bndX_rt, bndX_bnd, bndX_ite, bndN_nx, un2_tup, un3_tup, un4_tup, gIt_t, gIt_f, gIt_b, dnat, ixB_dk, ixB_dz, keyT_int, keyT_str, lenT_tup, lenT_lst, lenT_dk, truT_lst, truT_tup, truT_bl, truT_int, truT_non, blT_bl, asL_lst, asK_dk, valT_lst, valT_nsT, lenT_nsT, valT_tup, tupT_lst, tupT_tup, listT_lst, listT_tup, intcT_int, intT_int, addT_int, ordT_int, cmpT_int, cmpT_bl, cmpT_str, isT_non, isT_bl, isNonT_non, isNonT_int, isNonT_tup, isNonT_bl, negT_int, intO_int, sumT_ints, sortedT_ints, Option.map_some, Option.map_none, Option.bind_some, List.length_map, List.length_range, Bool.not_not, Bool.true_xor, Bool.false_xor, Bool.xor_false, Bool.xor_true, if_true, if_false, Bool.false_eq_true, reduceIte, Bool.not_true, Bool.not_false]
      refine wp_ret (hq (w ++ [(r : Int), (v : Int)]) s2 ⟨w ++ [(r : Int), (v : Int)], v, rfl, by simp; omega, ?_, hvn⟩)
      rw [List.getD_eq_getElem?_getD, List.getElem?_append_right (by simp)]
      simp
    have htr : truT (nsT c) = some (!c.isEmpty) := by unfold nsT; rw [truT_tup, map_nT_isEmpty]
    simp only [htr, bnd_mret, bnd_assoc', ofO_some', noex_mret, noex_bnd, runF_nx, runF_rt, runF_bnd, runF_ite, runF_bndX, bndX_nx, bndX_rt, bndX_bnd, bndX_ite, bndN_nx, un2_tup, un3_tup, un4_tup, gIt_t, gIt_f, gIt_b, dnat, ixB_dk, ixB_dz, keyT_int, keyT_str, lenT_tup, lenT_lst, lenT_dk, truT_lst, truT_tup, truT_bl, truT_int, truT_non, blT_bl, asL_lst, asK_dk, valT_lst, valT_nsT, lenT_nsT, valT_tup, tupT_lst, tupT_tup, listT_lst, listT_tup, intcT_int, intT_int, addT_int, ordT_int, cmpT_int, cmpT_bl, cmpT_str, isT_non, isT_bl, isNonT_non, isNonT_int, isNonT_tup, isNonT_bl, negT_int, intO_int, sumT_ints, sortedT_ints, Option.map_some, Option.map_none, Option.bind_some, List.length_map, List.length_range, Bool.not_not, Bool.true_xor, Bool.false_xor, Bool.xor_false, Bool.xor_true, if_true, if_false, Bool.false_eq_true, reduceIte, Bool.not_true, Bool.not_false]
    cases hce : c.isEmpty with
    | true =>
      simp only [bnd_mret, bnd_assoc', ofO_some', noex_mret, noex_bnd, runF_nx, runF_rt, runF_bnd, runF_ite, runF_bndX, bnd_ite, bndX_nx, bndX_rt, bndX_bnd, bndX_ite, bndN_nx, un2_tup, un3_tup, un4_tup, gIt_t, gIt_f, gIt_b, dnat, ixB_dk, ixB_dz, keyT_int, keyT_str, lenT_tup, lenT_lst, lenT_dk, truT_lst, truT_tup, truT_bl, truT_int, truT_non, blT_bl, asL_lst, asK_dk, valT_lst, valT_nsT, lenT_nsT, valT_tup, tupT_lst, tupT_tup, listT_lst, listT_tup, intcT_int, intT_int, addT_int, ordT_int, cmpT_int, cmpT_bl, cmpT_str, isT_non, isT_bl, isNonT_non, isNonT_int, isNonT_tup, isNonT_bl, negT_int, intO_int, sumT_ints, sortedT_ints, Option.map_some, Option.map_none, Option.bind_some, List.length_map, List.length_range, Bool.not_not, Bool.true_xor, Bool.false_xor, Bool.xor_false, Bool.xor_true, if_true, if_false, Bool.false_eq_true, reduceIte, Bool.not_true, Bool.not_false, ok.ms]
      refine wp_bnd (wp_drawI (n := R) rfl (by omega) fun r s2 hr => ?_)
      exact fin r s2 _ (by omega) fun w' s' hx => hx
    | false =>
      have hcp : 0 < c.length := by cases c with | nil => cases hce | cons => simp
      simp only [bnd_mret, bnd_assoc', ofO_some', noex_mret, noex_bnd, runF_nx, runF_rt, runF_bnd, runF_ite, runF_bndX, bndX_nx, bndX_rt, bndX_bnd, bndX_ite, bndN_nx, un2_tup, un3_tup, un4_tup, gIt_t, gIt_f, gIt_b, dnat, ixB_dk, ixB_dz, keyT_int, keyT_str, lenT_tup, lenT_lst, lenT_dk, truT_lst, truT_tup, truT_bl, truT_int, truT_non, blT_bl, asL_lst, asK_dk, valT_lst, valT_nsT, lenT_nsT, valT_tup, tupT_lst, tupT_tup, listT_lst, listT_tup, intcT_int, intT_int, addT_int, ordT_int, cmpT_int, cmpT_bl, cmpT_str, isT_non, isT_bl, isNonT_non, isNonT_int, isNonT_tup, isNonT_bl, negT_int, intO_int, sumT_ints, sortedT_ints, Option.map_some, Option.map_none, Option.bind_some, List.length_map, List.length_range, Bool.not_not, Bool.true_xor, Bool.false_xor, Bool.xor_false, Bool.xor_true, if_true, if_false, Bool.false_eq_true, reduceIte, Bool.not_true, Bool.not_false]
      refine wp_bnd (wp_drawI (n := 8) rfl (by omega) fun e s2 _ => ?_)
      simp only [bnd_mret, bnd_assoc', ofO_some', noex_mret, noex_bnd, runF_nx, runF_rt, runF_bnd, runF_ite, runF_bndX, bndX_nx, bndX_rt, bndX_bnd, bndX_ite, bndN_nx, un2_tup, un3_tup, un4_tup, gIt_t, gIt_f, gIt_b, dnat, ixB_dk, ixB_dz, keyT_int, keyT_str, lenT_tup, lenT_lst, lenT_dk, truT_lst, truT_tup, truT_bl, truT_int, truT_non, blT_bl, asL_lst, asK_dk, valT_lst, valT_nsT, lenT_nsT, valT_tup, tupT_lst, tupT_tup, listT_lst, listT_tup, intcT_int, intT_int, addT_int, ordT_int, cmpT_int, cmpT_bl, cmpT_str, isT_non, isT_bl, isNonT_non, isNonT_int, isNonT_tup, isNonT_bl, negT_int, intO_int, sumT_ints, sortedT_ints, Option.map_some, Option.map_none, Option.bind_some, List.length_map, List.length_range, Bool.not_not, Bool.true_xor, Bool.false_xor, Bool.xor_false, Bool.xor_true, if_true, if_false, Bool.false_eq_true, reduceIte, Bool.not_true, Bool.not_false]
      cases he : decide ((0 : Int) < (e : Int)) with
      | true =>
        simp only [bnd_mret, bnd_assoc', ofO_some', noex_mret, noex_bnd, runF_nx, runF_rt, runF_bnd, runF_ite, runF_bndX, bndX_nx, bndX_rt, bndX_bnd, bndX_ite, bndN_nx, un2_tup, un3_tup, un4_tup, gIt_t, gIt_f, gIt_b, dnat, ixB_dk, ixB_dz, keyT_int, keyT_str, lenT_tup, lenT_lst, lenT_dk, truT_lst, truT_tup, truT_bl, truT_int, truT_non, blT_bl, asL_lst, asK_dk, valT_lst, valT_nsT, lenT_nsT, valT_tup, tupT_lst, tupT_tup, listT_lst, listT_tup, intcT_int, intT_int, addT_int, ordT_int, cmpT_int, cmpT_bl, cmpT_str, isT_non, isT_bl, isNonT_non, isNonT_int, isNonT_tup, isNonT_bl, negT_int, intO_int, sumT_ints, sortedT_ints, Option.map_some, Option.map_none, Option.bind_some, List.length_map, List.length_range, Bool.not_not, Bool.true_xor, Bool.false_xor, Bool.xor_false, Bool.xor_true, if_true, if_false, Bool.false_eq_true, reduceIte, Bool.not_true, Bool.not_false]
        refine wp_bnd (wp_pickT hcp (by omega) fun r s3 hr => ?_)
        exact fin r s3 _ (hc r hr) fun w' s' hx => hx
      | false =>
        simp only [bnd_mret, bnd_assoc', ofO_some', noex_mret, noex_bnd, runF_nx, runF_rt, runF_bnd, runF_ite, runF_bndX, bndX_nx, bndX_rt, bndX_bnd, bndX_ite, bndN_nx, un2_tup, un3_tup, un4_tup, gIt_t, gIt_f, gIt_b, dnat, ixB_dk, ixB_dz, keyT_int, keyT_str, lenT_tup, lenT_lst, lenT_dk, truT_lst, truT_tup, truT_bl, truT_int, truT_non, blT_bl, asL_lst, asK_dk, valT_lst, valT_nsT, lenT_nsT, valT_tup, tupT_lst, tupT_tup, listT_lst, listT_tup, intcT_int, intT_int, addT_int, ordT_int, cmpT_int, cmpT_bl, cmpT_str, isT_non, isT_bl, isNonT_non, isNonT_int, isNonT_tup, isNonT_bl, negT_int, intO_int, sumT_ints, sortedT_ints, Option.map_some, Option.map_none, Option.bind_some, List.length_map, List.length_range, Bool.not_not, Bool.true_xor, Bool.false_xor, Bool.xor_false, Bool.xor_true, if_true, if_false, Bool.false_eq_true, reduceIte, Bool.not_true, Bool.not_false, ok.ms]
        refine wp_bnd (wp_drawI (n := R) rfl (by omega) fun r s3 hr => ?_)
        exact fin r s3 _ (by omega) fun w' s' hx => hx
  · obtain ⟨w, a, rfl, hw, ha, han⟩ := hI
    simp at hw
    simp only [bnd_mret, bnd_assoc', ofO_some', noex_mret, noex_bnd, runF_nx, runF_rt, runF_bnd, runF_ite, runF_bndX, bnd_ite, bndX_nx, bndX_rt, bndX_bnd, bndX_ite, bndN_nx, un2_tup, un3_tup, un4_tup, gIt_t, gIt_f, gIt_b, dnat, ixB_dk, ixB_dz, keyT_int, keyT_str, lenT_tup, lenT_lst, lenT_dk, truT_lst, truT_tup, truT_bl, truT_int, truT_non, blT_bl, asL_lst, asK_dk, valT_lst, valT_nsT, lenT_nsT, valT_tup, tupT_lst, tupT_tup, listT_lst, listT_tup, intcT_int, intT_int, addT_int, ordT_int, cmpT_int, cmpT_bl, cmpT_str, isT_non, isT_bl, isNonT_non, isNonT_int, isNonT_tup, isNonT_bl, negT_int, intO_int, sumT_ints, sortedT_ints, Option.map_some, Option.map_none, Option.bind_some, List.length_map, List.length_range, Bool.not_not, Bool.true_xor, Bool.false_xor, Bool.xor_false, Bool.xor_true, if_true, if_false, Bool.false_eq_true, reduceIte, Bool.not_true, Bool.not_false]
    exact wp_ret (h w s (by omega) (by omega))

theorem plain_law (s : Drw) : wp m_law s fun v _ => v = .bl true := by
  unfold m_law
  simp only [bnd_mret, bnd_assoc', ofO_some', noex_mret, noex_bnd, runF_nx, runF_rt, runF_bnd, runF_ite, runF_bndX, bndX_nx, bndX_rt, bndX_bnd, bndX_ite, bndN_nx, un2_tup, un3_tup, un4_tup, gIt_t, gIt_f, gIt_b, dnat, ixB_dk, ixB_dz, keyT_int, keyT_str, lenT_tup, lenT_lst, lenT_dk, truT_lst, truT_tup, truT_bl, truT_int, truT_non, blT_bl, asL_lst, asK_dk, valT_lst, valT_nsT, lenT_nsT, valT_tup, tupT_lst, tupT_tup, listT_lst, listT_tup, intcT_int, intT_int, addT_int, ordT_int, cmpT_int, cmpT_bl, cmpT_str, isT_non, isT_bl, isNonT_non, isNonT_int, isNonT_tup, isNonT_bl, negT_int, intO_int, sumT_ints, sortedT_ints, Option.map_some, Option.map_none, Option.bind_some, List.length_map, List.length_range, Bool.not_not, Bool.true_xor, Bool.false_xor, Bool.xor_false, Bool.xor_true, if_true, if_false, Bool.false_eq_true, reduceIte, Bool.not_true, Bool.not_false]
  refine wp_bnd (wp_drawI (n := 4) rfl (by omega) fun v s1 hv => ?_)
  simp only [bnd_mret, bnd_assoc', ofO_some', noex_mret, noex_bnd, runF_nx, runF_rt, runF_bnd, runF_ite, runF_bndX, bndX_nx, bndX_rt, bndX_bnd, bndX_ite, bndN_nx, un2_tup, un3_tup, un4_tup, gIt_t, gIt_f, gIt_b, dnat, ixB_dk, ixB_dz, keyT_int, keyT_str, lenT_tup, lenT_lst, lenT_dk, truT_lst, truT_tup, truT_bl, truT_int, truT_non, blT_bl, asL_lst, asK_dk, valT_lst, valT_nsT, lenT_nsT, valT_tup, tupT_lst, tupT_tup, listT_lst, listT_tup, intcT_int, intT_int, addT_int, ordT_int, cmpT_int, cmpT_bl, cmpT_str, isT_non, isT_bl, isNonT_non, isNonT_int, isNonT_tup, isNonT_bl, negT_int, intO_int, sumT_ints, sortedT_ints, Option.map_some, Option.map_none, Option.bind_some, List.length_map, List.length_range, Bool.not_not, Bool.true_xor, Bool.false_xor, Bool.xor_false, Bool.xor_true, if_true, if_false, Bool.false_eq_true, reduceIte, Bool.not_true, Bool.not_false]
  refine wp_bnd (wp_drawI (n := 8) rfl (by omega) fun turns s2 ht => ?_)
  simp only [bnd_mret, bnd_assoc', ofO_some', noex_mret, noex_bnd, runF_nx, runF_rt, runF_bnd, runF_ite, runF_bndX, bndX_nx, bndX_rt, bndX_bnd, bndX_ite, bndN_nx, un2_tup, un3_tup, un4_tup, gIt_t, gIt_f, gIt_b, dnat, ixB_dk, ixB_dz, keyT_int, keyT_str, lenT_tup, lenT_lst, lenT_dk, truT_lst, truT_tup, truT_bl, truT_int, truT_non, blT_bl, asL_lst, asK_dk, valT_lst, valT_nsT, lenT_nsT, valT_tup, tupT_lst, tupT_tup, listT_lst, listT_tup, intcT_int, intT_int, addT_int, ordT_int, cmpT_int, cmpT_bl, cmpT_str, isT_non, isT_bl, isNonT_non, isNonT_int, isNonT_tup, isNonT_bl, negT_int, intO_int, sumT_ints, sortedT_ints, Option.map_some, Option.map_none, Option.bind_some, List.length_map, List.length_range, Bool.not_not, Bool.true_xor, Bool.false_xor, Bool.xor_false, Bool.xor_true, if_true, if_false, Bool.false_eq_true, reduceIte, Bool.not_true, Bool.not_false]
  refine wp_bnd (wp_ledger' (t := 1 + turns) (r := 1 + v) (by push_cast; rfl) (by push_cast; rfl) (by omega) (by omega) (by omega) fun L s3 ok hc6 hn hct hms => ?_)
  generalize hR : 1 + v = R at ok
  rw [show (1 : Int) + (v : Int) = (R : Int) by omega]
  refine wp_bnd (wp_circle (by omega) fun c s4 hcp hc => ?_)
  have hcl : c.length ≤ 6 := Nat.le_trans (nodup_le (hcp.imp fun {a b} z => Nat.ne_of_lt z) hc) (by omega)
  have hnp := ok.npos
  have hnl := ok.nle
  have ex : ∀ b : Bool, m__law_exact [.bl b, .bl b] = mret (.bl true) := fun b => exact_eq rfl
  simp only [bnd_mret, bnd_assoc', ofO_some', noex_mret, noex_bnd, runF_nx, runF_rt, runF_bnd, runF_ite, runF_bndX, bndX_nx, bndX_rt, bndX_bnd, bndX_ite, bndN_nx, un2_tup, un3_tup, un4_tup, gIt_t, gIt_f, gIt_b, dnat, ixB_dk, ixB_dz, keyT_int, keyT_str, lenT_tup, lenT_lst, lenT_dk, truT_lst, truT_tup, truT_bl, truT_int, truT_non, blT_bl, asL_lst, asK_dk, valT_lst, valT_nsT, lenT_nsT, valT_tup, tupT_lst, tupT_tup, listT_lst, listT_tup, intcT_int, intT_int, addT_int, ordT_int, cmpT_int, cmpT_bl, cmpT_str, isT_non, isT_bl, isNonT_non, isNonT_int, isNonT_tup, isNonT_bl, negT_int, intO_int, sumT_ints, sortedT_ints, Option.map_some, Option.map_none, Option.bind_some, List.length_map, List.length_range, Bool.not_not, Bool.true_xor, Bool.false_xor, Bool.xor_false, Bool.xor_true, if_true, if_false, Bool.false_eq_true, reduceIte, Bool.not_true, Bool.not_false, Led.t0]
  rw [show (L.fs.length : Int) = (L.n : Int) from rfl, show rng1T [T.int 3] = some ((List.range 3).map fun i : Nat => T.int (i : Int)) from rng1_ok (n := 3) (by omega)]
  simp only [bnd_mret, bnd_assoc', ofO_some', noex_mret, noex_bnd, runF_nx, runF_rt, runF_bnd, runF_ite, runF_bndX, bndX_nx, bndX_rt, bndX_bnd, bndX_ite, bndN_nx, un2_tup, un3_tup, un4_tup, gIt_t, gIt_f, gIt_b, dnat, ixB_dk, ixB_dz, keyT_int, keyT_str, lenT_tup, lenT_lst, lenT_dk, truT_lst, truT_tup, truT_bl, truT_int, truT_non, blT_bl, asL_lst, asK_dk, valT_lst, valT_nsT, lenT_nsT, valT_tup, tupT_lst, tupT_tup, listT_lst, listT_tup, intcT_int, intT_int, addT_int, ordT_int, cmpT_int, cmpT_bl, cmpT_str, isT_non, isT_bl, isNonT_non, isNonT_int, isNonT_tup, isNonT_bl, negT_int, intO_int, sumT_ints, sortedT_ints, Option.map_some, Option.map_none, Option.bind_some, List.length_map, List.length_range, Bool.not_not, Bool.true_xor, Bool.false_xor, Bool.xor_false, Bool.xor_true, if_true, if_false, Bool.false_eq_true, reduceIte, Bool.not_true, Bool.not_false]
  refine wp_bnd (wp_for (I := fun _ _ _ => True) trivial (fun pre y post x s e hI => ?_) (fun x s hI => ?_))
  · simp only [bnd_mret, bnd_assoc', ofO_some', noex_mret, noex_bnd, runF_nx, runF_rt, runF_bnd, runF_ite, runF_bndX, bndX_nx, bndX_rt, bndX_bnd, bndX_ite, bndN_nx, un2_tup, un3_tup, un4_tup, gIt_t, gIt_f, gIt_b, dnat, ixB_dk, ixB_dz, keyT_int, keyT_str, lenT_tup, lenT_lst, lenT_dk, truT_lst, truT_tup, truT_bl, truT_int, truT_non, blT_bl, asL_lst, asK_dk, valT_lst, valT_nsT, lenT_nsT, valT_tup, tupT_lst, tupT_tup, listT_lst, listT_tup, intcT_int, intT_int, addT_int, ordT_int, cmpT_int, cmpT_bl, cmpT_str, isT_non, isT_bl, isNonT_non, isNonT_int, isNonT_tup, isNonT_bl, negT_int, intO_int, sumT_ints, sortedT_ints, Option.map_some, Option.map_none, Option.bind_some, List.length_map, List.length_range, Bool.not_not, Bool.true_xor, Bool.false_xor, Bool.xor_false, Bool.xor_true, if_true, if_false, Bool.false_eq_true, reduceIte, Bool.not_true, Bool.not_false]
    refine wp_bnd (wp_drawI (n := L.n) rfl (by omega) fun j s5 hj => ?_)
    have hj : j < L.n := by omega
    refine wp_bnd (wp_walk ok hc (by omega) hj (fun w s6 hw hwp => ?_) (by omega))
    refine wp_bnd (wp_drawI (n := 4) rfl (by omega) fun e s7 _ => ?_)
    simp only [bnd_mret, bnd_assoc', ofO_some', noex_mret, noex_bnd, runF_nx, runF_rt, runF_bnd, runF_ite, runF_bndX, bndX_nx, bndX_rt, bndX_bnd, bndX_ite, bndN_nx, un2_tup, un3_tup, un4_tup, gIt_t, gIt_f, gIt_b, dnat, ixB_dk, ixB_dz, keyT_int, keyT_str, lenT_tup, lenT_lst, lenT_dk, truT_lst, truT_tup, truT_bl, truT_int, truT_non, blT_bl, asL_lst, asK_dk, valT_lst, valT_nsT, lenT_nsT, valT_tup, tupT_lst, tupT_tup, listT_lst, listT_tup, intcT_int, intT_int, addT_int, ordT_int, cmpT_int, cmpT_bl, cmpT_str, isT_non, isT_bl, isNonT_non, isNonT_int, isNonT_tup, isNonT_bl, negT_int, intO_int, sumT_ints, sortedT_ints, Option.map_some, Option.map_none, Option.bind_some, List.length_map, List.length_range, Bool.not_not, Bool.true_xor, Bool.false_xor, Bool.xor_false, Bool.xor_true, if_true, if_false, Bool.false_eq_true, reduceIte, Bool.not_true, Bool.not_false, ixB_lastL (f := T.int) 0 hwp]
    have kk : ∀ (b : Bool) (x : Int) (s : Drw) (Q' : T → Drw → Prop), (∀ (k : Int) s', Q' (.int k) s') → wp (if b = true then mret (.int x) else m__law_draw [.tok, .int (L.n : Int)]) s Q' := fun b x s Q' hq => by
      cases b with
      | true => simp only [if_true]; exact wp_ret (hq _ _)
      | false => simp only [Bool.false_eq_true, if_false]; exact wp_drawI (n := L.n) rfl (by omega) fun v s' _ => hq _ _
    refine wp_bnd (kk _ _ _ _ fun k s8 => ?_)
    refine wp_bnd (wp_bent (by omega) fun link s9 hlk => ?_)
    simp only [bnd_mret, bnd_assoc', ofO_some', noex_mret, noex_bnd, runF_nx, runF_rt, runF_bnd, runF_ite, runF_bndX, bndX_nx, bndX_rt, bndX_bnd, bndX_ite, bndN_nx, un2_tup, un3_tup, un4_tup, gIt_t, gIt_f, gIt_b, dnat, ixB_dk, ixB_dz, keyT_int, keyT_str, lenT_tup, lenT_lst, lenT_dk, truT_lst, truT_tup, truT_bl, truT_int, truT_non, blT_bl, asL_lst, asK_dk, valT_lst, valT_nsT, lenT_nsT, valT_tup, tupT_lst, tupT_tup, listT_lst, listT_tup, intcT_int, intT_int, addT_int, ordT_int, cmpT_int, cmpT_bl, cmpT_str, isT_non, isT_bl, isNonT_non, isNonT_int, isNonT_tup, isNonT_bl, negT_int, intO_int, sumT_ints, sortedT_ints, Option.map_some, Option.map_none, Option.bind_some, List.length_map, List.length_range, Bool.not_not, Bool.true_xor, Bool.false_xor, Bool.xor_false, Bool.xor_true, if_true, if_false, Bool.false_eq_true, reduceIte, Bool.not_true, Bool.not_false, link_right_eq ok hc hj (show link.length ≤ 1000 by omega), judge_link_eq ok hc hj (show link.length ≤ 1000 by omega), ex]
    refine wp_bnd (wp_pickI (l := [L.n, L.n, 1, 0]) (by simp) (by simp) fun st s10 hst => ?_)
    have hst : st ≤ 64 := by simp at hst; omega
    simp only [bnd_mret, bnd_assoc', ofO_some', noex_mret, noex_bnd, runF_nx, runF_rt, runF_bnd, runF_ite, runF_bndX, bndX_nx, bndX_rt, bndX_bnd, bndX_ite, bndN_nx, un2_tup, un3_tup, un4_tup, gIt_t, gIt_f, gIt_b, dnat, ixB_dk, ixB_dz, keyT_int, keyT_str, lenT_tup, lenT_lst, lenT_dk, truT_lst, truT_tup, truT_bl, truT_int, truT_non, blT_bl, asL_lst, asK_dk, valT_lst, valT_nsT, lenT_nsT, valT_tup, tupT_lst, tupT_tup, listT_lst, listT_tup, intcT_int, intT_int, addT_int, ordT_int, cmpT_int, cmpT_bl, cmpT_str, isT_non, isT_bl, isNonT_non, isNonT_int, isNonT_tup, isNonT_bl, negT_int, intO_int, sumT_ints, sortedT_ints, Option.map_some, Option.map_none, Option.bind_some, List.length_map, List.length_range, Bool.not_not, Bool.true_xor, Bool.false_xor, Bool.xor_false, Bool.xor_true, if_true, if_false, Bool.false_eq_true, reduceIte, Bool.not_true, Bool.not_false, rng1_ok (show st < 2 ^ 62 by omega)]
    refine wp_bnd (wp_for (I := fun _ x _ => ∃ hs : List Nat, x = .lst (hs.map nT) ∧ hs.Nodup ∧ ∀ n ∈ hs, n < L.n) ⟨[j], rfl, by simp, by simpa using hj⟩ (fun pre2 y2 post2 x s e2 hI => ?_) (fun x s hI => ?_))
    · obtain ⟨hs, rfl, hnd, hb⟩ := hI
      have hhl := nodup_le hnd hb
      simp only [bnd_mret, bnd_assoc', ofO_some', noex_mret, noex_bnd, runF_nx, runF_rt, runF_bnd, runF_ite, runF_bndX, bndX_nx, bndX_rt, bndX_bnd, bndX_ite, bndN_nx, un2_tup, un3_tup, un4_tup, gIt_t, gIt_f, gIt_b, dnat, ixB_dk, ixB_dz, keyT_int, keyT_str, lenT_tup, lenT_lst, lenT_dk, truT_lst, truT_tup, truT_bl, truT_int, truT_non, blT_bl, asL_lst, asK_dk, valT_lst, valT_nsT, lenT_nsT, valT_tup, tupT_lst, tupT_tup, listT_lst, listT_tup, intcT_int, intT_int, addT_int, ordT_int, cmpT_int, cmpT_bl, cmpT_str, isT_non, isT_bl, isNonT_non, isNonT_int, isNonT_tup, isNonT_bl, negT_int, intO_int, sumT_ints, sortedT_ints, Option.map_some, Option.map_none, Option.bind_some, List.length_map, List.length_range, Bool.not_not, Bool.true_xor, Bool.false_xor, Bool.xor_false, Bool.xor_true, if_true, if_false, Bool.false_eq_true, reduceIte, Bool.not_true, Bool.not_false, rng1_ok (show L.n < 2 ^ 62 by omega)]
      rw [lcM_flt (p := fun n => !hs.contains n && decide (0 < (c.filter fun r => decide (0 < (hs.filter fun one => L.mk' r one == L.mk' r n).length)).length)) (h := nT) (fun n hn => by
        have hn : n < L.n := by simpa using hn
        simp only [bnd_mret, bnd_assoc', ofO_some', noex_mret, noex_bnd, runF_nx, runF_rt, runF_bnd, runF_ite, runF_bndX, bnd_ite, bndX_nx, bndX_rt, bndX_bnd, bndX_ite, bndN_nx, un2_tup, un3_tup, un4_tup, gIt_t, gIt_f, gIt_b, dnat, ixB_dk, ixB_dz, keyT_int, keyT_str, lenT_tup, lenT_lst, lenT_dk, truT_lst, truT_tup, truT_bl, truT_int, truT_non, blT_bl, asL_lst, asK_dk, valT_lst, valT_nsT, lenT_nsT, valT_tup, tupT_lst, tupT_tup, listT_lst, listT_tup, intcT_int, intT_int, addT_int, ordT_int, cmpT_int, cmpT_bl, cmpT_str, isT_non, isT_bl, isNonT_non, isNonT_int, isNonT_tup, isNonT_bl, negT_int, intO_int, sumT_ints, sortedT_ints, Option.map_some, Option.map_none, Option.bind_some, List.length_map, List.length_range, Bool.not_not, Bool.true_xor, Bool.false_xor, Bool.xor_false, Bool.xor_true, if_true, if_false, Bool.false_eq_true, reduceIte, Bool.not_true, Bool.not_false, inT_nl]
        cases z : hs.contains n with
        | true => simp only [bnd_mret, bnd_assoc', ofO_some', noex_mret, noex_bnd, runF_nx, runF_rt, runF_bnd, runF_ite, runF_bndX, bnd_ite, bndX_nx, bndX_rt, bndX_bnd, bndX_ite, bndN_nx, un2_tup, un3_tup, un4_tup, gIt_t, gIt_f, gIt_b, dnat, ixB_dk, ixB_dz, keyT_int, keyT_str, lenT_tup, lenT_lst, lenT_dk, truT_lst, truT_tup, truT_bl, truT_int, truT_non, blT_bl, asL_lst, asK_dk, valT_lst, valT_nsT, lenT_nsT, valT_tup, tupT_lst, tupT_tup, listT_lst, listT_tup, intcT_int, intT_int, addT_int, ordT_int, cmpT_int, cmpT_bl, cmpT_str, isT_non, isT_bl, isNonT_non, isNonT_int, isNonT_tup, isNonT_bl, negT_int, intO_int, sumT_ints, sortedT_ints, Option.map_some, Option.map_none, Option.bind_some, List.length_map, List.length_range, Bool.not_not, Bool.true_xor, Bool.false_xor, Bool.xor_false, Bool.xor_true, if_true, if_false, Bool.false_eq_true, reduceIte, Bool.not_true, Bool.not_false, Bool.false_and]
        | false =>
          simp only [bnd_mret, bnd_assoc', ofO_some', noex_mret, noex_bnd, runF_nx, runF_rt, runF_bnd, runF_ite, runF_bndX, bnd_ite, bndX_nx, bndX_rt, bndX_bnd, bndX_ite, bndN_nx, un2_tup, un3_tup, un4_tup, gIt_t, gIt_f, gIt_b, dnat, ixB_dk, ixB_dz, keyT_int, keyT_str, lenT_tup, lenT_lst, lenT_dk, truT_lst, truT_tup, truT_bl, truT_int, truT_non, blT_bl, asL_lst, asK_dk, valT_lst, valT_nsT, lenT_nsT, valT_tup, tupT_lst, tupT_tup, listT_lst, listT_tup, intcT_int, intT_int, addT_int, ordT_int, cmpT_int, cmpT_bl, cmpT_str, isT_non, isT_bl, isNonT_non, isNonT_int, isNonT_tup, isNonT_bl, negT_int, intO_int, sumT_ints, sortedT_ints, Option.map_some, Option.map_none, Option.bind_some, List.length_map, List.length_range, Bool.not_not, Bool.true_xor, Bool.false_xor, Bool.xor_false, Bool.xor_true, if_true, if_false, Bool.false_eq_true, reduceIte, Bool.not_true, Bool.not_false]
          rw [lcM_flt (p := fun r => decide (0 < (hs.filter fun one => L.mk' r one == L.mk' r n).length)) (h := nT) (fun r hr => by
            have hr := hc r hr
            try simp only [bnd_mret, bnd_assoc', ofO_some', noex_mret, noex_bnd, runF_nx, runF_rt, runF_bnd, runF_ite, runF_bndX, bnd_ite, bndX_nx, bndX_rt, bndX_bnd, bndX_ite, bndN_nx, un2_tup, un3_tup, un4_tup, gIt_t, gIt_f, gIt_b, dnat, ixB_dk, ixB_dz, keyT_int, keyT_str, lenT_tup, lenT_lst, lenT_dk, truT_lst, truT_tup, truT_bl, truT_int, truT_non, blT_bl, asL_lst, asK_dk, valT_lst, valT_nsT, lenT_nsT, valT_tup, tupT_lst, tupT_tup, listT_lst, listT_tup, intcT_int, intT_int, addT_int, ordT_int, cmpT_int, cmpT_bl, cmpT_str, isT_non, isT_bl, isNonT_non, isNonT_int, isNonT_tup, isNonT_bl, negT_int, intO_int, sumT_ints, sortedT_ints, Option.map_some, Option.map_none, Option.bind_some, List.length_map, List.length_range, Bool.not_not, Bool.true_xor, Bool.false_xor, Bool.xor_false, Bool.xor_true, if_true, if_false, Bool.false_eq_true, reduceIte, Bool.not_true, Bool.not_false]
            rw [lcM_flt (p := fun one => L.mk' r one == L.mk' r n) (h := nT) (fun m hm => by
              have hm := hb m hm
              simp only [bnd_mret, bnd_assoc', ofO_some', noex_mret, noex_bnd, runF_nx, runF_rt, runF_bnd, runF_ite, runF_bndX, bnd_ite, bndX_nx, bndX_rt, bndX_bnd, bndX_ite, bndN_nx, un2_tup, un3_tup, un4_tup, gIt_t, gIt_f, gIt_b, dnat, ixB_dk, ixB_dz, keyT_int, keyT_str, lenT_tup, lenT_lst, lenT_dk, truT_lst, truT_tup, truT_bl, truT_int, truT_non, blT_bl, asL_lst, asK_dk, valT_lst, valT_nsT, lenT_nsT, valT_tup, tupT_lst, tupT_tup, listT_lst, listT_tup, intcT_int, intT_int, addT_int, ordT_int, cmpT_int, cmpT_bl, cmpT_str, isT_non, isT_bl, isNonT_non, isNonT_int, isNonT_tup, isNonT_bl, negT_int, intO_int, sumT_ints, sortedT_ints, Option.map_some, Option.map_none, Option.bind_some, List.length_map, List.length_range, Bool.not_not, Bool.true_xor, Bool.false_xor, Bool.xor_false, Bool.xor_true, if_true, if_false, Bool.false_eq_true, reduceIte, Bool.not_true, Bool.not_false, Led.t2, nT, ok.i_ms hr, ok.i_mk hr hn, ok.i_mk hr hm]) (by omega)]
            simp only [bnd_mret, bnd_assoc', ofO_some', noex_mret, noex_bnd, runF_nx, runF_rt, runF_bnd, runF_ite, runF_bndX, bnd_ite, bndX_nx, bndX_rt, bndX_bnd, bndX_ite, bndN_nx, un2_tup, un3_tup, un4_tup, gIt_t, gIt_f, gIt_b, dnat, ixB_dk, ixB_dz, keyT_int, keyT_str, lenT_tup, lenT_lst, lenT_dk, truT_lst, truT_tup, truT_bl, truT_int, truT_non, blT_bl, asL_lst, asK_dk, valT_lst, valT_nsT, lenT_nsT, valT_tup, tupT_lst, tupT_tup, listT_lst, listT_tup, intcT_int, intT_int, addT_int, ordT_int, cmpT_int, cmpT_bl, cmpT_str, isT_non, isT_bl, isNonT_non, isNonT_int, isNonT_tup, isNonT_bl, negT_int, intO_int, sumT_ints, sortedT_ints, Option.map_some, Option.map_none, Option.bind_some, List.length_map, List.length_range, Bool.not_not, Bool.true_xor, Bool.false_xor, Bool.xor_false, Bool.xor_true, if_true, if_false, Bool.false_eq_true, reduceIte, Bool.not_true, Bool.not_false, nT]
            by_cases q : 0 < (hs.filter fun one => L.mk' r one == L.mk' r n).length
            · rw [decide_eq_true q, decide_eq_true (by omega)]
            · rw [decide_eq_false q, decide_eq_false (by omega)]) (by omega)]
          simp only [bnd_mret, bnd_assoc', ofO_some', noex_mret, noex_bnd, runF_nx, runF_rt, runF_bnd, runF_ite, runF_bndX, bnd_ite, bndX_nx, bndX_rt, bndX_bnd, bndX_ite, bndN_nx, un2_tup, un3_tup, un4_tup, gIt_t, gIt_f, gIt_b, dnat, ixB_dk, ixB_dz, keyT_int, keyT_str, lenT_tup, lenT_lst, lenT_dk, truT_lst, truT_tup, truT_bl, truT_int, truT_non, blT_bl, asL_lst, asK_dk, valT_lst, valT_nsT, lenT_nsT, valT_tup, tupT_lst, tupT_tup, listT_lst, listT_tup, intcT_int, intT_int, addT_int, ordT_int, cmpT_int, cmpT_bl, cmpT_str, isT_non, isT_bl, isNonT_non, isNonT_int, isNonT_tup, isNonT_bl, negT_int, intO_int, sumT_ints, sortedT_ints, Option.map_some, Option.map_none, Option.bind_some, List.length_map, List.length_range, Bool.not_not, Bool.true_xor, Bool.false_xor, Bool.xor_false, Bool.xor_true, if_true, if_false, Bool.false_eq_true, reduceIte, Bool.not_true, Bool.not_false, nT]
          by_cases q : 0 < (c.filter fun r => decide (0 < (hs.filter fun one => L.mk' r one == L.mk' r n).length)).length
          · rw [decide_eq_true q, decide_eq_true (by omega)]; rfl
          · rw [decide_eq_false q, decide_eq_false (by omega)]; rfl) (by simp; omega)]
      simp only [bnd_mret, bnd_assoc', ofO_some', noex_mret, noex_bnd, runF_nx, runF_rt, runF_bnd, runF_ite, runF_bndX, bndX_nx, bndX_rt, bndX_bnd, bndX_ite, bndN_nx, un2_tup, un3_tup, un4_tup, gIt_t, gIt_f, gIt_b, dnat, ixB_dk, ixB_dz, keyT_int, keyT_str, lenT_tup, lenT_lst, lenT_dk, truT_lst, truT_tup, truT_bl, truT_int, truT_non, blT_bl, asL_lst, asK_dk, valT_lst, valT_nsT, lenT_nsT, valT_tup, tupT_lst, tupT_tup, listT_lst, listT_tup, intcT_int, intT_int, addT_int, ordT_int, cmpT_int, cmpT_bl, cmpT_str, isT_non, isT_bl, isNonT_non, isNonT_int, isNonT_tup, isNonT_bl, negT_int, intO_int, sumT_ints, sortedT_ints, Option.map_some, Option.map_none, Option.bind_some, List.length_map, List.length_range, Bool.not_not, Bool.true_xor, Bool.false_xor, Bool.xor_false, Bool.xor_true, if_true, if_false, Bool.false_eq_true, reduceIte, Bool.not_true, Bool.not_false]
      generalize hX : ((List.range L.n).filter fun n => !hs.contains n && decide (0 < (c.filter fun r => decide (0 < (hs.filter fun one => L.mk' r one == L.mk' r n).length)).length)) = X
      have hXn : X.Nodup := by rw [← hX]; exact List.Pairwise.filter _ List.nodup_range
      have hXm : ∀ n ∈ X, n < L.n ∧ n ∉ hs := fun n hn => by
        rw [← hX] at hn
        obtain ⟨h1, h2⟩ := List.mem_filter.mp hn
        refine ⟨List.mem_range.mp h1, fun hm => ?_⟩
        rw [Bool.and_eq_true] at h2
        have := h2.1
        rw [List.contains_iff_mem.mpr hm] at this; cases this
      have hXl := nodup_le hXn fun n hn => (hXm n hn).1
      rw [addT_lst (by simp; omega), ← List.map_append]
      simp only [bnd_mret, bnd_assoc', ofO_some', noex_mret, noex_bnd, runF_nx, runF_rt, runF_bnd, runF_ite, runF_bndX, bndX_nx, bndX_rt, bndX_bnd, bndX_ite, bndN_nx, un2_tup, un3_tup, un4_tup, gIt_t, gIt_f, gIt_b, dnat, ixB_dk, ixB_dz, keyT_int, keyT_str, lenT_tup, lenT_lst, lenT_dk, truT_lst, truT_tup, truT_bl, truT_int, truT_non, blT_bl, asL_lst, asK_dk, valT_lst, valT_nsT, lenT_nsT, valT_tup, tupT_lst, tupT_tup, listT_lst, listT_tup, intcT_int, intT_int, addT_int, ordT_int, cmpT_int, cmpT_bl, cmpT_str, isT_non, isT_bl, isNonT_non, isNonT_int, isNonT_tup, isNonT_bl, negT_int, intO_int, sumT_ints, sortedT_ints, Option.map_some, Option.map_none, Option.bind_some, List.length_map, List.length_range, Bool.not_not, Bool.true_xor, Bool.false_xor, Bool.xor_false, Bool.xor_true, if_true, if_false, Bool.false_eq_true, reduceIte, Bool.not_true, Bool.not_false]
      refine wp_ret ⟨hs ++ X, rfl, List.nodup_append.mpr ⟨hnd, hXn, fun a ha b hb' e => (hXm b hb').2 (e ▸ ha)⟩, fun n hn => ?_⟩
      rcases List.mem_append.mp hn with z | z
      · exact hb n z
      · exact (hXm n z).1
    · obtain ⟨hs, rfl, hnd, hb⟩ := hI
      have hhl := nodup_le hnd hb
      simp only [bnd_mret, bnd_assoc', ofO_some', noex_mret, noex_bnd, runF_nx, runF_rt, runF_bnd, runF_ite, runF_bndX, bndX_nx, bndX_rt, bndX_bnd, bndX_ite, bndN_nx, un2_tup, un3_tup, un4_tup, gIt_t, gIt_f, gIt_b, dnat, ixB_dk, ixB_dz, keyT_int, keyT_str, lenT_tup, lenT_lst, lenT_dk, truT_lst, truT_tup, truT_bl, truT_int, truT_non, blT_bl, asL_lst, asK_dk, valT_lst, valT_nsT, lenT_nsT, valT_tup, tupT_lst, tupT_tup, listT_lst, listT_tup, intcT_int, intT_int, addT_int, ordT_int, cmpT_int, cmpT_bl, cmpT_str, isT_non, isT_bl, isNonT_non, isNonT_int, isNonT_tup, isNonT_bl, negT_int, intO_int, sumT_ints, sortedT_ints, Option.map_some, Option.map_none, Option.bind_some, List.length_map, List.length_range, Bool.not_not, Bool.true_xor, Bool.false_xor, Bool.xor_false, Bool.xor_true, if_true, if_false, Bool.false_eq_true, reduceIte, Bool.not_true, Bool.not_false]
      refine wp_bnd (wp_drawI (n := L.n) rfl (by omega) fun k2 s11 hk2 => ?_)
      rw [nT_map]
      refine wp_bnd (wp_shuffled (by unfold ii; rw [List.length_map]; omega) fun ys s12 hys => ?_)
      have hyl : ys.length ≤ 64 := by rw [hys]; unfold ii; rw [List.length_map]; omega
      refine wp_bnd (wp_bent (by omega) fun hg s13 hgl => ?_)
      simp only [bnd_mret, bnd_assoc', ofO_some', noex_mret, noex_bnd, runF_nx, runF_rt, runF_bnd, runF_ite, runF_bndX, bndX_nx, bndX_rt, bndX_bnd, bndX_ite, bndN_nx, un2_tup, un3_tup, un4_tup, gIt_t, gIt_f, gIt_b, dnat, ixB_dk, ixB_dz, keyT_int, keyT_str, lenT_tup, lenT_lst, lenT_dk, truT_lst, truT_tup, truT_bl, truT_int, truT_non, blT_bl, asL_lst, asK_dk, valT_lst, valT_nsT, lenT_nsT, valT_tup, tupT_lst, tupT_tup, listT_lst, listT_tup, intcT_int, intT_int, addT_int, ordT_int, cmpT_int, cmpT_bl, cmpT_str, isT_non, isT_bl, isNonT_non, isNonT_int, isNonT_tup, isNonT_bl, negT_int, intO_int, sumT_ints, sortedT_ints, Option.map_some, Option.map_none, Option.bind_some, List.length_map, List.length_range, Bool.not_not, Bool.true_xor, Bool.false_xor, Bool.xor_false, Bool.xor_true, if_true, if_false, Bool.false_eq_true, reduceIte, Bool.not_true, Bool.not_false, hedge_right_eq ok hc (show hg.length ≤ 1000 by omega), judge_hedge_eq ok hc (show c.length ≤ 64 by omega), ex]
      exact wp_ret trivial
  · simp only [bnd_mret, bnd_assoc', ofO_some', noex_mret, noex_bnd, runF_nx, runF_rt, runF_bnd, runF_ite, runF_bndX, bndX_nx, bndX_rt, bndX_bnd, bndX_ite, bndN_nx, un2_tup, un3_tup, un4_tup, gIt_t, gIt_f, gIt_b, dnat, ixB_dk, ixB_dz, keyT_int, keyT_str, lenT_tup, lenT_lst, lenT_dk, truT_lst, truT_tup, truT_bl, truT_int, truT_non, blT_bl, asL_lst, asK_dk, valT_lst, valT_nsT, lenT_nsT, valT_tup, tupT_lst, tupT_tup, listT_lst, listT_tup, intcT_int, intT_int, addT_int, ordT_int, cmpT_int, cmpT_bl, cmpT_str, isT_non, isT_bl, isNonT_non, isNonT_int, isNonT_tup, isNonT_bl, negT_int, intO_int, sumT_ints, sortedT_ints, Option.map_some, Option.map_none, Option.bind_some, List.length_map, List.length_range, Bool.not_not, Bool.true_xor, Bool.false_xor, Bool.xor_false, Bool.xor_true, if_true, if_false, Bool.false_eq_true, reduceIte, Bool.not_true, Bool.not_false]
    exact wp_ret rfl
theorem plain : Plain fn_law 63 := r_law plain_law

end K12
open PySem PySem.W PyProof.Rows
set_option maxHeartbeats 0 in
theorem PySem.Challenge.cw_veiledcircles_k12_links_judged_holds : PySem.Challenge.rw_veiledcircles_k12_links_judged.Holds := by
  w_on; o_law; k_head; (case hw => w_witness2)
  k_fill
  refine EV.walk_ev (l := PySem.Challenge.rw_veiledcircles_k12_links_judged) (n := 63) (k := 13) (cn := fun _ _ _ => False) (f := K12.fn_law) rfl (by decide) rfl ⟨rfl, by decide, by decide⟩ (fun w h Y => PySem.W.kIn_of Y) ?F K12.plain
  case F =>
    intro w mg fa h KX G hmg
    refine' K12.all_mk KX G hmg ?a0 ?l0 ?c0 ?k0 ?a1 ?l1 ?c1 ?k1 ?a2 ?l2 ?c2 ?k2 ?a3 ?l3 ?c3 ?k3 ?a4 ?l4 ?c4 ?k4 ?a5 ?l5 ?c5 ?k5 ?a6 ?l6 ?c6 ?k6 ?a7 ?l7 ?c7 ?k7 ?a8 ?l8 ?c8 ?k8 ?a9 ?l9 ?c9 ?k9 ?a10 ?l10 ?c10 ?k10 ?a11 ?l11 ?c11 ?k11 ?a12 ?l12 ?c12 ?k12 ?a13 ?l13 ?c13 ?k13 ?a14 ?l14 ?c14 ?k14 ?a15 ?l15 ?c15 ?k15 ?a16 ?l16 ?c16 ?k16 ?a17 ?l17 ?c17 ?k17 ?a18 ?l18 ?c18 ?k18 ?a19 ?l19 ?c19 ?k19 ?aL ?lL ?cL ?kL ?z0 ?z1 ?z2 ?z3 ?z4 ?z5 ?z6 ?z7 ?z8 ?z9 ?z10 ?z11 ?z12 ?z13 ?z14 ?z15 ?z16
    (case a0 => k_is); (case l0 => k_is); (case c0 => k_is); (case k0 => k_is); (case a1 => k_is); (case l1 => k_is); (case c1 => k_is); (case k1 => k_is); (case a2 => k_is); (case l2 => k_is); (case c2 => k_is); (case k2 => k_is); (case a3 => k_is); (case l3 => k_is); (case c3 => k_is); (case k3 => k_is); (case a4 => k_is); (case l4 => k_is); (case c4 => k_is); (case k4 => k_is); (case a5 => k_is); (case l5 => k_is); (case c5 => k_is); (case k5 => k_is); (case a6 => k_is); (case l6 => k_is); (case c6 => k_is); (case k6 => k_is); (case a7 => k_is); (case l7 => k_is); (case c7 => k_is); (case k7 => k_is); (case a8 => k_is); (case l8 => k_is); (case c8 => k_is); (case k8 => k_is); (case a9 => k_is); (case l9 => k_is); (case c9 => k_is); (case k9 => k_is); (case a10 => k_is); (case l10 => k_is); (case c10 => k_is); (case k10 => k_is); (case a11 => k_is); (case l11 => k_is); (case c11 => k_is); (case k11 => k_is); (case a12 => k_is); (case l12 => k_is); (case c12 => k_is); (case k12 => k_is); (case a13 => k_is); (case l13 => k_is); (case c13 => k_is); (case k13 => k_is); (case a14 => k_is); (case l14 => k_is); (case c14 => k_is); (case k14 => k_is); (case a15 => k_is); (case l15 => k_is); (case c15 => k_is); (case k15 => k_is); (case a16 => k_is); (case l16 => k_is); (case c16 => k_is); (case k16 => k_is); (case a17 => k_is); (case l17 => k_is); (case c17 => k_is); (case k17 => k_is); (case a18 => k_is); (case l18 => k_is); (case c18 => k_is); (case k18 => k_is); (case a19 => k_is); (case l19 => k_is); (case c19 => k_is); (case k19 => k_is); (case aL => k_is); (case lL => k_is); (case cL => k_is); (case kL => k_is); (case z0 => k_is); (case z1 => k_is); (case z2 => k_is); (case z3 => k_is); (case z4 => k_is); (case z5 => k_is); (case z6 => k_is); (case z7 => k_is); (case z8 => k_is); (case z9 => k_is); (case z10 => k_is); (case z11 => k_is); (case z12 => k_is); (case z13 => k_is); (case z14 => k_is); (case z15 => k_is); (case z16 => k_is)
