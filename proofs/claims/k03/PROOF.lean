import PyProof.Rows.All
import HandS.CallSlots
import HandS.Comp
import HandS.Conv
import HandS.Deep
import HandS.Dict
import HandS.Ends
import HandS.ExcOwn
import HandS.Flow
import HandS.ForMost
import HandS.IsInst
import HandS.Iter
import HandS.More
import HandS.Rev
import HandS.SortInts
import HandS.TupAny
import HandS.TupLe
import HandS.WordsDict
import HandS.WordsExc
import HandS.Zip
import PySem.Challenge.RW_veiledcircles_k03_whole_bounds_shut_out
set_option Elab.async false
set_option linter.all false
set_option maxRecDepth 100000
set_option autoImplicit false
namespace EV
open PySem PySem.Spec PyProof.Rows L2

/-! ### plain values and a plain heap -/
inductive Val where
  | non | bl (b : Bool) | int (i : Int) | str (x : Str) | tup (xs : List Val) | wt (xs : List Val) | ref (n : Nat) | ty (n : String) | wl (xs : List Val)
  deriving Inhabited
inductive Ob where
  | lst (xs : List Val) | dk (kvs : List (Key × Val)) | dt (kvs : List (List Key × Val))
  deriving Inhabited
abbrev AH := List Ob
abbrev Lv := List (Option Val)
structure Exc where
  cls : Str
  fs : List (Str × Val)
abbrev VQ := Val → AH → Prop
abbrev XQ := Exc → AH → Prop
abbrev Den := Lv → AH → VQ → XQ → Prop

/-- a tuple of the written part -/
def SqW (K : PySem.W.Frag) (a : Addr) (xs : List V) : Prop := ∀ H : Hp, SqT K H a xs
def SqWL (K : PySem.W.Frag) (a : Addr) (xs : List V) : Prop := ∀ H : Hp, SqL K H a xs
mutual
def Rep (K : PySem.W.Frag) (r : List Addr) (H : Hp) : Val → V → Prop
  | .non, x => x = .non
  | .bl b, x => x = .bl b
  | .int i, x => x = .int i
  | .str s, x => x = .str s
  | .tup vs, x => ∃ a xs, x = .ref a ∧ H a = some (.tup xs) ∧ Reps K r H vs xs
  | .wt vs, x => ∃ a xs, x = .ref a ∧ SqW K a xs ∧ Reps K r H vs xs
  | .ref n, x => ∃ a, r[n]? = some a ∧ x = .ref a
  | .ty n, x => x = .ty n
  | .wl vs, x => ∃ a xs, x = .ref a ∧ ((∃ o, H a = some (.frz o (.lst xs))) ∨ SqWL K a xs) ∧ Reps K r H vs xs
def Reps (K : PySem.W.Frag) (r : List Addr) (H : Hp) : List Val → List V → Prop
  | [], xs => xs = []
  | v :: vs, xs => ∃ y ys, xs = y :: ys ∧ Rep K r H v y ∧ Reps K r H vs ys
end

def RKV (κ : Type) (K : PySem.W.Frag) (r : List Addr) (H : Hp) (kvs : List (κ × Val)) (xs : List (κ × V)) : Prop :=
  kvs.map (·.1) = xs.map (·.1) ∧ Reps K r H (kvs.map (·.2)) (xs.map (·.2))

def OR (K : PySem.W.Frag) (r : List Addr) (H : Hp) (a : Addr) : Ob → Prop
  | .lst vs => ∃ xs, H a = some (.lst xs) ∧ Reps K r H vs xs
  | .dk kvs => ∃ xs, H a = some (.dK xs) ∧ RKV Key K r H kvs xs
  | .dt kvs => ∃ xs, H a = some (.dT xs) ∧ RKV (List Key) K r H kvs xs

structure HRel (K : PySem.W.Frag) (r : List Addr) (A : AH) (H : Hp) : Prop where
  len : A.length = r.length
  nd : r.Nodup
  ob : ∀ (n : Nat) (a : Addr) (o : Ob), r[n]? = some a → A[n]? = some o → OR K r H a o

structure Ext (r r' : List Addr) (H H' : Hp) : Prop where
  pre : ∃ l, r' = r ++ l
  keep : ∀ b o, H b = some o → b ∉ r → H' b = some o
  new : ∀ b, b ∈ r' → b ∉ r → H b = none

theorem Ext.refl (r : List Addr) (H : Hp) : Ext r r H H := ⟨⟨[], by simp⟩, fun _ _ h _ => h, fun _ h n => absurd h n⟩
theorem Ext.trans {r r1 r2 : List Addr} {H H1 H2 : Hp} (a : Ext r r1 H H1) (b : Ext r1 r2 H1 H2) : Ext r r2 H H2 := by
  obtain ⟨l1, e1⟩ := a.pre
  obtain ⟨l2, e2⟩ := b.pre
  refine ⟨⟨l1 ++ l2, by rw [e2, e1, List.append_assoc]⟩, fun c o h n => ?_, fun c h n => ?_⟩
  · refine b.keep c o (a.keep c o h n) fun hc => ?_
    have := a.new c hc n
    rw [this] at h; cases h
  · by_cases hc : c ∈ r1
    · exact a.new c hc n
    · have z := b.new c h hc
      cases e : H c with
      | none => rfl
      | some o => rw [a.keep c o e n] at z; cases z

theorem Ext.at {r r' : List Addr} {H H' : Hp} (e : Ext r r' H H') {n : Nat} {a : Addr} (h : r[n]? = some a) : r'[n]? = some a := by
  obtain ⟨l, rfl⟩ := e.pre
  have hl : n < r.length := by
    rcases Nat.lt_or_ge n r.length with q | q
    · exact q
    · rw [List.getElem?_eq_none q] at h; cases h
  rw [List.getElem?_append_left hl]; exact h

section
variable {K : PySem.W.Frag} {r r' : List Addr} {A A' : AH} {H H' : Hp} {a b : Addr}
theorem HRel.has (R : HRel K r A H) (h : a ∈ r) : ∃ (n : Nat) (o : Ob), r[n]? = some a ∧ A[n]? = some o ∧ OR K r H a o := by
  obtain ⟨n, hn, e⟩ := List.mem_iff_getElem.mp h
  have e1 : r[n]? = some a := by rw [List.getElem?_eq_getElem hn, e]
  have hn' : n < A.length := by rw [R.len]; exact hn
  have e2 : A[n]? = some A[n] := List.getElem?_eq_getElem hn'
  exact ⟨n, _, e1, e2, R.ob n a _ e1 e2⟩
theorem OR.notNone {o : Ob} (h : OR K r H a o) : H a ≠ none := by
  cases o with
  | lst vs => obtain ⟨xs, e, _⟩ := h; rw [e]; exact fun z => nomatch z
  | dk vs => obtain ⟨xs, e, _⟩ := h; rw [e]; exact fun z => nomatch z
  | dt vs => obtain ⟨xs, e, _⟩ := h; rw [e]; exact fun z => nomatch z
theorem OR.notTup {o : Ob} {xs : List V} (h : OR K r H a o) : ¬ Rd H a (.tup xs) := by
  rintro (q | ⟨_, q⟩)
  all_goals
    cases o with
    | lst vs => obtain ⟨xs, e, _⟩ := h; rw [e] at q; cases q
    | dk vs => obtain ⟨xs, e, _⟩ := h; rw [e] at q; cases q
    | dt vs => obtain ⟨xs, e, _⟩ := h; rw [e] at q; cases q
theorem HRel.notFrz (R : HRel K r A H) {o : Obj} {u : HO} (h : H a = some (.frz o u)) : a ∉ r := fun hm => by
  obtain ⟨_, ob, _, _, q⟩ := R.has hm
  cases ob with
  | lst vs => obtain ⟨xs, e, _⟩ := q; rw [e] at h; cases h
  | dk vs => obtain ⟨xs, e, _⟩ := q; rw [e] at h; cases h
  | dt vs => obtain ⟨xs, e, _⟩ := q; rw [e] at h; cases h
theorem HRel.notTup (R : HRel K r A H) {xs : List V} (h : Rd H a (.tup xs)) : a ∉ r := fun hm => by
  obtain ⟨_, o, _, _, q⟩ := R.has hm
  exact q.notTup h
theorem HRel.fresh (R : HRel K r A H) (h : H a = none) : a ∉ r := fun hm => by
  obtain ⟨_, o, _, _, q⟩ := R.has hm
  exact q.notNone h
theorem HRel.sqT (R : HRel K r A H) (E : Ext r r' H H') {xs : List V} (h : SqT K H a xs) : SqT K H' a xs := by
  rcases h with h | h
  · have n := R.notTup h
    rcases h with h | ⟨o, h⟩
    · exact .inl (.inl (E.keep a _ h n))
    · exact .inl (.inr ⟨o, E.keep a _ h n⟩)
  · exact .inr h
mutual
theorem Rep.ext (R : HRel K r A H) (E : Ext r r' H H') : ∀ (v : Val) (x : V), Rep K r H v x → Rep K r' H' v x
  | .non, _, h => by simpa only [Rep] using h
  | .bl _, _, h => by simpa only [Rep] using h
  | .int _, _, h => by simpa only [Rep] using h
  | .str _, _, h => by simpa only [Rep] using h
  | .tup vs, _, h => by
    simp only [Rep] at h ⊢
    obtain ⟨a, xs, e, s, q⟩ := h
    exact ⟨a, xs, e, E.keep a _ s (R.notTup (.inl s)), Reps.ext R E vs xs q⟩
  | .wt vs, _, h => by
    simp only [Rep] at h ⊢
    obtain ⟨a, xs, e, s, q⟩ := h
    exact ⟨a, xs, e, s, Reps.ext R E vs xs q⟩
  | .ref n, _, h => by
    simp only [Rep] at h ⊢
    obtain ⟨a, e, q⟩ := h
    exact ⟨a, E.at e, q⟩
  | .ty _, _, h => by simpa only [Rep] using h
  | .wl vs, _, h => by
    simp only [Rep] at h ⊢
    obtain ⟨a, xs, e, s, q⟩ := h
    refine ⟨a, xs, e, ?_, Reps.ext R E vs xs q⟩
    rcases s with ⟨o, s⟩ | s
    · exact .inl ⟨o, E.keep a _ s (R.notFrz s)⟩
    · exact .inr s
theorem Reps.ext (R : HRel K r A H) (E : Ext r r' H H') : ∀ (vs : List Val) (xs : List V), Reps K r H vs xs → Reps K r' H' vs xs
  | [], _, h => by simpa only [Reps] using h
  | v :: vs, _, h => by
    simp only [Reps] at h ⊢
    obtain ⟨y, ys, e, q1, q2⟩ := h
    exact ⟨y, ys, e, Rep.ext R E v y q1, Reps.ext R E vs ys q2⟩
end
theorem Reps.nil_iff {xs : List V} : Reps K r H [] xs ↔ xs = [] := by simp only [Reps]
theorem Reps.cons_iff {v : Val} {vs : List Val} {xs : List V} : Reps K r H (v :: vs) xs ↔ ∃ y ys, xs = y :: ys ∧ Rep K r H v y ∧ Reps K r H vs ys := by simp only [Reps]
theorem Reps.length : ∀ {vs : List Val} {xs : List V}, Reps K r H vs xs → vs.length = xs.length
  | [], _, h => by rw [Reps.nil_iff] at h; subst h; rfl
  | v :: vs, _, h => by
    obtain ⟨y, ys, rfl, _, q⟩ := Reps.cons_iff.mp h
    simp [Reps.length q]
theorem Reps.get : ∀ {vs : List Val} {xs : List V} {i : Nat} {v : Val}, Reps K r H vs xs → vs[i]? = some v → ∃ x, xs[i]? = some x ∧ Rep K r H v x
  | [], _, _, _, _, e => by simp at e
  | v :: vs, _, 0, _, h, e => by
    obtain ⟨y, ys, rfl, q1, q⟩ := Reps.cons_iff.mp h
    simp at e; subst e
    exact ⟨y, by simp, q1⟩
  | v :: vs, _, i + 1, w, h, e => by
    obtain ⟨y, ys, rfl, _, q⟩ := Reps.cons_iff.mp h
    simp at e
    obtain ⟨x, e', h'⟩ := Reps.get q e
    exact ⟨x, by simpa using e', h'⟩
theorem Reps.get' : ∀ {vs : List Val} {xs : List V} {i : Nat} {x : V}, Reps K r H vs xs → xs[i]? = some x → ∃ v, vs[i]? = some v ∧ Rep K r H v x := fun {vs xs i x} h e => by
  have hl := h.length
  have hi : i < xs.length := by
    rcases Nat.lt_or_ge i xs.length with q | q
    · exact q
    · rw [List.getElem?_eq_none q] at e; cases e
  have hi' : i < vs.length := by omega
  obtain ⟨y, e1, h1⟩ := h.get (List.getElem?_eq_getElem hi')
  rw [e] at e1; cases e1
  exact ⟨_, List.getElem?_eq_getElem hi', h1⟩
theorem Reps.set : ∀ {vs : List Val} {xs : List V} (i : Nat) {v : Val} {x : V}, Reps K r H vs xs → Rep K r H v x → Reps K r H (vs.set i v) (xs.set i x)
  | [], _, _, _, _, h, _ => by rw [Reps.nil_iff] at h; subst h; simp [Reps]
  | w :: vs, _, 0, _, _, h, q => by
    obtain ⟨y, ys, rfl, q1, q2⟩ := Reps.cons_iff.mp h
    exact Reps.cons_iff.mpr ⟨_, _, rfl, q, q2⟩
  | w :: vs, _, i + 1, _, _, h, q => by
    obtain ⟨y, ys, rfl, q1, q2⟩ := Reps.cons_iff.mp h
    exact Reps.cons_iff.mpr ⟨_, _, rfl, q1, Reps.set i q2 q⟩
theorem Reps.append : ∀ {vs ws : List Val} {xs ys : List V}, Reps K r H vs xs → Reps K r H ws ys → Reps K r H (vs ++ ws) (xs ++ ys)
  | [], _, _, _, h, q => by rw [Reps.nil_iff] at h; subst h; exact q
  | w :: vs, _, _, _, h, q => by
    obtain ⟨y, ys, rfl, q1, q2⟩ := Reps.cons_iff.mp h
    exact Reps.cons_iff.mpr ⟨_, _, rfl, q1, Reps.append q2 q⟩
theorem Reps.take : ∀ {vs : List Val} {xs : List V} (n : Nat), Reps K r H vs xs → Reps K r H (vs.take n) (xs.take n)
  | _, _, 0, _ => by simp [Reps]
  | [], _, n + 1, h => by rw [Reps.nil_iff] at h; subst h; simp [Reps]
  | w :: vs, _, n + 1, h => by
    obtain ⟨y, ys, rfl, q1, q2⟩ := Reps.cons_iff.mp h
    exact Reps.cons_iff.mpr ⟨_, _, rfl, q1, Reps.take n q2⟩
theorem Reps.drop : ∀ {vs : List Val} {xs : List V} (n : Nat), Reps K r H vs xs → Reps K r H (vs.drop n) (xs.drop n)
  | _, _, 0, h => h
  | [], _, n + 1, h => by rw [Reps.nil_iff] at h; subst h; simp [Reps]
  | w :: vs, _, n + 1, h => by
    obtain ⟨y, ys, rfl, q1, q2⟩ := Reps.cons_iff.mp h
    exact Reps.drop n q2
theorem Reps.reverse : ∀ {vs : List Val} {xs : List V}, Reps K r H vs xs → Reps K r H vs.reverse xs.reverse
  | [], _, h => by rw [Reps.nil_iff] at h; subst h; simp [Reps]
  | w :: vs, _, h => by
    obtain ⟨y, ys, rfl, q1, q2⟩ := Reps.cons_iff.mp h
    rw [List.reverse_cons, List.reverse_cons]
    exact Reps.append (Reps.reverse q2) (Reps.cons_iff.mpr ⟨_, _, rfl, q1, Reps.nil_iff.mpr rfl⟩)
theorem RKV.ext {κ : Type} (R : HRel K r A H) (E : Ext r r' H H') {kvs : List (κ × Val)} {xs : List (κ × V)} (h : RKV κ K r H kvs xs) : RKV κ K r' H' kvs xs := ⟨h.1, Reps.ext R E _ _ h.2⟩
/-- an object that stays where it is -/
theorem OR.ext (R : HRel K r A H) (E : Ext r r' H H') {o : Ob} (h : OR K r H a o) (k : H' a = H a) : OR K r' H' a o := by
  cases o with
  | lst vs => obtain ⟨xs, e, q⟩ := h; exact ⟨xs, k.trans e, Reps.ext R E _ _ q⟩
  | dk vs => obtain ⟨xs, e, q⟩ := h; exact ⟨xs, k.trans e, q.ext R E⟩
  | dt vs => obtain ⟨xs, e, q⟩ := h; exact ⟨xs, k.trans e, q.ext R E⟩

/-- a new untracked thing (a tuple) -/
theorem ext_new {ho : HO} (h : H a = none) : Ext r r H (upd H a ho) :=
  ⟨⟨[], by simp⟩, fun b o e _ => by rw [upd_ne (ne_of_none e h)]; exact e, fun _ h n => absurd h n⟩
theorem HRel.newT {ho : HO} (R : HRel K r A H) (h : H a = none) : HRel K r A (upd H a ho) :=
  ⟨R.len, R.nd, fun n b o e1 e2 => by
    have q := R.ob n b o e1 e2
    refine q.ext R (ext_new h) ?_
    exact upd_ne fun e => q.notNone (by rw [e]; exact h)⟩
/-- a new object -/
theorem ext_alloc {ho : HO} (h : H a = none) (hr : a ∉ r) : Ext r (r ++ [a]) H (upd H a ho) :=
  ⟨⟨[a], rfl⟩, fun b o e _ => by rw [upd_ne (ne_of_none e h)]; exact e, fun b hb n => by
    rcases List.mem_append.mp hb with q | q
    · exact absurd q n
    · rw [List.mem_singleton] at q; rw [q]; exact h⟩
theorem HRel.alloc {ho : HO} {o : Ob} (R : HRel K r A H) (h : H a = none) (q : OR K (r ++ [a]) (upd H a ho) a o) : HRel K (r ++ [a]) (A ++ [o]) (upd H a ho) := by
  have hr := R.fresh h
  refine ⟨by simp [R.len], ?_, fun n b u e1 e2 => ?_⟩
  · rw [List.nodup_append]
    exact ⟨R.nd, by simp, fun x hx y hy e => by rw [List.mem_singleton] at hy; subst hy; subst e; exact hr hx⟩
  · by_cases hn : n < r.length
    · rw [List.getElem?_append_left hn] at e1
      rw [List.getElem?_append_left (by rw [R.len]; exact hn)] at e2
      have q' := R.ob n b u e1 e2
      refine q'.ext R (ext_alloc h hr) ?_
      exact upd_ne fun e => q'.notNone (by rw [e]; exact h)
    · have hn' : n = r.length := by
        rcases Nat.lt_or_ge r.length n with z | z
        · rw [List.getElem?_eq_none (by simp; omega)] at e1; cases e1
        · omega
      subst hn'
      rw [List.getElem?_append_right (Nat.le_refl _)] at e1
      rw [List.getElem?_append_right (by rw [R.len]; exact Nat.le_refl _)] at e2
      simp at e1
      simp [R.len] at e2
      subst e1; subst e2; exact q
/-- an object written -/
theorem ext_write {ho : HO} (hm : a ∈ r) : Ext r r H (upd H a ho) :=
  ⟨⟨[], by simp⟩, fun b o e n => by rw [upd_ne (show b ≠ a from fun z => n (by rw [z]; exact hm))]; exact e, fun _ h n => absurd h n⟩
theorem HRel.write {ho : HO} {o : Ob} {n : Nat} (R : HRel K r A H) (h : r[n]? = some a) (q : OR K r (upd H a ho) a o) : HRel K r (A.set n o) (upd H a ho) := by
  have hm : a ∈ r := List.mem_of_getElem? h
  refine ⟨by simp [R.len], R.nd, fun m b u e1 e2 => ?_⟩
  by_cases hmn : m = n
  · subst hmn
    rw [h] at e1; cases e1
    have hl : m < A.length := by
      rw [R.len]
      rcases Nat.lt_or_ge m r.length with q | q
      · exact q
      · rw [List.getElem?_eq_none q] at h; cases h
    rw [List.getElem?_set_self hl] at e2
    cases e2; exact q
  · rw [List.getElem?_set_ne (fun z => hmn z.symm)] at e2
    have q' := R.ob m b u e1 e2
    refine q'.ext R (ext_write hm) ?_
    refine upd_ne fun e => hmn ?_
    subst e
    have h1 : m < r.length := by
      rcases Nat.lt_or_ge m r.length with q | q
      · exact q
      · rw [List.getElem?_eq_none q] at e1; cases e1
    exact (List.getElem?_inj h1 R.nd).mp (by rw [e1, h])
end
theorem Rep.tupS {K : PySem.W.Frag} {r : List Addr} {H : Hp} {v : Val} {vs : List Val} {x : V} (h : Rep K r H v x) (e : v = .tup vs ∨ v = .wt vs) : ∃ a xs, x = .ref a ∧ SqT K H a xs ∧ Reps K r H vs xs := by
  rcases e with rfl | rfl
  · simp only [Rep] at h
    obtain ⟨a, xs, e, s, q⟩ := h
    exact ⟨a, xs, e, SqT.of s, q⟩
  · simp only [Rep] at h
    obtain ⟨a, xs, e, s, q⟩ := h
    exact ⟨a, xs, e, s H, q⟩
/-- the frame's slots -/
structure SRel (K : PySem.W.Frag) (r : List Addr) (H : Hp) (t : Lv) (s : L2.St) : Prop where
  len : t.length = s.length
  at' : ∀ (i : Nat) (v : Val), t[i]? = some (some v) → ∃ x, s[i]? = some (some x) ∧ Rep K r H v x
theorem SRel.ext {K : PySem.W.Frag} {r r' : List Addr} {A : AH} {H H' : Hp} {t : Lv} {s : L2.St} (R : HRel K r A H) (E : Ext r r' H H') (h : SRel K r H t s) : SRel K r' H' t s :=
  ⟨h.len, fun i v e => let ⟨x, e', q⟩ := h.at' i v e; ⟨x, e', Rep.ext R E v x q⟩⟩
theorem SRel.set {K : PySem.W.Frag} {r : List Addr} {H : Hp} {t : Lv} {s : L2.St} (h : SRel K r H t s) (i : Nat) {v : Val} {x : V} (q : Rep K r H v x) : SRel K r H (t.set i (some v)) (s.set i (some x)) := by
  refine ⟨by simp [h.len], fun j w e => ?_⟩
  by_cases hj : i = j
  · subst hj
    have hi : i < t.length := by
      rcases Nat.lt_or_ge i t.length with z | z
      · exact z
      · rw [List.getElem?_eq_none (by simp; exact z)] at e; cases e
    rw [List.getElem?_set_self hi] at e
    rw [List.getElem?_set_self (by rw [← h.len]; exact hi)]
    cases e
    exact ⟨x, rfl, q⟩
  · rw [List.getElem?_set_ne hj] at e
    rw [List.getElem?_set_ne hj]
    exact h.at' j w e
end EV

namespace EV
open PySem PySem.Spec PyProof.Rows L2

structure Gc where
  K : PySem.W.Frag
  cn : Str → Value → Prop
def ExR (G : Gc) (r : List Addr) (H : Hp) (e : Exc) (c : Value) (d : Option Addr) : Prop :=
  G.cn e.cls c ∧ (e.fs = [] ∨ ∃ dx xs, d = some dx ∧ H dx = some (.xd xs) ∧ RKV Str G.K r H e.fs xs)

abbrev DenT := Lv → AH → (Bool → AH → Prop) → XQ → Prop
abbrev DenA := Lv → AH → (List Val → AH → Prop) → XQ → Prop
structure EndsA where
  nx : Lv → AH → Prop
  rt : VQ
  bk : Lv → AH → Prop
  ct : Lv → AH → Prop
  ex : Exc → Lv → AH → Prop
abbrev DenS := Lv → AH → EndsA → Prop
abbrev FDen := List Val → AH → VQ → XQ → Prop

def Mono (d : Den) : Prop := ∀ t A Q Q' E E', (∀ v A', Q v A' → Q' v A') → (∀ e A', E e A' → E' e A') → d t A Q E → d t A Q' E'
def MonoT (d : DenT) : Prop := ∀ t A Q Q' E E', (∀ v A', Q v A' → Q' v A') → (∀ e A', E e A' → E' e A') → d t A Q E → d t A Q' E'
def MonoA (d : DenA) : Prop := ∀ t A Q Q' E E', (∀ v A', Q v A' → Q' v A') → (∀ e A', E e A' → E' e A') → d t A Q E → d t A Q' E'
def MonoF (f : FDen) : Prop := ∀ a A Q Q' E E', (∀ v A', Q v A' → Q' v A') → (∀ e A', E e A' → E' e A') → f a A Q E → f a A Q' E'
structure EndsA.Le (D D' : EndsA) : Prop where
  nx : ∀ t A, D.nx t A → D'.nx t A
  rt : ∀ v A, D.rt v A → D'.rt v A
  bk : ∀ t A, D.bk t A → D'.bk t A
  ct : ∀ t A, D.ct t A → D'.ct t A
  ex : ∀ e t A, D.ex e t A → D'.ex e t A
def MonoS (d : DenS) : Prop := ∀ t A D D', EndsA.Le D D' → d t A D → d t A D'
theorem EndsA.Le.refl (D : EndsA) : EndsA.Le D D := ⟨fun _ _ h => h, fun _ _ h => h, fun _ _ h => h, fun _ _ h => h, fun _ _ _ h => h⟩

section
variable (G : Gc) (r : List Addr) (H : Hp)
def kv (Q : VK) : VQ := fun v A' => ∀ r' H' x, Ext r r' H H' → HRel G.K r' A' H' → Rep G.K r' H' v x → Q x H'
def kb (Q : Bool → Hp → Prop) : Bool → AH → Prop := fun b A' => ∀ r' H', Ext r r' H H' → HRel G.K r' A' H' → Q b H'
def kl (Q : List V → Hp → Prop) : List Val → AH → Prop := fun vs A' => ∀ r' H' xs, Ext r r' H H' → HRel G.K r' A' H' → Reps G.K r' H' vs xs → Q xs H'
def kx (s : L2.St) (W : WX) : XQ := fun e A' => ∀ r' H' c d, Ext r r' H H' → HRel G.K r' A' H' → ExR G r' H' e c d → W c d s H'
def kn (Q : L2.St → Hp → Prop) : Lv → AH → Prop := fun t A' => ∀ r' H' s', Ext r r' H H' → HRel G.K r' A' H' → SRel G.K r' H' t s' → Q s' H'
def kxs (W : WX) : Exc → Lv → AH → Prop := fun e t A' => ∀ r' H' s' c d, Ext r r' H H' → HRel G.K r' A' H' → SRel G.K r' H' t s' → ExR G r' H' e c d → W c d s' H'
def kf (E : XK) : XQ := fun e A' => ∀ r' H' c d, Ext r r' H H' → HRel G.K r' A' H' → ExR G r' H' e c d → E c d H'
end
section
variable {G : Gc} {r r1 : List Addr} {H H1 : Hp} {A' : AH}
theorem kv_up {Q : VK} {v : Val} (E : Ext r r1 H H1) (h : kv G r H Q v A') : kv G r1 H1 Q v A' := fun r' H' x E' => h r' H' x (E.trans E')
theorem kb_up {Q : Bool → Hp → Prop} {v : Bool} (E : Ext r r1 H H1) (h : kb G r H Q v A') : kb G r1 H1 Q v A' := fun r' H' E' => h r' H' (E.trans E')
theorem kl_up {Q : List V → Hp → Prop} {v : List Val} (E : Ext r r1 H H1) (h : kl G r H Q v A') : kl G r1 H1 Q v A' := fun r' H' x E' => h r' H' x (E.trans E')
theorem kx_up {s : L2.St} {W : WX} {e : Exc} (E : Ext r r1 H H1) (h : kx G r H s W e A') : kx G r1 H1 s W e A' := fun r' H' c d E' => h r' H' c d (E.trans E')
theorem kn_up {Q : L2.St → Hp → Prop} {t : Lv} (E : Ext r r1 H H1) (h : kn G r H Q t A') : kn G r1 H1 Q t A' := fun r' H' s' E' => h r' H' s' (E.trans E')
theorem kxs_up {W : WX} {e : Exc} {t : Lv} (E : Ext r r1 H H1) (h : kxs G r H W e t A') : kxs G r1 H1 W e t A' := fun r' H' s' c d E' => h r' H' s' c d (E.trans E')
end

/-! ### the judgements -/
section
variable (G : Gc) (W : WX)
def TEW (d : Den) : TE := fun s H Q => ∃ r A t, HRel G.K r A H ∧ SRel G.K r H t s ∧ d t A (kv G r H Q) (kx G r H s W)
def TTW (d : DenT) : TT := fun s H Q => ∃ r A t, HRel G.K r A H ∧ SRel G.K r H t s ∧ d t A (kb G r H Q) (kx G r H s W)
def TAW (d : DenA) : TA := fun s H Q => ∃ r A t, HRel G.K r A H ∧ SRel G.K r H t s ∧ d t A (kl G r H Q) (kx G r H s W)
def ends (r : List Addr) (H : Hp) (D : Ends) : EndsA := ⟨kn G r H D.nx, kv G r H D.rt, kn G r H D.bk, kn G r H D.ct, kxs G r H W⟩
def TSW (d : DenS) : TS := fun D s H => ∃ r A t, HRel G.K r A H ∧ SRel G.K r H t s ∧ d t A (ends G W r H D)
end
section
variable (G : Gc) (X : Cx)
def SE (e : Expr) (d : Den) : Prop := ∀ W, Takes X W → PE X e (TEW G W d)
def ST (e : Expr) (d : DenT) : Prop := ∀ W, Takes X W → PT X e (TTW G W d)
def SA (es : List Expr) (d : DenA) : Prop := ∀ W, Takes X W → PA X es (TAW G W d)
def SS (st : Stmt) (d : DenS) : Prop := ∀ W, Takes X W → PS X st (TSW G W d)
def SSs (st : List Stmt) (d : DenS) : Prop := ∀ W, Takes X W → PSs X st (TSW G W d)
end
theorem _root_.L2.PE.wk {X : Cx} {e : Expr} {t t' : TE} (h : PE X e t) (w : ∀ s H Q, t' s H Q → t s H Q) : PE X e t' := ⟨fun pins s σ H Q I q => h.run pins s σ H Q I (w _ _ _ q)⟩
theorem _root_.L2.PT.wk {X : Cx} {e : Expr} {t t' : TT} (h : PT X e t) (w : ∀ s H Q, t' s H Q → t s H Q) : PT X e t' := ⟨fun pins s σ H Q I q => h.run pins s σ H Q I (w _ _ _ q)⟩
theorem _root_.L2.PA.wk {X : Cx} {e : List Expr} {t t' : TA} (h : PA X e t) (w : ∀ s H Q, t' s H Q → t s H Q) : PA X e t' := ⟨fun pos pins s σ H Q I q => h.run pos pins s σ H Q I (w _ _ _ q)⟩
theorem _root_.L2.PS.wk {X : Cx} {e : Stmt} {t t' : TS} (h : PS X e t) (w : ∀ D s H, t' D s H → t D s H) : PS X e t' := ⟨fun pins s σ H D I q => h.run pins s σ H D I (w _ _ _ q)⟩
theorem _root_.L2.PSs.wk {X : Cx} {e : List Stmt} {t t' : TS} (h : PSs X e t) (w : ∀ D s H, t' D s H → t D s H) : PSs X e t' := ⟨fun pins s σ H D I q => h.run pins s σ H D I (w _ _ _ q)⟩

/-! ### expressions -/
def dVar (i : Nat) : Den := fun t A Q _ => ∃ v, t[i]? = some (some v) ∧ Q v A
def dLit (v : Val) : Den := fun _ A Q _ => Q v A
abbrev Op2 := Val → Val → AH → VQ → Prop
abbrev Op1 := Val → AH → VQ → Prop
abbrev OpN := List Val → AH → VQ → Prop
def dOp (o : Op2) (da db : Den) : Den := fun t A Q E => da t A (fun x A1 => db t A1 (fun y A2 => o x y A2 Q) E) E
def dUn (o : Op1) (da : Den) : Den := fun t A Q E => da t A (fun x A1 => o x A1 Q) E
def aNil : DenA := fun _ A Q _ => Q [] A
def aCons (d : Den) (r : DenA) : DenA := fun t A Q E => d t A (fun x A1 => r t A1 (fun xs A2 => Q (x :: xs) A2) E) E
def dTup (d : DenA) : Den := fun t A Q E => d t A (fun xs A1 => Q (.tup xs) A1) E
def dLst (d : DenA) : Den := fun t A Q E => d t A (fun xs A1 => Q (.ref A1.length) (A1 ++ [.lst xs])) E
def dCB (o : OpN) (d : DenA) : Den := fun t A Q E => d t A (fun xs A1 => o xs A1 Q) E
def dMe (o : Val → OpN) (ty : Val → AH → Prop) (d : Den) (a : DenA) : Den := fun t A Q E => d t A (fun x A1 => ty x A1 ∧ a t A1 (fun xs A2 => o x xs A2 Q) E) E
def dCall (f : FDen) (d : DenA) : Den := fun t A Q E => d t A (fun xs A1 => f xs A1 Q E) E
def dIf (c : DenT) (a b : Den) : Den := fun t A Q E => c t A (fun k A1 => if k = true then a t A1 Q E else b t A1 Q E) E
/-- tests -/
def tVal (d : Den) : DenT := fun t A Q E => d t A (fun v A1 => ∃ k, v = .bl k ∧ Q k A1) E
def tNot (d : DenT) : DenT := fun t A Q E => d t A (fun k A1 => Q (!k) A1) E
def tAnd (a b : DenT) : DenT := fun t A Q E => a t A (fun k A1 => if k = true then b t A1 Q E else Q false A1) E
def tOr (a b : DenT) : DenT := fun t A Q E => a t A (fun k A1 => if k = true then Q true A1 else b t A1 Q E) E
def truB (A : AH) : Val → Option Bool
  | .non => some false
  | .bl b => some b
  | .int i => some (i != 0)
  | .str y => if y.length ≤ sizeLine then some ((y.length : Int) != 0) else none
  | .tup xs => some (!xs.isEmpty)
  | .wt xs => some (!xs.isEmpty)
  | .ref n => match A[n]? with
    | some (.lst xs) => some (!xs.isEmpty)
    | some (.dk kvs) => some (!kvs.isEmpty)
    | _ => none
  | .ty _ => none
  | .wl _ => none
def tru (v : Val) (A : AH) (Q : Bool → AH → Prop) : Prop := ∃ k, truB A v = some k ∧ Q k A
def tTru (d : Den) : DenT := fun t A Q E => d t A (fun v A1 => tru v A1 Q) E

def OMono (o : Op2) : Prop := ∀ x y A Q Q', (∀ v A', Q v A' → Q' v A') → o x y A Q → o x y A Q'
def UMono (o : Op1) : Prop := ∀ x A Q Q', (∀ v A', Q v A' → Q' v A') → o x A Q → o x A Q'
def NMono (o : OpN) : Prop := ∀ x A Q Q', (∀ v A', Q v A' → Q' v A') → o x A Q → o x A Q'
structure OpS (G : Gc) (o : Op2) (rr : R2) : Prop where
  mono : OMono o
  sim : ∀ r A H v w x y Q, HRel G.K r A H → Rep G.K r H v x → Rep G.K r H w y → o v w A (kv G r H Q) → rr x y H Q
structure UnS (G : Gc) (o : Op1) (rr : V → Hp → VK → Prop) : Prop where
  mono : UMono o
  sim : ∀ r A H v x Q, HRel G.K r A H → Rep G.K r H v x → o v A (kv G r H Q) → rr x H Q
structure CbS (G : Gc) (o : OpN) (rr : List V → Hp → VK → Prop) : Prop where
  mono : NMono o
  sim : ∀ r A H vs xs Q, HRel G.K r A H → Reps G.K r H vs xs → o vs A (kv G r H Q) → rr xs H Q
structure MeS (G : Gc) (o : Val → OpN) (rr : V → List V → Hp → VK → Prop) : Prop where
  mono : ∀ v, NMono (o v)
  sim : ∀ r A H v x vs xs Q, HRel G.K r A H → Rep G.K r H v x → Reps G.K r H vs xs → o v vs A (kv G r H Q) → rr x xs H Q

section
variable {da db dc : Den} {ta tb : DenT} {aa : DenA}
theorem mono_var (i : Nat) : Mono (dVar i) := fun t A Q Q' E E' h _ ⟨v, e, q⟩ => ⟨v, e, h _ _ q⟩
theorem mono_lit (v : Val) : Mono (dLit v) := fun t A Q Q' E E' h _ q => h _ _ q
theorem mono_op {o : Op2} (mo : OMono o) (ma : Mono da) (mb : Mono db) : Mono (dOp o da db) := fun t A Q Q' E E' h k q =>
  ma _ _ _ _ _ _ (fun x A1 q1 => mb _ _ _ _ _ _ (fun y A2 q2 => mo _ _ _ _ _ h q2) k q1) k q
theorem mono_un {o : Op1} (mo : UMono o) (ma : Mono da) : Mono (dUn o da) := fun t A Q Q' E E' h k q =>
  ma _ _ _ _ _ _ (fun x A1 q1 => mo _ _ _ _ h q1) k q
theorem mono_nil : MonoA aNil := fun t A Q Q' E E' h _ q => h _ _ q
theorem mono_cons (ma : Mono da) (mr : MonoA aa) : MonoA (aCons da aa) := fun t A Q Q' E E' h k q =>
  ma _ _ _ _ _ _ (fun x A1 q1 => mr _ _ _ _ _ _ (fun y A2 q2 => h _ _ q2) k q1) k q
theorem mono_tup (ma : MonoA aa) : Mono (dTup aa) := fun t A Q Q' E E' h k q => ma _ _ _ _ _ _ (fun x A1 q1 => h _ _ q1) k q
theorem mono_lst (ma : MonoA aa) : Mono (dLst aa) := fun t A Q Q' E E' h k q => ma _ _ _ _ _ _ (fun x A1 q1 => h _ _ q1) k q
theorem mono_cb {o : OpN} (mo : NMono o) (ma : MonoA aa) : Mono (dCB o aa) := fun t A Q Q' E E' h k q => ma _ _ _ _ _ _ (fun x A1 q1 => mo _ _ _ _ h q1) k q
theorem mono_me {o : Val → OpN} {ty : Val → AH → Prop} (mo : ∀ v, NMono (o v)) (ma : Mono da) (mr : MonoA aa) : Mono (dMe o ty da aa) := fun t A Q Q' E E' h k q =>
  ma _ _ _ _ _ _ (fun x A1 q1 => ⟨q1.1, mr _ _ _ _ _ _ (fun xs A2 q2 => mo _ _ _ _ _ h q2) k q1.2⟩) k q
theorem mono_call {f : FDen} (mf : MonoF f) (ma : MonoA aa) : Mono (dCall f aa) := fun t A Q Q' E E' h k q => ma _ _ _ _ _ _ (fun x A1 q1 => mf _ _ _ _ _ _ h k q1) k q
theorem mono_if (mt : MonoT ta) (ma : Mono da) (mb : Mono db) : Mono (dIf ta da db) := fun t A Q Q' E E' h k q => mt _ _ _ _ _ _ (fun b A1 q1 => by
  cases b with
  | true => rw [if_pos rfl] at q1 ⊢; exact ma _ _ _ _ _ _ h k q1
  | false => rw [if_neg Bool.false_ne_true] at q1 ⊢; exact mb _ _ _ _ _ _ h k q1) k q
theorem mono_tval (ma : Mono da) : MonoT (tVal da) := fun t A Q Q' E E' h k q => ma _ _ _ _ _ _ (fun x A1 ⟨b, e, q1⟩ => ⟨b, e, h _ _ q1⟩) k q
theorem mono_tnot (ma : MonoT ta) : MonoT (EV.tNot ta) := fun t A Q Q' E E' h k q => ma _ _ _ _ _ _ (fun x A1 q1 => h _ _ q1) k q
theorem mono_tand (ma : MonoT ta) (mb : MonoT tb) : MonoT (EV.tAnd ta tb) := fun t A Q Q' E E' h k q => ma _ _ _ _ _ _ (fun b A1 q1 => by
  cases b with
  | true => rw [if_pos rfl] at q1 ⊢; exact mb _ _ _ _ _ _ h k q1
  | false => rw [if_neg Bool.false_ne_true] at q1 ⊢; exact h _ _ q1) k q
theorem mono_tor (ma : MonoT ta) (mb : MonoT tb) : MonoT (EV.tOr ta tb) := fun t A Q Q' E E' h k q => ma _ _ _ _ _ _ (fun b A1 q1 => by
  cases b with
  | true => rw [if_pos rfl] at q1 ⊢; exact h _ _ q1
  | false => rw [if_neg Bool.false_ne_true] at q1 ⊢; exact mb _ _ _ _ _ _ h k q1) k q
theorem mono_tru {v : Val} {A : AH} {Q Q' : Bool → AH → Prop} (h : ∀ b A', Q b A' → Q' b A') (q : tru v A Q) : tru v A Q' := let ⟨k, e, z⟩ := q; ⟨k, e, h _ _ z⟩
theorem mono_ttru (ma : Mono da) : MonoT (tTru da) := fun t A Q Q' E E' h k q => ma _ _ _ _ _ _ (fun x A1 q1 => mono_tru h q1) k q
end

section
variable {G : Gc} {X : Cx} {W : WX} {a b c : Expr} {es : List Expr} {da db dc : Den} {ta tb : DenT} {aa : DenA} {pos : Pos}
theorem se_var {i : Nat} {x : Str} (hN : X.N[i]? = some x) (hv : Vis X.env.scope x) (hd : (x == ("__debug__" : Str)) = false) (hcd : (x == ("__classdict__" : Str)) = false) : SE G X (.Name x pos) (dVar i) := fun W tk =>
  (pe_var hN hv hd hcd).wk fun s H Q ⟨r, A, t, R, S, v, e, q⟩ => by
    obtain ⟨x, ex, p⟩ := S.at' i v e
    exact ⟨x, ex, q r H x (Ext.refl r H) R p⟩
theorem se_lit {v : Val} {x : V} (h : PE X a (tC x)) (p : ∀ r H, Rep G.K r H v x) : SE G X a (dLit v) := fun W tk =>
  h.wk fun s H Q ⟨r, A, t, R, S, q⟩ => q r H x (Ext.refl r H) R (p r H)
theorem op_red {o : Op2} {rr : R2} (hs : OpS G o rr) (ma : Mono da) (mb : Mono db) {s : L2.St} {H : Hp} {Q : VK} (h : TEW G W (dOp o da db) s H Q) : tOp rr (TEW G W da) (TEW G W db) s H Q := by
  obtain ⟨r, A, t, R, S, h⟩ := h
  refine ⟨r, A, t, R, S, ma _ _ _ _ _ _ (fun x A1 h1 r1 H1 xv E1 R1 p1 => ?_) (fun _ _ h => h) h⟩
  refine ⟨r1, A1, t, R1, S.ext R E1, mb _ _ _ _ _ _ (fun y A2 h2 r2 H2 yv E2 R2 p2 => ?_) (fun e A' h => kx_up E1 h) h1⟩
  exact hs.sim r2 A2 H2 x y xv yv Q R2 (Rep.ext R1 E2 x xv p1) p2 (hs.mono _ _ _ _ _ (fun v A' h => kv_up (E1.trans E2) h) h2)
theorem se_op {op : Operator} {o : Op2} {rr : R2} (ho : OpR X (binaryOp op) rr) (hs : OpS G o rr) (ma : Mono da) (mb : Mono db) (ha : SE G X a da) (hb : SE G X b db) : SE G X (.BinOp a op b pos) (dOp o da db) := fun W tk =>
  (pe_op ho (ha W tk) (hb W tk)).wk fun s H Q h => op_red hs ma mb h
theorem se_cmp {op : CmpOp} {o : Op2} {rr : R2} (ho : OpR X (compareOp op) rr) (hs : OpS G o rr) (ma : Mono da) (mb : Mono db) (ha : SE G X a da) (hb : SE G X b db) (hm : behindInMarks op b = false) : SE G X (.Compare a [op] [b] pos) (dOp o da db) := fun W tk =>
  (pe_cmpR ho (ha W tk) (hb W tk) hm).wk fun s H Q h => op_red hs ma mb h
theorem st_cmp {op : CmpOp} {o : Op2} {rr : R2} (ho : OpR X (compareOp op) rr) (hs : OpS G o rr) (ma : Mono da) (mb : Mono db) (ha : SE G X a da) (hb : SE G X b db) (hm : behindInMarks op b = false) : ST G X (.Compare a [op] [b] pos) (tVal (dOp o da db)) := fun W tk =>
  (pt_cmpR ho (ha W tk) (hb W tk) hm).wk fun s H Q h => by
    refine op_red (Q := fun x H' => ∃ k, x = .bl k ∧ Q k H') hs ma mb ?_
    obtain ⟨r, A, t, R, S, h⟩ := h
    refine ⟨r, A, t, R, S, mono_op hs.mono ma mb _ _ _ _ _ _ (fun v A' ⟨k, e, q⟩ r' H' x E' R' p => ?_) (fun _ _ h => h) h⟩
    subst e
    simp only [Rep] at p
    exact ⟨k, p, q r' H' E' R'⟩
theorem se_ix {o : Op2} {rr : R2} (ho : IxR X rr) (hs : OpS G o rr) (ma : Mono da) (mb : Mono db) (ha : SE G X a da) (hb : SE G X b db) (hp : PlainIx b) : SE G X (.Subscript a b pos) (dOp o da db) := fun W tk =>
  (pe_ix ho (ha W tk) (hb W tk) hp).wk fun s H Q h => op_red hs ma mb h
theorem un_red {o : Op1} {rr : V → Hp → VK → Prop} (hs : UnS G o rr) (ma : Mono da) {s : L2.St} {H : Hp} {Q : VK} (h : TEW G W (dUn o da) s H Q) : tUn rr (TEW G W da) s H Q := by
  obtain ⟨r, A, t, R, S, h⟩ := h
  refine ⟨r, A, t, R, S, ma _ _ _ _ _ _ (fun x A1 h1 r1 H1 xv E1 R1 p1 => ?_) (fun _ _ h => h) h⟩
  exact hs.sim r1 A1 H1 x xv Q R1 p1 (hs.mono _ _ _ _ (fun v A' h => kv_up E1 h) h1)
theorem se_un {op : UnaryOp} {o : Op1} {rr : V → Hp → VK → Prop} (ho : UnR X (unaryOp op) rr) (hs : UnS G o rr) (ma : Mono da) (ha : SE G X a da) : SE G X (.UnaryOp op a pos) (dUn o da) := fun W tk =>
  (pe_un ho (ha W tk)).wk fun s H Q h => un_red hs ma h
theorem sa_nil : SA G X [] aNil := fun W tk => pa_nil.wk fun s H Q ⟨r, A, t, R, S, q⟩ => q r H [] (Ext.refl r H) R (by simp only [Reps])
theorem cons_red (ma : Mono da) (mr : MonoA aa) {s : L2.St} {H : Hp} {Q : List V → Hp → Prop} (h : TAW G W (aCons da aa) s H Q) : tCons (TEW G W da) (TAW G W aa) s H Q := by
  obtain ⟨r, A, t, R, S, h⟩ := h
  refine ⟨r, A, t, R, S, ma _ _ _ _ _ _ (fun x A1 h1 r1 H1 xv E1 R1 p1 => ?_) (fun _ _ h => h) h⟩
  refine ⟨r1, A1, t, R1, S.ext R E1, mr _ _ _ _ _ _ (fun ys A2 h2 r2 H2 yv E2 R2 p2 => ?_) (fun e A' h => kx_up E1 h) h1⟩
  exact h2 r2 H2 _ (E1.trans E2) R2 (Reps.cons_iff.mpr ⟨_, _, rfl, Rep.ext R1 E2 x xv p1, p2⟩)
theorem sa_cons (ma : Mono da) (mr : MonoA aa) (ha : SE G X a da) (hr : SA G X es aa) (hs : starEach (a :: es) X.env = (false, eval a X.env) :: starEach es X.env) : SA G X (a :: es) (aCons da aa) := fun W tk =>
  (pa_cons (ha W tk) (hr W tk) hs).wk fun s H Q h => cons_red ma mr h
/-- how many -/
def LenA (d : DenA) (n : Nat) : Prop := ∀ t A Q E, d t A Q E → d t A (fun xs A' => xs.length = n ∧ Q xs A') E
theorem len_nil : LenA aNil 0 := fun t A Q E h => ⟨rfl, h⟩
theorem len_cons (ma : Mono da) (mr : MonoA aa) {n : Nat} (h : LenA aa n) : LenA (aCons da aa) (n + 1) := fun t A Q E q =>
  ma _ _ _ _ _ _ (fun x A1 q1 => mr _ _ _ _ _ _ (fun xs A2 ⟨e, q2⟩ => ⟨by simp [e], q2⟩) (fun _ _ h => h) (h _ _ _ _ q1)) (fun _ _ h => h) q
theorem se_tup {n k : Nat} (ma : MonoA aa) (hl : LenA aa n) (hn : n ≤ 1000) (ha : SA G X es aa) : SE G X (.Tuple es k pos) (dTup aa) := fun W tk =>
  (pe_tup (ha W tk)).wk fun s H Q ⟨r, A, t, R, S, h⟩ => by
    refine ⟨r, A, t, R, S, ma _ _ _ _ _ _ (fun vs A1 h1 r1 H1 xs E1 R1 p1 => ?_) (fun _ _ h => h) (hl _ _ _ _ h)⟩
    refine ⟨?_, fun p np => ?_⟩
    · rw [← p1.length, h1.1]
      exact Nat.le_of_lt (small1000 hn)
    · have E2 := ext_new (r := r1) (ho := .tup xs) np
      refine h1.2 r1 _ _ (E1.trans E2) (R1.newT np) ?_
      simp only [Rep]
      exact ⟨p, xs, rfl, upd_same, Reps.ext R1 E2 _ _ p1⟩
theorem se_lst {n : Nat} (ma : MonoA aa) (hl : LenA aa n) (hn : n ≤ 1000) (ha : SA G X es aa) : SE G X (.List es pos) (dLst aa) := fun W tk =>
  (pe_lst (ha W tk)).wk fun s H Q ⟨r, A, t, R, S, h⟩ => by
    refine ⟨r, A, t, R, S, ma _ _ _ _ _ _ (fun vs A1 h1 r1 H1 xs E1 R1 p1 => ?_) (fun _ _ h => h) (hl _ _ _ _ h)⟩
    refine ⟨?_, fun p np => ?_⟩
    · rw [← p1.length, h1.1]
      exact Nat.le_of_lt (small1000 hn)
    · have E2 := ext_alloc (ho := .lst xs) np (R1.fresh np)
      refine h1.2 (r1 ++ [p]) _ _ (E1.trans E2) (R1.alloc np ⟨xs, upd_same, Reps.ext R1 E2 _ _ p1⟩) ?_
      simp only [Rep]
      exact ⟨p, by rw [R1.len, List.getElem?_append_right (Nat.le_refl _)]; simp, rfl⟩
theorem cb_red {o : OpN} {rr : List V → Hp → VK → Prop} (hs : CbS G o rr) (ma : MonoA aa) {s : L2.St} {H : Hp} {Q : VK} (h : TEW G W (dCB o aa) s H Q) : tCB rr (TAW G W aa) s H Q := by
  obtain ⟨r, A, t, R, S, h⟩ := h
  refine ⟨r, A, t, R, S, ma _ _ _ _ _ _ (fun x A1 h1 r1 H1 xv E1 R1 p1 => ?_) (fun _ _ h => h) h⟩
  exact hs.sim r1 A1 H1 x xv Q R1 p1 (hs.mono _ _ _ _ (fun v A' h => kv_up E1 h) h1)
theorem me_red {T : String} {o : Val → OpN} {ty : Val → AH → Prop} {rr : V → List V → Hp → VK → Prop} (hs : MeS G o rr) (ht : ∀ r A H v x, HRel G.K r A H → Rep G.K r H v x → ty v A → tyV G.K T x H) (ma : Mono da) (mr : MonoA aa)
    {s : L2.St} {H : Hp} {Q : VK} (h : TEW G W (dMe o ty da aa) s H Q) : tBM G.K T rr (TEW G W da) (TAW G W aa) s H Q := by
  obtain ⟨r, A, t, R, S, h⟩ := h
  refine ⟨r, A, t, R, S, ma _ _ _ _ _ _ (fun x A1 h1 r1 H1 xv E1 R1 p1 => ?_) (fun _ _ h => h) h⟩
  refine ⟨ht r1 A1 H1 x xv R1 p1 h1.1, r1, A1, t, R1, S.ext R E1, mr _ _ _ _ _ _ (fun ys A2 h2 r2 H2 yv E2 R2 p2 => ?_) (fun e A' h => kx_up E1 h) h1.2⟩
  exact hs.sim r2 A2 H2 x xv ys yv Q R2 (Rep.ext R1 E2 x xv p1) p2 (hs.mono _ _ _ _ _ (fun v A' h => kv_up (E1.trans E2) h) h2)
/-- what a def of the text promises -/
def SpF (G : Gc) (f : FDen) : Sp := fun vs H Q E => ∃ r A ws, HRel G.K r A H ∧ Reps G.K r H ws vs ∧ f ws A (kv G r H Q) (kf G r H E)
theorem se_call {x : Str} {k : Nat} {f : Addr} {fd : FuncData} {ps : List Str} {p : Pos} {fn : FDen} (F : FnOk X.prog X.w X.K X.mg X.base (L2.CX X.prog X.w) k f fd ps (SpF G fn)) (hr : Room k X.A) (hg : Gl X x) (hm : X.mg x = some (.ref f)) (hk : PySem.W.keepIn X.K (.ref f) = true)
    (hb : Binds X.K fd ps []) (mf : MonoF fn) (ma : MonoA aa) (ha : SA G X (a :: es) aa) (hdb : (x == ("__debug__" : Str)) = false) (he : starEach (a :: es) X.env = (false, eval a X.env) :: starEach es X.env) (hpl : (backTo pos (starEach es X.env)).any (·.1) = false) :
    SE G X (.Call (.Name x p) (a :: es) [] pos) (dCall fn aa) := fun W tk =>
  (pe_callS F hr hg hm hk hb (fun σ => passAt tk σ) (ha W tk) hdb he hpl).wk fun s H Q ⟨r, A, t, R, S, h⟩ => by
    refine ⟨r, A, t, R, S, ma _ _ _ _ _ _ (fun ws A1 h1 r1 H1 xs E1 R1 p1 => ?_) (fun _ _ h => h) h⟩
    exact ⟨r1, A1, ws, R1, p1, mf _ _ _ _ _ _ (fun v A' h => kv_up E1 h) (fun e A' h => kx_up E1 h) h1⟩
theorem se_if (mt : MonoT ta) (ht : ST G X c ta) (ha : SE G X a da) (hb : SE G X b db) (ma : Mono da) (mb : Mono db) : SE G X (.IfExp c a b pos) (dIf ta da db) := fun W tk =>
  (pe_ifExp (ht W tk) (ha W tk) (hb W tk)).wk fun s H Q ⟨r, A, t, R, S, h⟩ => by
    refine ⟨r, A, t, R, S, mt _ _ _ _ _ _ (fun k A1 h1 r1 H1 E1 R1 => ?_) (fun _ _ h => h) h⟩
    cases k with
    | true =>
      rw [if_pos rfl] at h1 ⊢
      exact ⟨r1, A1, t, R1, S.ext R E1, ma _ _ _ _ _ _ (fun v A' h => kv_up E1 h) (fun e A' h => kx_up E1 h) h1⟩
    | false =>
      rw [if_neg Bool.false_ne_true] at h1 ⊢
      exact ⟨r1, A1, t, R1, S.ext R E1, mb _ _ _ _ _ _ (fun v A' h => kv_up E1 h) (fun e A' h => kx_up E1 h) h1⟩
theorem truB_ok {r : List Addr} {A : AH} {H : Hp} {v : Val} {x : V} {k : Bool} (R : HRel G.K r A H) (p : Rep G.K r H v x) (h : truB A v = some k) : TruV G.K x H k := by
  cases v with
  | non => simp only [Rep] at p; subst p; simp only [truB, Option.some.injEq] at h; exact h.symm
  | bl b => simp only [Rep] at p; subst p; simp only [truB, Option.some.injEq] at h; exact h.symm
  | int i => simp only [Rep] at p; subst p; simp only [truB, Option.some.injEq] at h; exact h.symm
  | str y =>
    simp only [Rep] at p; subst p
    simp only [truB] at h
    split at h
    · rename_i hl
      simp only [Option.some.injEq] at h
      exact ⟨hl, h.symm⟩
    · cases h
  | tup xs =>
    obtain ⟨a, ys, rfl, s, q⟩ := p.tupS (.inl rfl)
    simp only [truB, Option.some.injEq] at h
    refine .inr (.inl ⟨ys, s, ?_⟩)
    rw [← h]
    have := q.length
    cases xs <;> cases ys <;> first | rfl | simp at this
  | wt xs =>
    obtain ⟨a, ys, rfl, s, q⟩ := p.tupS (.inr rfl)
    simp only [truB, Option.some.injEq] at h
    refine .inr (.inl ⟨ys, s, ?_⟩)
    rw [← h]
    have := q.length
    cases xs <;> cases ys <;> first | rfl | simp at this
  | ref n =>
    simp only [Rep] at p
    obtain ⟨a, e, rfl⟩ := p
    simp only [truB] at h
    have iE : ∀ {vs : List Val} {xs : List V}, Reps G.K r H vs xs → (!vs.isEmpty) = !xs.isEmpty := fun {vs xs} q => by
      have := q.length
      cases vs <;> cases xs <;> first | rfl | simp at this
    split at h
    · rename_i xs e2
      obtain ⟨ys, ey, q⟩ := R.ob n a _ e e2
      simp only [Option.some.injEq] at h
      exact .inl ⟨ys, SqL.of ey, by rw [← h]; exact iE q⟩
    · rename_i xs e2
      obtain ⟨ys, ey, q⟩ := R.ob n a _ e e2
      simp only [Option.some.injEq] at h
      refine .inr (.inr ⟨ys, ey, ?_⟩)
      rw [← h]
      have h1 := congrArg List.length q.1
      simp only [List.length_map] at h1
      cases xs <;> cases ys <;> first | rfl | simp at h1
    · cases h
  | ty n => simp only [truB] at h; cases h
  | wl n => simp only [truB] at h; cases h
theorem ttru_red (ma : Mono da) {s : L2.St} {H : Hp} {Q : Bool → Hp → Prop} (h : TTW G W (tTru da) s H Q) : TEW G W da s H fun x H' => ∃ k, TruV G.K x H' k ∧ Q k H' := by
  obtain ⟨r, A, t, R, S, h⟩ := h
  refine ⟨r, A, t, R, S, ma _ _ _ _ _ _ (fun v A1 ⟨k, e, q⟩ r1 H1 x E1 R1 p1 => ?_) (fun _ _ h => h) h⟩
  exact ⟨k, truB_ok R1 p1 e, q r1 H1 E1 R1⟩
theorem st_tru (hK : X.K = G.K) (ma : Mono da) (ha : SE G X a da) (he : ∀ whole, isTrue a X.env whole = (do let v ← whole; standAt a.pos; holding [v] (truthy v))) : ST G X a (tTru da) := fun W tk =>
  (pt_truth (ha W tk) he).wk fun s H Q h => by
    rw [hK]
    exact ttru_red ma h
theorem st_not (mt : MonoT ta) (ha : ST G X a ta) : ST G X (.UnaryOp .Not a pos) (EV.tNot ta) := fun W tk =>
  (pt_not (ha W tk)).wk fun s H Q ⟨r, A, t, R, S, h⟩ => ⟨r, A, t, R, S, mt _ _ _ _ _ _ (fun k A1 h1 r1 H1 E1 R1 => h1 r1 H1 E1 R1) (fun _ _ h => h) h⟩
def SW (G : Gc) (X : Cx) (e : Expr) (d : DenT) : Prop := ∀ W, Takes X W → PW X e (TTW G W d)
theorem _root_.L2.PW.wk {X : Cx} {e : Expr} {t t' : TT} (h : PW X e t) (w : ∀ s H Q, t' s H Q → t s H Q) : PW X e t' := ⟨fun wh pins s σ H Q I q => h.run wh pins s σ H Q I (w _ _ _ q)⟩
theorem sw_one_and (ha : ST G X a ta) : SW G X (.BoolOp .And [a] pos) ta := fun W tk => pw_and1 (ha W tk)
theorem sw_one_or (ha : ST G X a ta) : SW G X (.BoolOp .Or [a] pos) ta := fun W tk => pw_or1 (ha W tk)
theorem sw_and (mt : MonoT ta) (mu : MonoT tb) (ha : ST G X a ta) (hb : SW G X (.BoolOp .And (b :: es) pos) tb) : SW G X (.BoolOp .And (a :: b :: es) pos) (EV.tAnd ta tb) := fun W tk =>
  (pw_and (ha W tk) (hb W tk)).wk fun s H Q ⟨r, A, t, R, S, h⟩ => by
    refine ⟨r, A, t, R, S, mt _ _ _ _ _ _ (fun k A1 h1 r1 H1 E1 R1 => ?_) (fun _ _ h => h) h⟩
    cases k with
    | true =>
      rw [if_pos rfl] at h1 ⊢
      exact ⟨r1, A1, t, R1, S.ext R E1, mu _ _ _ _ _ _ (fun v A' h => kb_up E1 h) (fun e A' h => kx_up E1 h) h1⟩
    | false =>
      rw [if_neg Bool.false_ne_true] at h1 ⊢
      exact h1 r1 H1 E1 R1
theorem sw_or (mt : MonoT ta) (mu : MonoT tb) (ha : ST G X a ta) (hb : SW G X (.BoolOp .Or (b :: es) pos) tb) : SW G X (.BoolOp .Or (a :: b :: es) pos) (EV.tOr ta tb) := fun W tk =>
  (pw_or (ha W tk) (hb W tk)).wk fun s H Q ⟨r, A, t, R, S, h⟩ => by
    refine ⟨r, A, t, R, S, mt _ _ _ _ _ _ (fun k A1 h1 r1 H1 E1 R1 => ?_) (fun _ _ h => h) h⟩
    cases k with
    | true =>
      rw [if_pos rfl] at h1 ⊢
      exact h1 r1 H1 E1 R1
    | false =>
      rw [if_neg Bool.false_ne_true] at h1 ⊢
      exact ⟨r1, A1, t, R1, S.ext R E1, mu _ _ _ _ _ _ (fun v A' h => kb_up E1 h) (fun e A' h => kx_up E1 h) h1⟩
theorem st_bool (h : SW G X a ta) : ST G X a ta := fun W tk => (h W tk).pt
/-- and, or, not as values -/
def dAndV (a b : Den) : Den := fun t A Q E => a t A (fun x A1 => ∃ k, truB A1 x = some k ∧ if k = true then b t A1 Q E else Q x A1) E
def dOrV (a b : Den) : Den := fun t A Q E => a t A (fun x A1 => ∃ k, truB A1 x = some k ∧ if k = true then Q x A1 else b t A1 Q E) E
def dNotV (a : Den) : Den := fun t A Q E => a t A (fun x A1 => ∃ k, truB A1 x = some k ∧ Q (.bl (!k)) A1) E
theorem mono_andv (ma : Mono da) (mb : Mono db) : Mono (dAndV da db) := fun t A Q Q' E E' h k q => ma _ _ _ _ _ _ (fun b A1 ⟨c, e, q1⟩ => ⟨c, e, by
  cases c with
  | true => rw [if_pos rfl] at q1 ⊢; exact mb _ _ _ _ _ _ h k q1
  | false => rw [if_neg Bool.false_ne_true] at q1 ⊢; exact h _ _ q1⟩) k q
theorem mono_orv (ma : Mono da) (mb : Mono db) : Mono (dOrV da db) := fun t A Q Q' E E' h k q => ma _ _ _ _ _ _ (fun b A1 ⟨c, e, q1⟩ => ⟨c, e, by
  cases c with
  | true => rw [if_pos rfl] at q1 ⊢; exact h _ _ q1
  | false => rw [if_neg Bool.false_ne_true] at q1 ⊢; exact mb _ _ _ _ _ _ h k q1⟩) k q
theorem mono_notv (ma : Mono da) : Mono (dNotV da) := fun t A Q Q' E E' h k q => ma _ _ _ _ _ _ (fun b A1 ⟨c, e, q1⟩ => ⟨c, e, h _ _ q1⟩) k q
theorem se_one {op : BoolOp} (ha : SE G X a da) : SE G X (.BoolOp op [a] pos) da := fun W tk => pe_one (ha W tk)
theorem se_and (hK : X.K = G.K) (ma : Mono da) (mb : Mono db) (ha : SE G X a da) (hb : SE G X (.BoolOp .And (b :: es) pos) db) : SE G X (.BoolOp .And (a :: b :: es) pos) (dAndV da db) := fun W tk =>
  (pe_andT (ha W tk) (hb W tk)).wk fun s H Q ⟨r, A, t, R, S, h⟩ => by
    rw [hK]
    refine ⟨r, A, t, R, S, ma _ _ _ _ _ _ (fun v A1 ⟨k, e, h1⟩ r1 H1 x E1 R1 p1 => ⟨k, truB_ok R1 p1 e, ?_⟩) (fun _ _ h => h) h⟩
    cases k with
    | true =>
      rw [if_pos rfl] at h1 ⊢
      exact ⟨r1, A1, t, R1, S.ext R E1, mb _ _ _ _ _ _ (fun v A' h => kv_up E1 h) (fun e A' h => kx_up E1 h) h1⟩
    | false =>
      rw [if_neg Bool.false_ne_true] at h1 ⊢
      exact h1 r1 H1 x E1 R1 p1
theorem se_or (hK : X.K = G.K) (ma : Mono da) (mb : Mono db) (ha : SE G X a da) (hb : SE G X (.BoolOp .Or (b :: es) pos) db) : SE G X (.BoolOp .Or (a :: b :: es) pos) (dOrV da db) := fun W tk =>
  (pe_orT (ha W tk) (hb W tk)).wk fun s H Q ⟨r, A, t, R, S, h⟩ => by
    rw [hK]
    refine ⟨r, A, t, R, S, ma _ _ _ _ _ _ (fun v A1 ⟨k, e, h1⟩ r1 H1 x E1 R1 p1 => ⟨k, truB_ok R1 p1 e, ?_⟩) (fun _ _ h => h) h⟩
    cases k with
    | true =>
      rw [if_pos rfl] at h1 ⊢
      exact h1 r1 H1 x E1 R1 p1
    | false =>
      rw [if_neg Bool.false_ne_true] at h1 ⊢
      exact ⟨r1, A1, t, R1, S.ext R E1, mb _ _ _ _ _ _ (fun v A' h => kv_up E1 h) (fun e A' h => kx_up E1 h) h1⟩
theorem se_not (hK : X.K = G.K) (ma : Mono da) (ha : SE G X a da) : SE G X (.UnaryOp .Not a pos) (dNotV da) := fun W tk =>
  (pe_notT (ha W tk)).wk fun s H Q ⟨r, A, t, R, S, h⟩ => by
    rw [hK]
    refine ⟨r, A, t, R, S, ma _ _ _ _ _ _ (fun v A1 ⟨k, e, h1⟩ r1 H1 x E1 R1 p1 => ⟨k, truB_ok R1 p1 e, ?_⟩) (fun _ _ h => h) h⟩
    exact h1 r1 H1 _ E1 R1 (by simp only [Rep])
end
end EV

namespace EV
open PySem PySem.Spec PyProof.Rows L2

/-! ### statements -/
def sSkip : DenS := fun t A D => D.nx t A
def sSeq (a b : DenS) : DenS := fun t A D => a t A ⟨fun t A => b t A D, D.rt, D.bk, D.ct, D.ex⟩
def sExpr (d : Den) : DenS := fun t A D => d t A (fun _ A1 => D.nx t A1) (fun e A1 => D.ex e t A1)
def sRet (d : Den) : DenS := fun t A D => d t A D.rt (fun e A1 => D.ex e t A1)
def sRetN : DenS := fun _ A D => D.rt .non A
def sIf (c : DenT) (a b : DenS) : DenS := fun t A D => c t A (fun k A1 => if k = true then a t A1 D else b t A1 D) (fun e A1 => D.ex e t A1)
def sBreak : DenS := fun t A D => D.bk t A
def sCont : DenS := fun t A D => D.ct t A
abbrev DenG := Val → Lv → AH → (Lv → AH → Prop) → Prop
abbrev nox : XQ := fun _ _ => False
abbrev DenGs := List Val → Lv → AH → (Lv → AH → Prop) → Prop
def gName (i : Nat) : DenG := fun v t A Q => Q (t.set i (some v)) A
def gsNil : DenGs := fun vs t A Q => vs = [] ∧ Q t A
def gsCons (g : DenG) (gs : DenGs) : DenGs := fun vs t A Q => ∃ v r, vs = v :: r ∧ g v t A (fun t1 A1 => gs r t1 A1 Q)
def gTup (n : Nat) (gs : DenGs) : DenG := fun v t A Q => ∃ xs, (v = .tup xs ∨ v = .wt xs) ∧ xs.length = n ∧ gs xs t A Q
abbrev OpSet := Val → Val → Val → AH → (AH → Prop) → Prop
def gSub (o i : Den) (st : OpSet) : DenG := fun v t A Q => o t A (fun x A1 => i t A1 (fun y A2 => st x y v A2 (fun A3 => Q t A3)) nox) nox
def sAsg (d : Den) (g : DenG) : DenS := fun t A D => d t A (fun v A1 => g v t A1 D.nx) (fun e A1 => D.ex e t A1)
def sPar (i j : Nat) (d : DenA) : DenS := fun t A D => d t A (fun vs A1 => ∃ v w, vs = [v, w] ∧ D.nx ((t.set i (some v)).set j (some w)) A1) (fun e A1 => D.ex e t A1)
def sAug (i : Nat) (o : Op2) (d : Den) : DenS := fun t A D => ∃ x, t[i]? = some (some x) ∧ d t A (fun y A1 => o x y A1 (fun z A2 => D.nx (t.set i (some z)) A2)) (fun e A1 => D.ex e t A1)
def sWhile (c : DenT) (b : DenS) : DenS := fun t A D => ∃ Wi : Nat → Lv → AH → Prop, (∃ m, Wi m t A) ∧ ∀ m t A, Wi m t A →
  c t A (fun k A1 => if k = true then ∃ N : Lv → AH → Prop, (∀ t' A', N t' A' → ∃ m', m' < m ∧ Wi m' t' A') ∧ b t A1 ⟨N, D.rt, D.nx, N, D.ex⟩ else D.nx t A1) (fun e A1 => D.ex e t A1)
/-- what is walked: the item at a turn, or the end -/
abbrev Wk := Nat → AH → Option (Option Val)
abbrev DenI := Lv → AH → (Wk → AH → Prop) → XQ → Prop
def sFor (it : DenI) (g : DenG) (b : DenS) : DenS := fun t A D => it t A (fun J A1 => ∃ Wi : Nat → Nat → Lv → AH → Prop, (∃ m, Wi 0 m t A1) ∧ ∀ i m t A, Wi i m t A →
  (J i A = some none ∧ D.nx t A) ∨ (∃ v, J i A = some (some v) ∧ ∃ N : Lv → AH → Prop, (∀ t' A', N t' A' → ∃ m', m' < m ∧ Wi (i + 1) m' t' A') ∧
    g v t A (fun t2 A2 => b t2 A2 ⟨N, D.rt, D.nx, N, D.ex⟩))) (fun e A1 => D.ex e t A1)
def MonoG (g : DenG) : Prop := ∀ v t A Q Q', (∀ t' A', Q t' A' → Q' t' A') → g v t A Q → g v t A Q'
def MonoGs (g : DenGs) : Prop := ∀ v t A Q Q', (∀ t' A', Q t' A' → Q' t' A') → g v t A Q → g v t A Q'
def MonoI (d : DenI) : Prop := ∀ t A Q Q' E E', (∀ v A', Q v A' → Q' v A') → (∀ e A', E e A' → E' e A') → d t A Q E → d t A Q' E'
def SMono (o : OpSet) : Prop := ∀ x y z A Q Q', (∀ A', Q A' → Q' A') → o x y z A Q → o x y z A Q'

section
variable {d : Den} {c : DenT} {a b : DenS} {aa : DenA} {g : DenG} {gs : DenGs} {it : DenI}
theorem mono_skip : MonoS sSkip := fun t A D D' L h => L.nx _ _ h
theorem mono_seq (ma : MonoS a) (mb : MonoS b) : MonoS (sSeq a b) := fun t A D D' L h => ma t A ⟨fun t A => b t A D, D.rt, D.bk, D.ct, D.ex⟩ _ ⟨fun t A q => mb _ _ _ _ L q, L.rt, L.bk, L.ct, L.ex⟩ h
theorem mono_expr (md : Mono d) : MonoS (sExpr d) := fun t A D D' L h => md _ _ _ _ _ _ (fun v A q => L.nx _ _ q) (fun e A q => L.ex _ _ _ q) h
theorem mono_ret (md : Mono d) : MonoS (sRet d) := fun t A D D' L h => md _ _ _ _ _ _ (fun v A q => L.rt _ _ q) (fun e A q => L.ex _ _ _ q) h
theorem mono_retN : MonoS sRetN := fun t A D D' L h => L.rt _ _ h
theorem mono_sif (mc : MonoT c) (ma : MonoS a) (mb : MonoS b) : MonoS (sIf c a b) := fun t A D D' L h => mc _ _ _ _ _ _ (fun k A1 q => by
  cases k with
  | true => rw [if_pos rfl] at q ⊢; exact ma _ _ _ _ L q
  | false => rw [if_neg Bool.false_ne_true] at q ⊢; exact mb _ _ _ _ L q) (fun e A q => L.ex _ _ _ q) h
theorem mono_break : MonoS sBreak := fun t A D D' L h => L.bk _ _ h
theorem mono_cont : MonoS sCont := fun t A D D' L h => L.ct _ _ h
theorem mono_gname (i : Nat) : MonoG (gName i) := fun v t A Q Q' h q => h _ _ q
theorem mono_gsnil : MonoGs gsNil := fun v t A Q Q' h q => ⟨q.1, h _ _ q.2⟩
theorem mono_gscons (mg : MonoG g) (ms : MonoGs gs) : MonoGs (gsCons g gs) := fun v t A Q Q' h ⟨v, r, e, q⟩ => ⟨v, r, e, mg _ _ _ _ _ (fun t A q => ms _ _ _ _ _ h q) q⟩
theorem mono_gtup (n : Nat) (ms : MonoGs gs) : MonoG (gTup n gs) := fun v t A Q Q' h ⟨xs, e, e2, q⟩ => ⟨xs, e, e2, ms _ _ _ _ _ h q⟩
theorem mono_gsub {o i : Den} {st : OpSet} (mo : Mono o) (mi : Mono i) (ms : SMono st) : MonoG (gSub o i st) := fun v t A Q Q' h q =>
  mo _ _ _ _ _ _ (fun x A1 q => mi _ _ _ _ _ _ (fun y A2 q => ms _ _ _ _ _ _ (fun A3 q => h _ _ q) q) (fun _ _ z => z) q) (fun _ _ z => z) q
theorem mono_asg (md : Mono d) (mg : MonoG g) : MonoS (sAsg d g) := fun t A D D' L h => md _ _ _ _ _ _ (fun v A q => mg _ _ _ _ _ L.nx q) (fun e A q => L.ex _ _ _ q) h
theorem mono_par {i j : Nat} (ma : MonoA aa) : MonoS (sPar i j aa) := fun t A D D' L h => ma _ _ _ _ _ _ (fun v A ⟨x, y, e, q⟩ => ⟨x, y, e, L.nx _ _ q⟩) (fun e A q => L.ex _ _ _ q) h
theorem mono_aug {i : Nat} {o : Op2} (mo : OMono o) (md : Mono d) : MonoS (sAug i o d) := fun t A D D' L ⟨x, e, h⟩ => ⟨x, e, md _ _ _ _ _ _ (fun v A q => mo _ _ _ _ _ (fun z A q => L.nx _ _ q) q) (fun e A q => L.ex _ _ _ q) h⟩
theorem mono_while (mc : MonoT c) (mb : MonoS b) : MonoS (sWhile c b) := fun t A D D' L ⟨Wi, h0, h⟩ => ⟨Wi, h0, fun m t A w => mc _ _ _ _ _ _ (fun k A1 q => by
  cases k with
  | true =>
    rw [if_pos rfl] at q ⊢
    obtain ⟨N, hN, q⟩ := q
    exact ⟨N, hN, mb t A1 ⟨N, D.rt, D.nx, N, D.ex⟩ _ ⟨fun _ _ h => h, L.rt, L.nx, fun _ _ h => h, L.ex⟩ q⟩
  | false => rw [if_neg Bool.false_ne_true] at q ⊢; exact L.nx _ _ q) (fun e A q => L.ex _ _ _ q) (h m t A w)⟩
theorem mono_for (mi : MonoI it) (mg : MonoG g) (mb : MonoS b) : MonoS (sFor it g b) := fun t A D D' L h => mi _ _ _ _ _ _ (fun J A1 ⟨Wi, h0, h⟩ => ⟨Wi, h0, fun i m t A w => by
  rcases h i m t A w with ⟨e, q⟩ | ⟨v, e, N, hN, q⟩
  · exact .inl ⟨e, L.nx _ _ q⟩
  · exact .inr ⟨v, e, N, hN, mg _ _ _ _ _ (fun t2 A2 q => mb t2 A2 ⟨N, D.rt, D.nx, N, D.ex⟩ _ ⟨fun _ _ h => h, L.rt, L.nx, fun _ _ h => h, L.ex⟩ q) q⟩⟩) (fun e A q => L.ex _ _ _ q) h
end

section
variable {G : Gc} {r r1 : List Addr} {H H1 : Hp} {A A' : AH} {W : WX} {D : Ends}
theorem ends_up (E : Ext r r1 H H1) : EndsA.Le (ends G W r H D) (ends G W r1 H1 D) :=
  ⟨fun t A h => kn_up E h, fun v A h => kv_up E h, fun t A h => kn_up E h, fun t A h => kn_up E h, fun e t A h => kxs_up E h⟩
theorem ex_of {t : Lv} {s : L2.St} {e : Exc} (R : HRel G.K r A H) (S : SRel G.K r H t s) (h : (ends G W r H D).ex e t A') : kx G r H s W e A' :=
  fun r' H' c d E' R' x => h r' H' s c d E' R' (S.ext R E') x
end

/-! ### the judgements of targets and walks -/
section
variable (G : Gc)
def TGW (g : DenG) : TG := fun x s H Q => ∃ r A t v, HRel G.K r A H ∧ SRel G.K r H t s ∧ Rep G.K r H v x ∧ g v t A (kn G r H Q)
def TGsW (g : DenGs) : TGs := fun x s H Q => ∃ r A t v, HRel G.K r A H ∧ SRel G.K r H t s ∧ Reps G.K r H v x ∧ g v t A (kn G r H Q)
/-- J is walked as Wk tells, from here on -/
def ItR (r0 : List Addr) (H0 : Hp) (J : It) (k : Wk) : Prop := ∀ r A H, Ext r0 r H0 H → HRel G.K r A H → ∀ i,
  (∀ v, k i A = some (some v) → J.go i H ∧ ∀ x H', J.yld i H x H' → Ext r r H H' ∧ HRel G.K r A H' ∧ Rep G.K r H' v x) ∧ (k i A = some none → J.stop i H)
def TIW (W : WX) (d : DenI) : TI := fun s H R => ∃ r A t, HRel G.K r A H ∧ SRel G.K r H t s ∧ d t A (fun k A' => ∀ r' H' J, Ext r r' H H' → HRel G.K r' A' H' → ItR G r' H' J k → R J H') (kx G r H s W)
end
section
variable (G : Gc) (X : Cx)
/-- exceptions of a target lie at the slots as they stood -/
def SG (e : Expr) (g : DenG) : Prop := PG X e (TGW G g)
def SGs (e : List Expr) (g : DenGs) : Prop := PGs X e (TGsW G g)
def SI (tg e : Expr) (d : DenI) : Prop := ∀ W, Takes X W → PI X tg e (TIW G W d)
end
theorem _root_.L2.PG.wk {X : Cx} {e : Expr} {t t' : TG} (h : PG X e t) (w : ∀ v s H Q, t' v s H Q → t v s H Q) : PG X e t' := ⟨fun pins s σ H v u Q I r q => h.run pins s σ H v u Q I r (w _ _ _ _ q)⟩
theorem _root_.L2.PGs.wk {X : Cx} {e : List Expr} {t t' : TGs} (h : PGs X e t) (w : ∀ v s H Q, t' v s H Q → t v s H Q) : PGs X e t' := ⟨fun pins s σ H v u Q I r q => h.run pins s σ H v u Q I r (w _ _ _ _ q)⟩
theorem _root_.L2.PI.wk {X : Cx} {tg e : Expr} {t t' : TI} (h : PI X tg e t) (w : ∀ s H R, t' s H R → t s H R) : PI X tg e t' := ⟨fun pins s σ H R I q => h.run pins s σ H R I (w _ _ _ q)⟩

section
variable {G : Gc} {X : Cx} {W : WX} {e c o i : Expr} {es : List Expr} {st : Stmt} {rest sa sb : List Stmt} {d di : Den} {tc : DenT} {a b : DenS} {aa : DenA} {g : DenG} {gs : DenGs} {it : DenI} {pos : Pos}
theorem ss_nil : SSs G X [] sSkip := fun W tk => pss_nil.wk fun D s H ⟨r, A, t, R, S, h⟩ => h r H s (Ext.refl r H) R S
theorem ss_cons (ma : MonoS a) (mb : MonoS b) (ha : SS G X st a) (hb : SSs G X rest b) : SSs G X (st :: rest) (sSeq a b) := fun W tk =>
  (pss_cons (ha W tk) (hb W tk)).wk fun D s H ⟨r, A, t, R, S, h⟩ => by
    refine ⟨r, A, t, R, S, ma t A ⟨fun t A => b t A (ends G W r H D), (ends G W r H D).rt, (ends G W r H D).bk, (ends G W r H D).ct, (ends G W r H D).ex⟩ _ ⟨fun t1 A1 q r1 H1 s1 E1 R1 S1 => ?_, fun _ _ h => h, fun _ _ h => h, fun _ _ h => h, fun _ _ _ h => h⟩ h⟩
    exact ⟨r1, A1, t1, R1, S1, mb _ _ _ _ (ends_up E1) q⟩
theorem ss_pass : SS G X (.Pass pos) sSkip := fun W tk => ps_pass.wk fun D s H ⟨r, A, t, R, S, h⟩ => h r H s (Ext.refl r H) R S
theorem ss_break : SS G X (.Break pos) sBreak := fun W tk => ps_break.wk fun D s H ⟨r, A, t, R, S, h⟩ => h r H s (Ext.refl r H) R S
theorem ss_cont : SS G X (.Continue pos) sCont := fun W tk => ps_continue.wk fun D s H ⟨r, A, t, R, S, h⟩ => h r H s (Ext.refl r H) R S
theorem ss_expr (md : Mono d) (hd : SE G X e d) (hs : swapsWith e none pos.line X.env = pure false) : SS G X (.Expr e pos) (sExpr d) := fun W tk =>
  (ps_expr (hd W tk) hs).wk fun D s H ⟨r, A, t, R, S, h⟩ => ⟨r, A, t, R, S, md _ _ _ _ _ _ (fun v A1 q r1 H1 x E1 R1 _ => q r1 H1 s E1 R1 (S.ext R E1)) (fun e A1 q => ex_of R S q) h⟩
theorem ss_ret (md : Mono d) (hd : SE G X e d) : SS G X (.Return (some e) pos) (sRet d) := fun W tk =>
  (ps_ret (hd W tk)).wk fun D s H ⟨r, A, t, R, S, h⟩ => ⟨r, A, t, R, S, md _ _ _ _ _ _ (fun v A1 q => q) (fun e A1 q => ex_of R S q) h⟩
theorem ss_retN : SS G X (.Return none pos) sRetN := fun W tk => ps_retN.wk fun D s H ⟨r, A, t, R, S, h⟩ => h r H .non (Ext.refl r H) R (by simp only [Rep])
theorem ss_if (mt : MonoT tc) (ma : MonoS a) (mb : MonoS b) (ht : ST G X c tc) (ha : SSs G X sa a) (hb : SSs G X sb b) : SS G X (.If c sa sb pos) (sIf tc a b) := fun W tk =>
  (ps_if (ht W tk) (ha W tk) (hb W tk)).wk fun D s H ⟨r, A, t, R, S, h⟩ => by
    refine ⟨r, A, t, R, S, mt _ _ _ _ _ _ (fun k A1 h1 r1 H1 E1 R1 => ?_) (fun e A1 q => ex_of R S q) h⟩
    cases k with
    | true =>
      rw [if_pos rfl] at h1 ⊢
      exact ⟨r1, A1, t, R1, S.ext R E1, ma _ _ _ _ (ends_up E1) h1⟩
    | false =>
      rw [if_neg Bool.false_ne_true] at h1 ⊢
      exact ⟨r1, A1, t, R1, S.ext R E1, mb _ _ _ _ (ends_up E1) h1⟩
theorem sg_name {k : Nat} {x : Str} (hN : X.N.Nodup) (hi : X.N[k]? = some x) (hx : Loc X.env.scope x) (hf : X.fn x = true ∨ X.env.scope.names.lookup x = some .local) : SG G X (.Name x pos) (gName k) :=
  (pg_name hN hi hx hf).wk fun x s H Q ⟨r, A, t, v, R, S, p, h⟩ => h r H _ (Ext.refl r H) R (S.set k p)
theorem sgs_nil : SGs G X [] gsNil := pgs_nil.wk fun x s H Q ⟨r, A, t, v, R, S, p, e, h⟩ => by
  subst e
  exact ⟨Reps.nil_iff.mp p, h r H s (Ext.refl r H) R S⟩
theorem sgs_cons (mg : MonoG g) (ms : MonoGs gs) (h1 : SG G X e g) (h2 : SGs G X es gs) (hs : (assignEach (e :: es) X.env).map (·.2) = assign e X.env :: (assignEach es X.env).map (·.2)) : SGs G X (e :: es) (gsCons g gs) :=
  (pgs_cons h1 h2 hs).wk fun x s H Q ⟨r, A, t, v, R, S, p, v1, vr, ev, h⟩ => by
    subst ev
    obtain ⟨y, ys, rfl, p1, p2⟩ := Reps.cons_iff.mp p
    refine ⟨y, ys, rfl, r, A, t, v1, R, S, p1, mg _ _ _ _ _ (fun t1 A1 q r1 H1 s1 E1 R1 S1 => ?_) h⟩
    exact ⟨r1, A1, t1, vr, R1, S1, Reps.ext R E1 _ _ p2, ms _ _ _ _ _ (fun t2 A2 q => kn_up E1 q) q⟩
theorem sg_tup {n k : Nat} (hK : X.K = G.K) (hc : X.calm = true) (ms : MonoGs gs) (h : SGs G X es gs) (hn : (assignEach es X.env).length = n) (hst : (assignEach es X.env).findIdx? (·.1) = none) : SG G X (.Tuple es k pos) (gTup n gs) :=
  (pg_tup hc h hn hst).wk fun x s H Q ⟨r, A, t, v, R, S, p, xs, ev, el, q⟩ => by
    obtain ⟨a, ys, rfl, sq, p⟩ := p.tupS ev
    rw [hK]
    exact ⟨a, ys, rfl, sq, by rw [← p.length, el], r, A, t, xs, R, S, p, q⟩
structure SetS (G : Gc) (o : OpSet) (rr : TSet) : Prop where
  mono : SMono o
  sim : ∀ r A H u v w x y z Q, HRel G.K r A H → Rep G.K r H u x → Rep G.K r H v y → Rep G.K r H w z → o u v w A (fun A' => ∀ r' H', Ext r r' H H' → HRel G.K r' A' H' → Q H') → rr x y z H Q
theorem sg_sub {op : OpSet} {rr : TSet} {dq : Den} (ho : PSet X rr) (hs : SetS G op rr) (mo : Mono d) (mi : Mono di) (h1 : SE G X o d) (h2 : SE G X i di) (hx : ∀ v, assign (.Subscript o i pos) X.env v = (do
      let ov ← holding [v] (eval o X.env)
      let iv ← holding [v, ov] (eval i X.env)
      standAt pos
      holding [v, ov, iv] (setItem ov iv v)
      release [v, ov, iv] [])) : SG G X (.Subscript o i pos) (gSub d di op) := by
  have tk : Takes X (fun _ _ _ _ => False) := takes0
  refine (pg_sub (h1 _ tk) (h2 _ tk) ho hx).wk fun x s H Q ⟨r, A, t, v, R, S, p, h⟩ => ?_
  refine ⟨r, A, t, R, S, mo _ _ _ _ _ _ (fun u A1 h1 r1 H1 xu E1 R1 p1 => ?_) (fun e A1 z => z.elim) h⟩
  refine ⟨r1, A1, t, R1, S.ext R E1, mi _ _ _ _ _ _ (fun w A2 h2 r2 H2 xw E2 R2 p2 => ?_) (fun e A1 z => z.elim) h1⟩
  refine hs.sim r2 A2 H2 u w v xu xw x _ R2 (Rep.ext R1 E2 _ _ p1) p2 (Rep.ext R (E1.trans E2) _ _ p) (hs.mono _ _ _ _ _ _ (fun A3 q r3 H3 E3 R3 => ?_) h2)
  exact q r3 H3 s ((E1.trans E2).trans E3) R3 (S.ext R ((E1.trans E2).trans E3))
theorem ss_asg (md : Mono d) (mg : MonoG g) (hd : SE G X e d) (hg : SG G X c g) (hs : swapsWithSole [c] e pos.line X.env = pure false) (hw : swappedStores [c] e X.env = pure none) (h1 : (assignEach [c] X.env).map (·.2) = [assign c X.env]) :
    SS G X (.Assign [c] e pos) (sAsg d g) := fun W tk =>
  (ps_asg (hd W tk) hg hs hw h1).wk fun D s H ⟨r, A, t, R, S, h⟩ => by
    refine ⟨r, A, t, R, S, md _ _ _ _ _ _ (fun v A1 q r1 H1 x E1 R1 p1 => ?_) (fun e A1 q => ex_of R S q) h⟩
    exact ⟨r1, A1, t, v, R1, S.ext R E1, p1, mg _ _ _ _ _ (fun t2 A2 q => kn_up E1 q) q⟩
theorem ss_par {i j : Nat} {x y : Str} {ea eb : Expr} {px py pt : Pos} {kt k2 : Nat} {pt2 : Pos} (hc : X.calm = true) (hN : X.N.Nodup) (hi : X.N[i]? = some x) (hj : X.N[j]? = some y) (hij : i ≠ j)
    (hx : X.env.scope.names.lookup x = some .local) (hy : X.env.scope.names.lookup y = some .local) (ma : MonoA aa) (ha : SA G X [ea, eb] aa)
    (hw : swappedStores [.Tuple [.Name x px, .Name y py] kt pt] (.Tuple [ea, eb] k2 pt2) X.env = pure (some [x, y]))
    (hs : swapsWithSole [.Tuple [.Name x px, .Name y py] kt pt] (.Tuple [ea, eb] k2 pt2) pos.line X.env = pure false) :
    SS G X (.Assign [.Tuple [.Name x px, .Name y py] kt pt] (.Tuple [ea, eb] k2 pt2) pos) (sPar i j aa) := fun W tk =>
  (ps_par hc hN hi hj hij hx hy (ha W tk) hw hs).wk fun D s H ⟨r, A, t, R, S, h⟩ => by
    refine ⟨r, A, t, R, S, ma _ _ _ _ _ _ (fun vs A1 ⟨v, w, e, q⟩ r1 H1 xs E1 R1 p1 => ?_) (fun e A1 q => ex_of R S q) h⟩
    subst e
    obtain ⟨x1, xr, rfl, q1, p2⟩ := Reps.cons_iff.mp p1
    obtain ⟨x2, xr2, rfl, q2, p3⟩ := Reps.cons_iff.mp p2
    rw [Reps.nil_iff] at p3; subst p3
    exact ⟨x1, x2, rfl, q r1 H1 _ E1 R1 (((S.ext R E1).set i q1).set j q2)⟩
theorem ss_aug {k : Nat} {x : Str} {op : Operator} {o2 : Op2} {rr : R2} {pos' : Pos} (hN : X.N.Nodup) (hi : X.N[k]? = some x) (hx : Loc X.env.scope x) (hf : X.fn x = true ∨ X.env.scope.names.lookup x = some .local) (md : Mono d) (hd : SE G X e d) (ho : PIp X op rr) (hs : OpS G o2 rr) :
    SS G X (.AugAssign (.Name x pos') op e pos) (sAug k o2 d) := fun W tk =>
  (ps_aug hN hi hx (hd W tk) ho hf).wk fun D s H ⟨r, A, t, R, S, v, ev, h⟩ => by
    obtain ⟨xv, ex, pv⟩ := S.at' k v ev
    refine ⟨xv, ex, r, A, t, R, S, md _ _ _ _ _ _ (fun w A1 q r1 H1 y E1 R1 p1 => ?_) (fun e A1 q => ex_of R S q) h⟩
    refine hs.sim r1 A1 H1 v w xv y _ R1 (Rep.ext R E1 _ _ pv) p1 (hs.mono _ _ _ _ _ (fun z A2 q r2 H2 zx E2 R2 p2 => ?_) q)
    exact q r2 H2 _ (E1.trans E2) R2 ((S.ext R (E1.trans E2)).set k p2)
theorem ss_while (hp : PassesOwn (model X.prog X.w) X.A X.env X.xe) (mt : MonoT tc) (mb : MonoS b) (ht : ST G X c tc) (hb : SSs G X sb b) : SS G X (.While c sb [] pos) (sWhile tc b) := fun W tk =>
  (ps_while hp (ht W tk) (hb W tk)).wk fun D s H ⟨r, A, t, R, S, Wi, ⟨m0, w0⟩, h⟩ => by
    refine ⟨fun m s' H' => ∃ r' A' t', Ext r r' H H' ∧ HRel G.K r' A' H' ∧ SRel G.K r' H' t' s' ∧ Wi m t' A', ⟨m0, r, A, t, Ext.refl r H, R, S, w0⟩, fun m s1 H1 ⟨r1, A1, t1, E1, R1, S1, w1⟩ => ?_⟩
    refine ⟨r1, A1, t1, R1, S1, mt _ _ _ _ _ _ (fun k A2 q r2 H2 E2 R2 => ?_) (fun e A2 q => kx_up (Ext.refl _ _) (ex_of (W := W) (D := D) R1 S1 (kxs_up E1 q))) (h m t1 A1 w1)⟩
    cases k with
    | true =>
      rw [if_pos rfl] at q ⊢
      obtain ⟨N, hN, q⟩ := q
      refine ⟨fun s' H' => ∃ r' A' t', Ext r r' H H' ∧ HRel G.K r' A' H' ∧ SRel G.K r' H' t' s' ∧ N t' A', fun s' H' ⟨r', A', t', E', R', S', n'⟩ => ?_, ?_⟩
      · obtain ⟨m', hm, w'⟩ := hN t' A' n'
        exact ⟨m', hm, r', A', t', E', R', S', w'⟩
      · have E12 := E1.trans E2
        refine ⟨r2, A2, t1, R2, S1.ext R1 E2, mb t1 A2 ⟨N, (ends G W r H D).rt, (ends G W r H D).nx, N, (ends G W r H D).ex⟩ _ ⟨fun t3 A3 n3 r3 H3 s3 E3 R3 S3 => ?_, fun v A3 q => kv_up E12 q, fun t3 A3 q => kn_up E12 q, fun t3 A3 n3 r3 H3 s3 E3 R3 S3 => ?_, fun e t3 A3 q => kxs_up E12 q⟩ q⟩
        · exact ⟨r3, A3, t3, E12.trans E3, R3, S3, n3⟩
        · exact ⟨r3, A3, t3, E12.trans E3, R3, S3, n3⟩
    | false =>
      rw [if_neg Bool.false_ne_true] at q ⊢
      exact q r2 H2 s1 (E1.trans E2) R2 (S1.ext R1 E2)
theorem ss_for (hp : PassesOwn (model X.prog X.w) X.A X.env X.xe) (hc : X.calm = true) (mi : MonoI it) (mg : MonoG g) (mb : MonoS b) (hi : SI G X c e it) (hg : SG G X c g) (hb : SSs G X sb b) (hs : ∀ x, foldedSetIterable e X.env x = pure x) :
    SS G X (.For c e sb [] pos) (sFor it g b) := fun W tk =>
  (ps_for hp hc (hi W tk) hg (hb W tk) hs).wk fun D s H ⟨r, A, t, R, S, h⟩ => by
    refine ⟨r, A, t, R, S, mi _ _ _ _ _ _ (fun k A1 ⟨Wi, ⟨m0, w0⟩, q⟩ r1 H1 J E1 R1 IJ => ?_) (fun e A1 q => ex_of R S q) h⟩
    refine ⟨fun i m s' H' => ∃ r' A' t', Ext r1 r' H1 H' ∧ HRel G.K r' A' H' ∧ SRel G.K r' H' t' s' ∧ Wi i m t' A', ⟨m0, r1, A1, t, Ext.refl r1 H1, R1, S.ext R E1, w0⟩, fun i m s2 H2 ⟨r2, A2, t2, E2, R2, S2, w2⟩ => ?_⟩
    obtain ⟨j1, j2⟩ := IJ r2 A2 H2 E2 R2 i
    have E12 := E1.trans E2
    rcases q i m t2 A2 w2 with ⟨e, q⟩ | ⟨v, e, N, hN, q⟩
    · exact .inl ⟨j2 e, q r2 H2 s2 E12 R2 S2⟩
    · obtain ⟨go, yl⟩ := j1 v e
      refine .inr ⟨go, fun s' H' => ∃ r' A' t', Ext r1 r' H1 H' ∧ HRel G.K r' A' H' ∧ SRel G.K r' H' t' s' ∧ N t' A', fun s' H' ⟨r', A', t', E', R', S', n'⟩ => ?_, fun x H3 y => ?_⟩
      · obtain ⟨m', hm, w'⟩ := hN t' A' n'
        exact ⟨m', hm, r', A', t', E', R', S', w'⟩
      · obtain ⟨E3, R3, p3⟩ := yl x H3 y
        refine ⟨r2, A2, t2, v, R3, S2.ext R2 E3, p3, mg _ _ _ _ _ (fun t4 A4 q r4 H4 s4 E4 R4 S4 => ?_) q⟩
        have E14 := E12.trans (E3.trans E4)
        have E24 := E2.trans (E3.trans E4)
        refine ⟨r4, A4, t4, R4, S4, mb t4 A4 ⟨N, (ends G W r H D).rt, (ends G W r H D).nx, N, (ends G W r H D).ex⟩ _ ⟨fun t5 A5 n5 r5 H5 s5 E5 R5 S5 => ?_, fun v A5 q => kv_up E14 q, fun t5 A5 q => kn_up E14 q, fun t5 A5 n5 r5 H5 s5 E5 R5 S5 => ?_, fun e t5 A5 q => kxs_up E14 q⟩ q⟩
        · exact ⟨r5, A5, t5, E24.trans E5, R5, S5, n5⟩
        · exact ⟨r5, A5, t5, E24.trans E5, R5, S5, n5⟩
end
end EV

namespace EV
open PySem PySem.Spec PyProof.Rows L2 RZ RT

/-! ### walks -/
def wkL (n : Nat) : Wk := fun i A => match A[n]? with
  | some (.lst xs) => some xs[i]?
  | _ => none
def lstAt (A : AH) (n : Nat) : Option (List Val) := match A[n]? with
  | some (.lst xs) => some xs
  | _ => none
def wkT (vs : List Val) : Wk := fun i _ => some vs[i]?
def wkR (lo c : Int) (n : Nat) : Wk := fun i _ => some (if i < n then some (.int (lo + (i : Nat) * c)) else none)
def wkS (x : Str) : Wk := fun i _ => some (x.cps[i]?.map fun c => .str ⟨#[c]⟩)
def wkV (n l : Nat) : Wk := fun i A => (lstAt A n).bind fun zs => if zs.length = l then some zs.reverse[i]? else none
def wkE (k : Wk) : Wk := fun i A => (k i A).map fun o => o.map fun v => .tup [.int (i : Nat), v]
def wkZ (k l : Wk) : Wk := fun i A => match k i A, l i A with
  | some (some v), some (some w) => some (some (.tup [v, w]))
  | some none, some _ => some none
  | some _, some none => some none
  | _, _ => none
theorem wkL_eq (n i : Nat) (A : AH) : wkL n i A = (lstAt A n).map fun xs => xs[i]? := by
  unfold wkL lstAt
  split <;> rfl
/-- over a value: a tuple, a list, a text -/
def iVal (d : Den) : DenI := fun t A Q E => d t A (fun v A1 => match v with
  | .tup vs => Q (wkT vs) A1
  | .wt vs => Q (wkT vs) A1
  | .ref n => (∃ xs, lstAt A1 n = some xs) ∧ Q (wkL n) A1
  | .str x => Q (wkS x) A1
  | _ => False) E
def sm62 (i : Int) : Prop := -(2 ^ 62) ≤ i ∧ i < 2 ^ 62
def iRng1 (d : DenA) : DenI := fun t A Q E => d t A (fun vs A1 => ∃ j, vs = [.int j] ∧ sm62 j ∧ Q (wkR 0 1 j.toNat) A1) E
def iRng2 (d : DenA) : DenI := fun t A Q E => d t A (fun vs A1 => ∃ i j, vs = [.int i, .int j] ∧ sm62 i ∧ sm62 j ∧ Q (wkR i 1 (j - i).toNat) A1) E
def iRng3 (d : DenA) : DenI := fun t A Q E => d t A (fun vs A1 => ∃ i j, vs = [.int i, .int j, .int (-1)] ∧ sm62 i ∧ sm62 j ∧ Q (wkR i (-1) (i - j).toNat) A1) E
def iRev (d : Den) : DenI := fun t A Q E => d t A (fun v A1 => match v with
  | .tup vs => Q (wkT vs.reverse) A1
  | .wt vs => Q (wkT vs.reverse) A1
  | .ref n => ∃ xs, lstAt A1 n = some xs ∧ Q (wkV n xs.length) A1
  | _ => False) E
def iEnum (d : DenA) : DenI := fun t A Q E => d t A (fun vs A1 => ∃ n xs, vs = [.ref n] ∧ lstAt A1 n = some xs ∧ Q (wkE (wkL n)) A1) E
def iZip (d : DenA) : DenI := fun t A Q E => d t A (fun vs A1 => (∃ n m xs ys, vs = [.ref n, .ref m] ∧ lstAt A1 n = some xs ∧ lstAt A1 m = some ys ∧ Q (wkZ (wkL n) (wkL m)) A1) ∨ (∃ v w xs ys, vs = [v, w] ∧ (v = .tup xs ∨ v = .wt xs) ∧ (w = .tup ys ∨ w = .wt ys) ∧ Q (wkZ (wkT xs) (wkT ys)) A1)) E
section
variable {d : Den} {aa : DenA}
theorem mono_ival (md : Mono d) : MonoI (iVal d) := fun t A Q Q' E E' h k q => md _ _ _ _ _ _ (fun v A1 q => by
  cases v with
  | tup vs => exact h _ _ q
  | wt vs => exact h _ _ q
  | ref n => exact ⟨q.1, h _ _ q.2⟩
  | str x => exact h _ _ q
  | _ => exact q) k q
theorem mono_irng1 (md : MonoA aa) : MonoI (EV.iRng1 aa) := fun t A Q Q' E E' h k q => md _ _ _ _ _ _ (fun v A1 ⟨j, e, s, q⟩ => ⟨j, e, s, h _ _ q⟩) k q
theorem mono_irng2 (md : MonoA aa) : MonoI (EV.iRng2 aa) := fun t A Q Q' E E' h k q => md _ _ _ _ _ _ (fun v A1 ⟨i, j, e, s, s', q⟩ => ⟨i, j, e, s, s', h _ _ q⟩) k q
theorem mono_irng3 (md : MonoA aa) : MonoI (EV.iRng3 aa) := fun t A Q Q' E E' h k q => md _ _ _ _ _ _ (fun v A1 ⟨i, j, e, s, s', q⟩ => ⟨i, j, e, s, s', h _ _ q⟩) k q
theorem mono_irev (md : Mono d) : MonoI (EV.iRev d) := fun t A Q Q' E E' h k q => md _ _ _ _ _ _ (fun v A1 q => by
  cases v with
  | tup vs => exact h _ _ q
  | wt vs => exact h _ _ q
  | ref n => obtain ⟨xs, e, q⟩ := q; exact ⟨xs, e, h _ _ q⟩
  | _ => exact q) k q
theorem mono_ienum (md : MonoA aa) : MonoI (EV.iEnum aa) := fun t A Q Q' E E' h k q => md _ _ _ _ _ _ (fun v A1 ⟨n, xs, e, l, q⟩ => ⟨n, xs, e, l, h _ _ q⟩) k q
theorem mono_izip (md : MonoA aa) : MonoI (EV.iZip aa) := fun t A Q Q' E E' h k q => md _ _ _ _ _ _ (fun v A1 q => by
  rcases q with ⟨n, m, xs, ys, e, l, l', q⟩ | ⟨v, w, xs, ys, e, ev, ew, q⟩
  · exact .inl ⟨n, m, xs, ys, e, l, l', h _ _ q⟩
  · exact .inr ⟨v, w, xs, ys, e, ev, ew, h _ _ q⟩) k q
end
section
variable {G : Gc} {r : List Addr} {A : AH} {H : Hp}
theorem HRel.list (R : HRel G.K r A H) {n : Nat} {a : Addr} {xs : List Val} (e : r[n]? = some a) (h : lstAt A n = some xs) : ∃ ys, SqL G.K H a ys ∧ Reps G.K r H xs ys := by
  unfold lstAt at h
  split at h
  · rename_i zs e2
    cases h
    obtain ⟨ys, ey, q⟩ := R.ob n a _ e e2
    exact ⟨ys, SqL.of ey, q⟩
  · cases h
/-- what is read at an address is one list -/
theorem rd_inj {K : PySem.W.Frag} {u v : HO} {a : Addr} (h : Rd H a u) (h' : Rd H a v) (hu : ∀ o w, u ≠ .frz o w) (hv : ∀ o w, v ≠ .frz o w) : u = v := by
  rcases h with h | ⟨o, h⟩ <;> rcases h' with h' | ⟨o', h'⟩ <;> rw [h] at h' <;> cases h'
  · rfl
  · exact absurd rfl (hu _ _)
  · exact absurd rfl (hv _ _)
  · rfl
theorem HRel.rd (R : HRel G.K r A H) {n : Nat} {a : Addr} {xs : List Val} (e : r[n]? = some a) (h : lstAt A n = some xs) : ∃ ys, Rd H a (.lst ys) ∧ Reps G.K r H xs ys := by
  unfold lstAt at h
  split at h
  · rename_i zs e2
    cases h
    obtain ⟨ys, ey, q⟩ := R.ob n a _ e e2
    exact ⟨ys, .inl ey, q⟩
  · cases h
theorem itr_list {n : Nat} {a : Addr} (R : HRel G.K r A H) (e : r[n]? = some a) : ItR G r H (Itl G.K a) (wkL n) := fun r' A' H' E' R' i => by
  have e' := E'.at e
  rw [wkL_eq]
  cases h : lstAt A' n with
  | none => exact ⟨fun v z => (nomatch z), fun z => (nomatch z)⟩
  | some xs =>
    obtain ⟨ys, sq, q⟩ := R'.list e' h
    refine ⟨fun v z => ?_, fun z => ?_⟩
    · have z : xs[i]? = some v := by simpa using z
      obtain ⟨x, ex, px⟩ := q.get z
      refine ⟨⟨ys, x, sq, ex⟩, fun y H2 hy => ?_⟩
      obtain ⟨rfl, hy⟩ := hy
      have := (hy ys sq).symm.trans ex
      cases this
      exact ⟨Ext.refl _ _, R', px⟩
    · have z : xs[i]? = none := by simpa using z
      refine ⟨ys, sq, ?_⟩
      rw [← q.length]
      exact List.getElem?_eq_none_iff.mp z
theorem itr_tup {vs : List Val} {ys : List V} {a : Addr} (R : HRel G.K r A H) (sq : SqT G.K H a ys) (q : Reps G.K r H vs ys) : ItR G r H (Itt G.K a) (wkT vs) := fun r' A' H' E' R' i => by
  have sq' := R.sqT E' sq
  have q' := Reps.ext R E' _ _ q
  refine ⟨fun v z => ?_, fun z => ?_⟩
  · have z : vs[i]? = some v := by simpa [wkT] using z
    obtain ⟨x, ex, px⟩ := q'.get z
    refine ⟨⟨ys, x, sq', ex⟩, fun y H2 hy => ?_⟩
    obtain ⟨rfl, hy⟩ := hy
    have := (hy ys sq').symm.trans ex
    cases this
    exact ⟨Ext.refl _ _, R', px⟩
  · have z : vs[i]? = none := by simpa [wkT] using z
    refine ⟨ys, sq', ?_⟩
    rw [← q'.length]
    exact List.getElem?_eq_none_iff.mp z
theorem itr_rng {lo : Int} {n : Nat} : ItR G r H (Itr lo n) (wkR lo 1 n) := fun r' A' H' E' R' i => by
  unfold wkR
  by_cases hi : i < n
  · rw [if_pos hi]
    refine ⟨fun v z => ?_, fun z => (nomatch z)⟩
    cases z
    refine ⟨hi, fun y H2 hy => ?_⟩
    obtain ⟨rfl, rfl⟩ := hy
    exact ⟨Ext.refl _ _, R', by simp only [Rep, Int.mul_one]⟩
  · rw [if_neg hi]
    exact ⟨fun v z => (by cases z), fun z => Nat.le_of_not_lt hi⟩
theorem itr_rngc {lo c : Int} {n : Nat} : ItR G r H (Itc lo c n) (wkR lo c n) := fun r' A' H' E' R' i => by
  unfold wkR
  by_cases hi : i < n
  · rw [if_pos hi]
    refine ⟨fun v z => ?_, fun z => (nomatch z)⟩
    cases z
    refine ⟨hi, fun y H2 hy => ?_⟩
    obtain ⟨rfl, rfl⟩ := hy
    exact ⟨Ext.refl _ _, R', by simp only [Rep]⟩
  · rw [if_neg hi]
    exact ⟨fun v z => (by cases z), fun z => Nat.le_of_not_lt hi⟩
theorem itr_str {x : Str} : ItR G r H (Its x) (wkS x) := fun r' A' H' E' R' i => by
  unfold wkS
  by_cases hi : i < x.cps.size
  · rw [Array.getElem?_eq_getElem hi]
    refine ⟨fun v z => ?_, fun z => (nomatch z)⟩
    cases z
    refine ⟨hi, fun y H2 hy => ?_⟩
    obtain ⟨rfl, c, hc, rfl⟩ := hy
    rw [Array.getElem?_eq_getElem hi] at hc; cases hc
    exact ⟨Ext.refl _ _, R', by simp only [Rep]⟩
  · rw [Array.getElem?_eq_none (Nat.le_of_not_lt hi)]
    exact ⟨fun v z => (by cases z), fun z => Nat.le_of_not_lt hi⟩
end
section
variable {X : Cx} {tg : Expr} {l : Expr} {tl : TE}
/-- a list, a tuple, a text -/
def iAny (K : PySem.W.Frag) (tl : TE) : TI := fun σ H R => tl σ H fun x H1 => (∃ a, x = .ref a ∧ ((∃ xs, SqL K H1 a xs) ∧ R (Itl K a) H1 ∨ (∃ xs, SqT K H1 a xs) ∧ R (Itt K a) H1)) ∨ ∃ z, x = .str z ∧ R (Its z) H1
theorem pi_any (hl : PE X l tl) : PI X tg l (iAny X.K tl) := by
  refine ⟨fun pins s σ H R I h => ?_⟩
  refine thn (hl.run pins s σ H _ I h) fun v s1 ⟨x, H1, I1, r1, q1⟩ => ?_
  rcases q1 with ⟨a, e, ⟨⟨xs, hq⟩, q⟩ | ⟨⟨xs, hq⟩, q⟩⟩ | ⟨z, e, q⟩
  · subst e
    cases r1
    obtain ⟨its, rv, p, hz⟩ := I1.list hq
    refine wpAny_pyIter_list p.isList ?_
    refine ⟨s1.heap.objs.size, [s1.heap.objs.size], _, _, H1, rfl, I1.kept (t' := s1.toks) fun b o e => Heap.get?_push_of_some _ e, turn_list a _, ⟨_, Heap.get?_push_size _ rfl, rfl, rfl⟩, fun b hb => ?_, q⟩
    have e : b = s1.heap.objs.size := by simpa using hb
    subst e
    exact I1.fpOk (Nat.le_refl _) (I1.hok.fresh (Nat.le_refl _))
  · subst e
    cases r1
    obtain ⟨its, rv, p, hz⟩ := I1.tuple hq
    refine wpAny_pyIter_tuple (show s1.heap.IsTuple a its.toArray from p) ?_
    refine ⟨s1.heap.objs.size, [s1.heap.objs.size], _, _, H1, rfl, I1.kept (t' := s1.toks) fun b o e => Heap.get?_push_of_some _ e, turn_tuple a _, ⟨_, Heap.get?_push_size _ rfl, rfl, rfl⟩, fun b hb => ?_, q⟩
    have e : b = s1.heap.objs.size := by simpa using hb
    subst e
    exact I1.fpOk (Nat.le_refl _) (I1.hok.fresh (Nat.le_refl _))
  · subst e
    obtain ⟨t, rfl⟩ := r1
    cases ha : z.cps.all (· < 128)
    · exact wpAny_pyIter_wide ha (pi_one (tk := s1.toks) I1 _ (turn_str _ z t "str_iterator" (.inr rfl)) ⟨_, Heap.get?_push_size _ rfl, rfl, rfl⟩ q)
    · exact wpAny_pyIter_ascii ha (pi_one (tk := s1.toks) I1 _ (turn_str _ z t "str_ascii_iterator" (.inl rfl)) ⟨_, Heap.get?_push_size _ rfl, rfl, rfl⟩ q)
end
section
variable {G : Gc} {X : Cx} {tg : Expr} {e e2 : Expr} {d : Den} {aa : DenA} {p pos tpos : Pos} {a b c : Expr} {elts : List Expr} {kk : Nat}
theorem si_val (hK : X.K = G.K) (md : Mono d) (hd : SE G X e d) : SI G X tg e (iVal d) := fun W tk =>
  (pi_any (hd W tk)).wk fun s H Rr ⟨r, A, t, R, S, h⟩ => by
    rw [hK]
    refine ⟨r, A, t, R, S, md _ _ _ _ _ _ (fun v A1 q r1 H1 x E1 R1 p1 => ?_) (fun _ _ h => h) h⟩
    cases v with
    | tup vs =>
      obtain ⟨a, ys, rfl, sq, p1⟩ := p1.tupS (.inl rfl)
      exact .inl ⟨a, rfl, .inr ⟨⟨ys, sq⟩, q r1 H1 _ E1 R1 (itr_tup R1 sq p1)⟩⟩
    | wt vs =>
      obtain ⟨a, ys, rfl, sq, p1⟩ := p1.tupS (.inr rfl)
      exact .inl ⟨a, rfl, .inr ⟨⟨ys, sq⟩, q r1 H1 _ E1 R1 (itr_tup R1 sq p1)⟩⟩
    | ref n =>
      simp only [Rep] at p1
      obtain ⟨a, ea, rfl⟩ := p1
      obtain ⟨⟨xs, hx⟩, q⟩ := q
      obtain ⟨ys, sq, _⟩ := R1.list ea hx
      exact .inl ⟨a, rfl, .inl ⟨⟨ys, sq⟩, q r1 H1 _ E1 R1 (itr_list R1 ea)⟩⟩
    | str z =>
      simp only [Rep] at p1
      subst p1
      exact .inr ⟨z, rfl, q r1 H1 _ E1 R1 itr_str⟩
    | _ => exact q.elim
theorem reps1 {r : List Addr} {H : Hp} {v : Val} {xs : List V} (p : Reps G.K r H [v] xs) : ∃ x, xs = [x] ∧ Rep G.K r H v x := by
  obtain ⟨y, ys, rfl, p1, p2⟩ := Reps.cons_iff.mp p
  rw [Reps.nil_iff] at p2; subst p2
  exact ⟨y, rfl, p1⟩
theorem reps2 {r : List Addr} {H : Hp} {v w : Val} {xs : List V} (p : Reps G.K r H [v, w] xs) : ∃ x y, xs = [x, y] ∧ Rep G.K r H v x ∧ Rep G.K r H w y := by
  obtain ⟨y, ys, rfl, p1, p2⟩ := Reps.cons_iff.mp p
  obtain ⟨z, rfl, p3⟩ := reps1 p2
  exact ⟨y, z, rfl, p1, p3⟩
theorem reps3 {r : List Addr} {H : Hp} {v w u : Val} {xs : List V} (p : Reps G.K r H [v, w, u] xs) : ∃ x y z, xs = [x, y, z] ∧ Rep G.K r H v x ∧ Rep G.K r H w y ∧ Rep G.K r H u z := by
  obtain ⟨y, ys, rfl, p1, p2⟩ := Reps.cons_iff.mp p
  obtain ⟨z, u, rfl, p3, p4⟩ := reps2 p2
  exact ⟨y, z, u, rfl, p1, p3, p4⟩
theorem si_rng1 (hg : Gl X "range") (hm : X.mg "range" = none) (md : MonoA aa) (ha : SA G X [a] aa) (hs : starEach [a] X.env = [(false, eval a X.env)]) : SI G X tg (.Call (.Name "range" p) [a] [] pos) (EV.iRng1 aa) := fun W tk =>
  (pi_range1 hg hm (ha W tk) hs).wk fun s H Rr ⟨r, A, t, R, S, h⟩ => by
    refine ⟨r, A, t, R, S, md _ _ _ _ _ _ (fun v A1 ⟨j, e, s, q⟩ r1 H1 x E1 R1 p1 => ?_) (fun _ _ h => h) h⟩
    subst e
    obtain ⟨x1, rfl, z1⟩ := reps1 p1
    simp only [Rep] at z1; subst z1
    exact ⟨j, rfl, s.1, s.2, q r1 H1 _ E1 R1 itr_rng⟩
theorem si_rng2 (hg : Gl X "range") (hm : X.mg "range" = none) (md : MonoA aa) (ha : SA G X [a, b] aa) (hs : starEach [a, b] X.env = [(false, eval a X.env), (false, eval b X.env)]) (hs2 : starEach [b] X.env = [(false, eval b X.env)]) : SI G X tg (.Call (.Name "range" p) [a, b] [] pos) (EV.iRng2 aa) := fun W tk =>
  (pi_range2 hg hm (ha W tk) hs hs2).wk fun s H Rr ⟨r, A, t, R, S, h⟩ => by
    refine ⟨r, A, t, R, S, md _ _ _ _ _ _ (fun v A1 ⟨i, j, e, s, s', q⟩ r1 H1 x E1 R1 p1 => ?_) (fun _ _ h => h) h⟩
    subst e
    obtain ⟨x1, x2, rfl, z1, z2⟩ := reps2 p1
    simp only [Rep] at z1 z2; subst z1; subst z2
    exact ⟨i, j, rfl, ⟨s.1, s.2, s'.1, s'.2⟩, q r1 H1 _ E1 R1 itr_rng⟩
theorem si_rng3 (hg : Gl X "range") (hm : X.mg "range" = none) (md : MonoA aa) (ha : SA G X [a, b, c] aa) (hs : starEach [a, b, c] X.env = (false, eval a X.env) :: starEach [b, c] X.env) (hpl : (backTo pos (starEach [b, c] X.env)).any (·.1) = false) : SI G X tg (.Call (.Name "range" p) [a, b, c] [] pos) (EV.iRng3 aa) := fun W tk =>
  (pi_range3 hg hm (ha W tk) hs hpl).wk fun s H Rr ⟨r, A, t, R, S, h⟩ => by
    refine ⟨r, A, t, R, S, md _ _ _ _ _ _ (fun v A1 ⟨i, j, e, s, s', q⟩ r1 H1 x E1 R1 p1 => ?_) (fun _ _ h => h) h⟩
    subst e
    obtain ⟨x1, x2, x3, rfl, z1, z2, z3⟩ := reps3 p1
    simp only [Rep] at z1 z2 z3; subst z1; subst z2; subst z3
    exact ⟨i, j, -1, (i - j).toNat, rfl, RgC.neg s.1 s.2 s'.1 s'.2, q r1 H1 _ E1 R1 itr_rngc⟩
theorem si_rev (hK : X.K = G.K) (hg : Gl X "reversed") (hm : X.mg "reversed" = none) (md : Mono d) (hd : SE G X e d) (hs : starEach [e] X.env = (false, eval e X.env) :: starEach [] X.env) : SI G X tg (.Call (.Name "reversed" p) [e] [] pos) (EV.iRev d) := fun W tk =>
  (pi_revA hg hm (hd W tk) hs).wk fun s H Rr ⟨r, A, t, R, S, h⟩ => by
    rw [hK]
    refine ⟨r, A, t, R, S, md _ _ _ _ _ _ (fun v A1 q r1 H1 x E1 R1 p1 => ?_) (fun _ _ h => h) h⟩
    have rv : ∀ {vs : List Val} {n i : Nat}, vs.length = n → i < n → vs.reverse[i]? = vs[n - 1 - i]? := fun {vs n i} hn hi => by
      subst hn
      rw [List.getElem?_reverse hi]
    cases v with
    | tup vs =>
      obtain ⟨a, ys, rfl, sq, p1⟩ := p1.tupS (.inl rfl)
      refine ⟨a, ys, rfl, .inr ⟨sq, q r1 H1 _ E1 R1 fun r' A' H' E' R' i => ?_⟩⟩
      have sq' := R1.sqT E' sq
      have q' := Reps.ext R1 E' _ _ p1
      have hl := q'.length
      refine ⟨fun v z => ?_, fun z => ?_⟩
      · have z : vs.reverse[i]? = some v := by simpa [wkT] using z
        have hi : i < ys.length := by
          rcases Nat.lt_or_ge i ys.length with u | u
          · exact u
          · rw [List.getElem?_eq_none (by simp; omega)] at z; cases z
        rw [rv hl hi] at z
        obtain ⟨x, ex, px⟩ := q'.get z
        refine ⟨⟨hi, ys, x, sq', ex⟩, fun y H2 hy => ?_⟩
        obtain ⟨rfl, hy⟩ := hy
        have := (hy ys sq').symm.trans ex
        cases this
        exact ⟨Ext.refl _ _, R', px⟩
      · have z : vs.reverse[i]? = none := by simpa [wkT] using z
        have := List.getElem?_eq_none_iff.mp z
        rw [List.length_reverse] at this
        show ys.length ≤ i
        omega
    | wt vs =>
      obtain ⟨a, ys, rfl, sq, p1⟩ := p1.tupS (.inr rfl)
      refine ⟨a, ys, rfl, .inr ⟨sq, q r1 H1 _ E1 R1 fun r' A' H' E' R' i => ?_⟩⟩
      have sq' := R1.sqT E' sq
      have q' := Reps.ext R1 E' _ _ p1
      have hl := q'.length
      refine ⟨fun v z => ?_, fun z => ?_⟩
      · have z : vs.reverse[i]? = some v := by simpa [wkT] using z
        have hi : i < ys.length := by
          rcases Nat.lt_or_ge i ys.length with u | u
          · exact u
          · rw [List.getElem?_eq_none (by simp; omega)] at z; cases z
        rw [rv hl hi] at z
        obtain ⟨x, ex, px⟩ := q'.get z
        refine ⟨⟨hi, ys, x, sq', ex⟩, fun y H2 hy => ?_⟩
        obtain ⟨rfl, hy⟩ := hy
        have := (hy ys sq').symm.trans ex
        cases this
        exact ⟨Ext.refl _ _, R', px⟩
      · have z : vs.reverse[i]? = none := by simpa [wkT] using z
        have := List.getElem?_eq_none_iff.mp z
        rw [List.length_reverse] at this
        show ys.length ≤ i
        omega
    | ref n =>
      simp only [Rep] at p1
      obtain ⟨a, ea, rfl⟩ := p1
      obtain ⟨xs, hx, q⟩ := q
      obtain ⟨ys, sq, p1⟩ := R1.list ea hx
      refine ⟨a, ys, rfl, .inl ⟨sq, q r1 H1 _ E1 R1 fun r' A' H' E' R' i => ?_⟩⟩
      unfold wkV
      cases hc : lstAt A' n with
      | none => exact ⟨fun v z => (nomatch z), fun z => (nomatch z)⟩
      | some us =>
        obtain ⟨zs, sq', q'⟩ := R'.list (E'.at ea) hc
        have hl := q'.length
        have hl1 := p1.length
        show (∀ v, (if us.length = xs.length then some us.reverse[i]? else none) = some (some v) → _) ∧ ((if us.length = xs.length then some us.reverse[i]? else none) = some none → _)
        by_cases hlen : us.length = xs.length
        · rw [if_pos hlen]
          refine ⟨fun v z => ?_, fun z => ?_⟩
          · have z : us.reverse[i]? = some v := by simpa using z
            have hi : i < ys.length := by
              rcases Nat.lt_or_ge i ys.length with u | u
              · exact u
              · rw [List.getElem?_eq_none (by simp; omega)] at z; cases z
            rw [rv (hlen.trans hl1) hi] at z
            obtain ⟨x, ex, px⟩ := q'.get z
            refine ⟨⟨hi, zs, x, sq', ex⟩, fun y H2 hy => ?_⟩
            obtain ⟨rfl, hy⟩ := hy
            have := (hy zs sq').symm.trans ex
            cases this
            exact ⟨Ext.refl _ _, R', px⟩
          · have z : us.reverse[i]? = none := by simpa using z
            have := List.getElem?_eq_none_iff.mp z
            rw [List.length_reverse] at this
            show ys.length ≤ i
            omega
        · rw [if_neg hlen]
          exact ⟨fun v z => (nomatch z), fun z => (nomatch z)⟩
    | _ => exact q.elim
theorem pair_new {r : List Addr} {A : AH} {H : Hp} {T : Addr} {v w : Val} {x y : V} (R : HRel G.K r A H) (h : H T = none) (p : Rep G.K r H v x) (q : Rep G.K r H w y) :
    Ext r r H (upd H T (.tup [x, y])) ∧ HRel G.K r A (upd H T (.tup [x, y])) ∧ Rep G.K r (upd H T (.tup [x, y])) (.tup [v, w]) (.ref T) := by
  have E := ext_new (r := r) (ho := .tup [x, y]) h
  refine ⟨E, R.newT h, ?_⟩
  simp only [Rep]
  exact ⟨T, [x, y], rfl, upd_same, Reps.cons_iff.mpr ⟨_, _, rfl, Rep.ext R E _ _ p, Reps.cons_iff.mpr ⟨_, _, rfl, Rep.ext R E _ _ q, Reps.nil_iff.mpr rfl⟩⟩⟩
theorem itr_enum {r : List Addr} {A : AH} {H : Hp} {n : Nat} {a : Addr} (R : HRel G.K r A H) (e : r[n]? = some a) : ItR G r H (Ite G.K a) (wkE (wkL n)) := fun r' A' H' E' R' i => by
  have e' := E'.at e
  unfold wkE
  rw [wkL_eq]
  cases h : lstAt A' n with
  | none => exact ⟨fun v z => (nomatch z), fun z => (nomatch z)⟩
  | some xs =>
    obtain ⟨ys, sq, q⟩ := R'.list e' h
    cases hx : xs[i]? with
    | none =>
      simp only [Option.map_some, hx, Option.map_none]
      refine ⟨fun v z => by simp at z, fun z => ⟨ys, sq, ?_⟩⟩
      rw [← q.length]
      exact List.getElem?_eq_none_iff.mp hx
    | some v0 =>
      simp only [Option.map_some, hx]
      refine ⟨fun v z => ?_, fun z => by simp at z⟩
      simp only [Option.some.injEq] at z
      subst z
      obtain ⟨x, ex, px⟩ := q.get hx
      refine ⟨⟨ys, x, sq, ex⟩, fun y H2 hy => ?_⟩
      obtain ⟨T, x', rfl, hT, rfl, hy⟩ := hy
      have := (hy ys sq).symm.trans ex
      cases this
      exact pair_new R' hT (by simp only [Rep]) px
theorem si_enum (hK : X.K = G.K) (hg : Gl X "enumerate") (hm : X.mg "enumerate" = none) (md : MonoA aa) (ha : SA G X [e] aa) (hs : starEach [e] X.env = [(false, eval e X.env)]) : SI G X (.Tuple elts kk tpos) (.Call (.Name "enumerate" p) [e] [] pos) (EV.iEnum aa) := fun W tk =>
  (pi_enum hg hm (ha W tk) hs).wk fun s H Rr ⟨r, A, t, R, S, h⟩ => by
    rw [hK]
    refine ⟨r, A, t, R, S, md _ _ _ _ _ _ (fun v A1 ⟨n, xs, e, l, q⟩ r1 H1 x E1 R1 p1 => ?_) (fun _ _ h => h) h⟩
    subst e
    obtain ⟨x1, rfl, z1⟩ := reps1 p1
    simp only [Rep] at z1
    obtain ⟨a, ea, rfl⟩ := z1
    obtain ⟨ys, sq, z1⟩ := R1.list ea l
    exact ⟨a, ys, rfl, sq, q r1 H1 _ E1 R1 (itr_enum R1 ea)⟩
theorem si_zip (hK : X.K = G.K) (hg : Gl X "zip") (hm : X.mg "zip" = none) (md : MonoA aa) (ha : SA G X [e, e2] aa) (hs : starEach [e, e2] X.env = (false, eval e X.env) :: starEach [e2] X.env) (hpl : (backTo pos (starEach [e2] X.env)).any (·.1) = false) :
    SI G X (.Tuple elts kk tpos) (.Call (.Name "zip" p) [e, e2] [] pos) (EV.iZip aa) := fun W tk =>
  (pi_zipA hg hm (ha W tk) hs hpl).wk fun s H Rr ⟨r, A, t, R, S, h⟩ => by
    rw [hK]
    refine ⟨r, A, t, R, S, md _ _ _ _ _ _ (fun v A1 q r1 H1 x E1 R1 p1 => ?_) (fun _ _ h => h) h⟩
    rcases q with ⟨n, m, xs, ys, e, l, l', q⟩ | ⟨v, w, xs, ys, e, ev, ew, q⟩
    · subst e
      obtain ⟨x1, x2, rfl, z1, z2⟩ := reps2 p1
      simp only [Rep] at z1 z2
      obtain ⟨a, ea, rfl⟩ := z1
      obtain ⟨b, eb, rfl⟩ := z2
      obtain ⟨us, sq, z3⟩ := R1.list ea l
      obtain ⟨ws, sq', z4⟩ := R1.list eb l'
      refine ⟨a, b, us, ws, rfl, .inl ⟨sq, sq', q r1 H1 _ E1 R1 fun r' A' H' E' R' i => ?_⟩⟩
      unfold wkZ
      rw [wkL_eq, wkL_eq]
      cases h1 : lstAt A' n with
      | none => exact ⟨fun v z => by simp at z, fun z => by simp at z⟩
      | some xs1 =>
        cases h2 : lstAt A' m with
        | none => simp only [Option.map_some, Option.map_none]; exact ⟨fun v z => by split at z <;> simp_all, fun z => by split at z <;> simp_all⟩
        | some ys1 =>
          obtain ⟨u1, t1, q1⟩ := R'.list (E'.at ea) h1
          obtain ⟨u2, t2, q2⟩ := R'.list (E'.at eb) h2
          simp only [Option.map_some]
          cases g1 : xs1[i]? with
          | none =>
            refine ⟨fun v z => by simp at z, fun _ => ⟨u1, u2, t1, t2, .inl ?_⟩⟩
            rw [← q1.length]; exact List.getElem?_eq_none_iff.mp g1
          | some v1 =>
            cases g2 : ys1[i]? with
            | none =>
              refine ⟨fun v z => by simp at z, fun _ => ⟨u1, u2, t1, t2, .inr ?_⟩⟩
              rw [← q2.length]; exact List.getElem?_eq_none_iff.mp g2
            | some v2 =>
              refine ⟨fun v z => ?_, fun z => by simp at z⟩
              simp only [Option.some.injEq] at z
              subst z
              obtain ⟨x, ex, px⟩ := q1.get g1
              obtain ⟨y, ey, py⟩ := q2.get g2
              refine ⟨⟨u1, u2, x, y, t1, t2, ex, ey⟩, fun w H2 hw => ?_⟩
              obtain ⟨T, x', y', rfl, hT, rfl, hx, hy⟩ := hw
              have := (hx u1 t1).symm.trans ex
              cases this
              have := (hy u2 t2).symm.trans ey
              cases this
              exact pair_new R' hT px py
    · subst e
      obtain ⟨x1, x2, rfl, z1, z2⟩ := reps2 p1
      obtain ⟨a, us, rfl, sq, z3⟩ := z1.tupS ev
      obtain ⟨b, ws, rfl, sq', z4⟩ := z2.tupS ew
      refine ⟨a, b, us, ws, rfl, .inr ⟨sq, sq', q r1 H1 _ E1 R1 fun r' A' H' E' R' i => ?_⟩⟩
      have t1 := R1.sqT E' sq
      have t2 := R1.sqT E' sq'
      have q1 := Reps.ext R1 E' _ _ z3
      have q2 := Reps.ext R1 E' _ _ z4
      unfold wkZ wkT
      cases g1 : xs[i]? with
      | none =>
        refine ⟨fun v z => by simp at z, fun _ => ⟨us, ws, t1, t2, .inl ?_⟩⟩
        rw [← q1.length]; exact List.getElem?_eq_none_iff.mp g1
      | some v1 =>
        cases g2 : ys[i]? with
        | none =>
          refine ⟨fun v z => by simp at z, fun _ => ⟨us, ws, t1, t2, .inr ?_⟩⟩
          rw [← q2.length]; exact List.getElem?_eq_none_iff.mp g2
        | some v2 =>
          refine ⟨fun v z => ?_, fun z => by simp at z⟩
          simp only [Option.some.injEq] at z
          subst z
          obtain ⟨x, ex, px⟩ := q1.get g1
          obtain ⟨y, ey, py⟩ := q2.get g2
          refine ⟨⟨us, ws, x, y, t1, t2, ex, ey⟩, fun w H2 hw => ?_⟩
          obtain ⟨T, x', y', rfl, hT, rfl, hx, hy⟩ := hw
          have := (hx us t1).symm.trans ex
          cases this
          have := (hy ws t2).symm.trans ey
          cases this
          exact pair_new R' hT px py
end
end EV

namespace EV
open PySem PySem.Spec PyProof.Rows L2 RZ RT

/-! ### list comprehensions -/
inductive Tg where
  | one (i : Nat) | tup (l : List Nat)
def setAll {α : Type} : List Nat → List α → List (Option α) → List (Option α)
  | i :: l, v :: vs, t => setAll l vs (t.set i (some v))
  | _, _, t => t
def bindT : Tg → Val → Lv → Option Lv
  | .one i, v, t => some (t.set i (some v))
  | .tup l, .tup vs, t => if vs.length = l.length then some (setAll l vs t) else none
  | .tup l, .wt vs, t => if vs.length = l.length then some (setAll l vs t) else none
  | _, _, _ => none
def wipeV (t : Lv) : List Nat → Lv
  | [] => t
  | v :: vs => (wipeV t vs).set v none
def dLc (it : DenI) (tg : Tg) (tt : DenT) (e : Den) (vs : List Nat) : Den := fun t A Q E => it t A (fun J A1 => ∃ Wi : Nat → Nat → List Val → AH → Prop, (∃ m, Wi 0 m [] A1) ∧ ∀ i m acc A, Wi i m acc A →
  (J i A = some none ∧ Q (.ref A.length) (A ++ [.lst acc])) ∨ (∃ v t2, J i A = some (some v) ∧ bindT tg v (wipeV t vs) = some t2 ∧ ∃ N : List Val → AH → Prop, (∀ acc' A', N acc' A' → ∃ m', m' < m ∧ Wi (i + 1) m' acc' A') ∧
    tt t2 A (fun b A3 => if b = true then e t2 A3 (fun y A4 => acc.length < sizeLine ∧ N (acc ++ [y]) A4) nox else N acc A3) nox)) E
theorem mono_lc {it : DenI} {tg : Tg} {tt : DenT} {e : Den} {vs : List Nat} (mi : MonoI it) (mt : MonoT tt) (me : Mono e) : Mono (dLc it tg tt e vs) := fun t A Q Q' E E' h k q =>
  mi _ _ _ _ _ _ (fun J A1 ⟨Wi, h0, q⟩ => ⟨Wi, h0, fun i m acc A w => by
    rcases q i m acc A w with ⟨e, q⟩ | q
    · exact .inl ⟨e, h _ _ q⟩
    · exact .inr q⟩) k q
def tYesV : DenT := fun _ A Q _ => Q true A
theorem mono_yes : MonoT tYesV := fun t A Q Q' E E' h k q => h _ _ q

theorem setAll_length {α : Type} : ∀ (l : List Nat) (vs : List α) (t : List (Option α)), (setAll l vs t).length = t.length
  | [], _, t => by unfold setAll; rfl
  | i :: l, [], t => by unfold setAll; rfl
  | i :: l, v :: vs, t => by unfold setAll; rw [setAll_length]; simp
theorem wipe_set {s : L2.St} {i : Nat} {x : Option V} : ∀ {vs : List Nat}, i ∈ vs → wipe (s.set i x) vs = wipe s vs
  | v :: vs, h => by
    unfold wipe
    by_cases hv : i ∈ vs
    · rw [wipe_set hv]
    · have e : i = v := by
        rcases List.mem_cons.mp h with z | z
        · exact z
        · exact absurd z hv
      subst e
      have hh : ∀ {ws : List Nat}, i ∉ ws → wipe (s.set i x) ws = (wipe s ws).set i x := by
        intro ws
        induction ws with
        | nil => intro _; rfl
        | cons w ws ih =>
          intro hn
          simp only [List.mem_cons, not_or] at hn
          unfold wipe
          rw [ih hn.2, List.set_comm _ _ hn.1]
      rw [hh hv, List.set_set]
theorem wipe_wipe {s : L2.St} : ∀ {vs ws : List Nat}, (∀ v ∈ vs, v ∈ ws) → wipe (wipe s vs) ws = wipe s ws
  | [], ws, _ => rfl
  | v :: vs, ws, h => by
    show wipe ((wipe s vs).set v none) ws = _
    rw [wipe_set (h v List.mem_cons_self), wipe_wipe fun u hu => h u (List.mem_cons_of_mem _ hu)]
theorem wipe_setAll {vs : List Nat} : ∀ (l : List Nat) (xs : List V) (s : L2.St), (∀ i ∈ l, i ∈ vs) → wipe (setAll l xs s) vs = wipe s vs
  | [], _, s, _ => by unfold setAll; rfl
  | i :: l, [], s, _ => by unfold setAll; rfl
  | i :: l, x :: xs, s, h => by
    unfold setAll
    rw [wipe_setAll l xs _ fun j hj => h j (List.mem_cons_of_mem _ hj), wipe_set (h i List.mem_cons_self)]
section
variable {K : PySem.W.Frag} {r : List Addr} {H : Hp}
theorem SRel.wipe {t : Lv} {s : L2.St} (S : SRel K r H t s) : ∀ vs : List Nat, SRel K r H (wipeV t vs) (L2.wipe s vs)
  | [] => S
  | v :: vs => by
    have S' := SRel.wipe S vs
    refine ⟨by unfold wipeV L2.wipe; simp [S'.len], fun i w e => ?_⟩
    unfold wipeV at e
    unfold L2.wipe
    by_cases hi : v = i
    · subst hi
      by_cases hl : v < (wipeV t vs).length
      · rw [List.getElem?_set_self hl] at e; cases e
      · rw [List.getElem?_eq_none (by simp; omega)] at e; cases e
    · rw [List.getElem?_set_ne hi] at e ⊢
      exact S'.at' i w e
theorem SRel.setAll : ∀ {l : List Nat} {vs : List Val} {xs : List V} {t : Lv} {s : L2.St}, SRel K r H t s → Reps K r H vs xs → SRel K r H (EV.setAll l vs t) (EV.setAll l xs s)
  | [], _, _, _, _, S, _ => by unfold EV.setAll; exact S
  | i :: l, [], _, _, _, S, p => by rw [Reps.nil_iff] at p; subst p; unfold EV.setAll; exact S
  | i :: l, v :: vs, _, _, _, S, p => by
    obtain ⟨y, ys, rfl, p1, p2⟩ := Reps.cons_iff.mp p
    unfold EV.setAll
    exact SRel.setAll (S.set i p1) p2
mutual
theorem Rep.grow {l : List Addr} : ∀ (v : Val) (x : V), Rep K r H v x → Rep K (r ++ l) H v x
  | .non, _, h => by simpa only [Rep] using h
  | .bl _, _, h => by simpa only [Rep] using h
  | .int _, _, h => by simpa only [Rep] using h
  | .str _, _, h => by simpa only [Rep] using h
  | .tup vs, _, h => by
    simp only [Rep] at h ⊢
    obtain ⟨a, xs, e, s, q⟩ := h
    exact ⟨a, xs, e, s, Reps.grow vs xs q⟩
  | .wt vs, _, h => by
    simp only [Rep] at h ⊢
    obtain ⟨a, xs, e, s, q⟩ := h
    exact ⟨a, xs, e, s, Reps.grow vs xs q⟩
  | .ref n, _, h => by
    simp only [Rep] at h ⊢
    obtain ⟨a, e, q⟩ := h
    refine ⟨a, ?_, q⟩
    have hl : n < r.length := by
      rcases Nat.lt_or_ge n r.length with q | q
      · exact q
      · rw [List.getElem?_eq_none q] at e; cases e
    rw [List.getElem?_append_left hl]; exact e
  | .ty _, _, h => by simpa only [Rep] using h
  | .wl vs, _, h => by
    simp only [Rep] at h ⊢
    obtain ⟨a, xs, e, s, q⟩ := h
    exact ⟨a, xs, e, s, Reps.grow vs xs q⟩
theorem Reps.grow {l : List Addr} : ∀ (vs : List Val) (xs : List V), Reps K r H vs xs → Reps K (r ++ l) H vs xs
  | [], _, h => by simpa only [Reps] using h
  | v :: vs, _, h => by
    simp only [Reps] at h ⊢
    obtain ⟨y, ys, e, q1, q2⟩ := h
    exact ⟨y, ys, e, Rep.grow v y q1, Reps.grow vs ys q2⟩
end
theorem OR.grow {l : List Addr} {a : Addr} {o : Ob} (h : OR K r H a o) : OR K (r ++ l) H a o := by
  cases o with
  | lst vs => obtain ⟨xs, e, q⟩ := h; exact ⟨xs, e, Reps.grow _ _ q⟩
  | dk vs => obtain ⟨xs, e, q⟩ := h; exact ⟨xs, e, q.1, Reps.grow _ _ q.2⟩
  | dt vs => obtain ⟨xs, e, q⟩ := h; exact ⟨xs, e, q.1, Reps.grow _ _ q.2⟩
/-- a list beside the plain heap joins it -/
theorem HRel.join {A : AH} {D : Addr} {vs : List Val} {xs : List V} (R : HRel K r A H) (hn : D ∉ r) (hD : H D = some (.lst xs)) (p : Reps K r H vs xs) : HRel K (r ++ [D]) (A ++ [.lst vs]) H := by
  refine ⟨by simp [R.len], ?_, fun n b u e1 e2 => ?_⟩
  · rw [List.nodup_append]
    exact ⟨R.nd, by simp, fun x hx y hy e => by rw [List.mem_singleton] at hy; subst hy; subst e; exact hn hx⟩
  · by_cases hl : n < r.length
    · rw [List.getElem?_append_left hl] at e1
      rw [List.getElem?_append_left (by rw [R.len]; exact hl)] at e2
      exact (R.ob n b u e1 e2).grow
    · have hn' : n = r.length := by
        rcases Nat.lt_or_ge r.length n with z | z
        · rw [List.getElem?_eq_none (by simp; omega)] at e1; cases e1
        · omega
      subst hn'
      rw [List.getElem?_append_right (Nat.le_refl _)] at e1
      rw [List.getElem?_append_right (by rw [R.len]; exact Nat.le_refl _)] at e2
      simp at e1
      simp [R.len] at e2
      subst e1; subst e2
      exact ⟨xs, hD, Reps.grow _ _ p⟩
/-- a list beside the plain heap is written -/
theorem side_sqT {D a : Addr} {zs : List V} {ho : HO} {xs : List V} (hD : H D = some (.lst zs)) (h : SqT K H a xs) : SqT K (upd H D ho) a xs := by
  have ne : ∀ {u : HO}, H a = some u → (∀ ys, u ≠ .lst ys) → a ≠ D := fun e n z => by rw [z, hD] at e; cases e; exact n _ rfl
  rcases h with (h | ⟨o, h⟩) | h
  · exact .inl (.inl (by rw [upd_ne (ne h fun _ z => nomatch z)]; exact h))
  · exact .inl (.inr ⟨o, by rw [upd_ne (ne h fun _ z => nomatch z)]; exact h⟩)
  · exact .inr h
mutual
theorem Rep.side {D : Addr} {zs : List V} {ho : HO} (hD : H D = some (.lst zs)) : ∀ (v : Val) (x : V), Rep K r H v x → Rep K r (upd H D ho) v x
  | .non, _, h => by simpa only [Rep] using h
  | .bl _, _, h => by simpa only [Rep] using h
  | .int _, _, h => by simpa only [Rep] using h
  | .str _, _, h => by simpa only [Rep] using h
  | .tup vs, _, h => by
    simp only [Rep] at h ⊢
    obtain ⟨a, xs, e, s, q⟩ := h
    exact ⟨a, xs, e, by rw [upd_ne (ne_of s hD (fun z => nomatch z))]; exact s, Reps.side hD vs xs q⟩
  | .wt vs, _, h => by
    simp only [Rep] at h ⊢
    obtain ⟨a, xs, e, s, q⟩ := h
    exact ⟨a, xs, e, s, Reps.side hD vs xs q⟩
  | .ref n, _, h => by simpa only [Rep] using h
  | .ty _, _, h => by simpa only [Rep] using h
  | .wl vs, _, h => by
    simp only [Rep] at h ⊢
    obtain ⟨a, xs, e, s, q⟩ := h
    refine ⟨a, xs, e, ?_, Reps.side hD vs xs q⟩
    rcases s with ⟨o, s⟩ | s
    · exact .inl ⟨o, by rw [upd_ne (ne_of s hD (fun z => nomatch z))]; exact s⟩
    · exact .inr s
theorem Reps.side {D : Addr} {zs : List V} {ho : HO} (hD : H D = some (.lst zs)) : ∀ (vs : List Val) (xs : List V), Reps K r H vs xs → Reps K r (upd H D ho) vs xs
  | [], _, h => by simpa only [Reps] using h
  | v :: vs, _, h => by
    simp only [Reps] at h ⊢
    obtain ⟨y, ys, e, q1, q2⟩ := h
    exact ⟨y, ys, e, Rep.side hD v y q1, Reps.side hD vs ys q2⟩
end
theorem HRel.side {A : AH} {D : Addr} {zs : List V} {ho : HO} (R : HRel K r A H) (hn : D ∉ r) (hD : H D = some (.lst zs)) : HRel K r A (upd H D ho) := by
  refine ⟨R.len, R.nd, fun n b u e1 e2 => ?_⟩
  have hb : b ≠ D := fun z => hn (z ▸ List.mem_of_getElem? e1)
  have q := R.ob n b u e1 e2
  cases u with
  | lst vs => obtain ⟨xs, e, q⟩ := q; exact ⟨xs, (upd_ne hb).trans e, Reps.side hD _ _ q⟩
  | dk vs => obtain ⟨xs, e, q⟩ := q; exact ⟨xs, (upd_ne hb).trans e, q.1, Reps.side hD _ _ q.2⟩
  | dt vs => obtain ⟨xs, e, q⟩ := q; exact ⟨xs, (upd_ne hb).trans e, q.1, Reps.side hD _ _ q.2⟩
end
/-- the concrete target of a comprehension -/
def gsOf : List Nat → TGs
  | [] => gNil
  | i :: l => gCons (L2.gName i) (gsOf l)
def gOf (K : PySem.W.Frag) : Tg → TG
  | .one i => L2.gName i
  | .tup l => L2.gTup K l.length (gsOf l)
def Tg.slots : Tg → List Nat
  | .one i => [i]
  | .tup l => l
theorem gsOf_run : ∀ (l : List Nat) (xs : List V) (s : L2.St) (H : Hp) (Q : L2.St → Hp → Prop), xs.length = l.length → Q (setAll l xs s) H → gsOf l xs s H Q
  | [], [], s, H, Q, _, q => ⟨rfl, by unfold setAll at q; exact q⟩
  | i :: l, x :: xs, s, H, Q, h, q => ⟨x, xs, rfl, gsOf_run l xs _ H Q (by simpa using h) (by unfold setAll at q; exact q)⟩
  | [], _ :: _, _, _, _, h, _ => by simp at h
  | _ :: _, [], _, _, _, h, _ => by simp at h
theorem gOf_run {K : PySem.W.Frag} {r : List Addr} {H : Hp} {tg : Tg} {v : Val} {x : V} {t t2 : Lv} {s : L2.St} {vs : List Nat} {Q : L2.St → Hp → Prop} (hs : ∀ i ∈ tg.slots, i ∈ vs) (p : Rep K r H v x) (S : SRel K r H t s) (hb : bindT tg v t = some t2)
    (q : ∀ s2, SRel K r H t2 s2 → wipe s2 vs = wipe s vs → Q s2 H) : gOf K tg x s H Q := by
  cases tg with
  | one i =>
    simp only [bindT, Option.some.injEq] at hb
    subst hb
    exact q _ (S.set i p) (wipe_set (hs i (by simp [Tg.slots])))
  | tup l =>
    cases v with
    | tup ws =>
      simp only [bindT] at hb
      split at hb
      · rename_i hl
        simp only [Option.some.injEq] at hb
        subst hb
        obtain ⟨a, xs, rfl, sq, p⟩ := p.tupS (.inl rfl)
        exact ⟨a, xs, rfl, sq, by rw [← p.length, hl], gsOf_run l xs s H Q (by rw [← p.length, hl]) (q _ (S.setAll p) (wipe_setAll l xs s hs))⟩
      · cases hb
    | wt ws =>
      simp only [bindT] at hb
      split at hb
      · rename_i hl
        simp only [Option.some.injEq] at hb
        subst hb
        obtain ⟨a, xs, rfl, sq, p⟩ := p.tupS (.inr rfl)
        exact ⟨a, xs, rfl, sq, by rw [← p.length, hl], gsOf_run l xs s H Q (by rw [← p.length, hl]) (q _ (S.setAll p) (wipe_setAll l xs s hs))⟩
      · cases hb
    | _ => simp [bindT] at hb
section
variable {G : Gc} {X : Cx} {W : WX} {elt tgt iter : Expr} {ifs : List Expr} {it : DenI} {tt : DenT} {d : Den} {tg : Tg} {pos : Pos}
def STs (G : Gc) (X : Cx) (ifs : List Expr) (d : DenT) : Prop := ∀ W, Takes X W → PTs X ifs (TTW G W d)
theorem _root_.L2.PTs.wk {X : Cx} {e : List Expr} {t t' : TT} (h : PTs X e t) (w : ∀ s H Q, t' s H Q → t s H Q) : PTs X e t' := ⟨fun pins s σ H Q I q => h.run pins s σ H Q I (w _ _ _ q)⟩
theorem sts_nil : STs G X [] tYesV := fun W tk => pts_nil.wk fun s H Q ⟨r, A, t, R, S, h⟩ => h r H (Ext.refl r H) R
theorem sts_one {c : Expr} (h : ST G X c tt) : STs G X [c] tt := fun W tk => pts_one (h W tk)
theorem lc_red (mi : MonoI it) (mt : MonoT tt) (me : Mono d) {vs : List Nat} (hsl : ∀ i ∈ tg.slots, i ∈ vs) {s : L2.St} {H : Hp} {Q : VK} (h : TEW G W (dLc it tg tt d vs) s H Q) :
    tLc (TIW G W it) (gOf G.K tg) (TTW G (fun _ _ _ _ => False) tt) (TEW G (fun _ _ _ _ => False) d) vs s H Q := by
  obtain ⟨r, A, t, R, S, h⟩ := h
  refine ⟨r, A, t, R, S, mi _ _ _ _ _ _ (fun k A1 ⟨Wi, ⟨m0, w0⟩, q⟩ r1 H1 J E1 R1 IJ => ?_) (fun e A1 q => q) h⟩
  intro D hD
  have hDr := R1.fresh hD
  refine ⟨fun i m H' => ∃ r' A' acc xs, Ext r1 r' H1 H' ∧ HRel G.K r' A' H' ∧ D ∉ r' ∧ H' D = some (.lst xs) ∧ Reps G.K r' H' acc xs ∧ Wi i m acc A', ⟨m0, r1, A1, [], [], ext_new hD, R1.newT hD, hDr, upd_same, Reps.nil_iff.mpr rfl, w0⟩, fun i m H2 ⟨r2, A2, acc, xs, E2, R2, n2, hD2, p2, w2⟩ => ?_⟩
  obtain ⟨j1, j2⟩ := IJ r2 A2 H2 E2 R2 i
  have E12 := E1.trans E2
  rcases q i m acc A2 w2 with ⟨e, q⟩ | ⟨v, t2, e, hb, N, hN, q⟩
  · refine .inl ⟨j2 e, q (r2 ++ [D]) H2 (.ref D) ⟨?_, E12.keep, fun b hb n => ?_⟩ (R2.join n2 hD2 p2) ?_⟩
    · obtain ⟨l, el⟩ := E12.pre
      exact ⟨l ++ [D], by rw [el, List.append_assoc]⟩
    · rcases List.mem_append.mp hb with z | z
      · exact E12.new b z n
      · rw [List.mem_singleton] at z
        subst z
        cases e : H b with
        | none => rfl
        | some o => rw [E1.keep b o e n] at hD; cases hD
    · simp only [Rep]
      exact ⟨D, by rw [R2.len, List.getElem?_append_right (Nat.le_refl _)]; simp, rfl⟩
  · obtain ⟨go, yl⟩ := j1 v e
    refine .inr ⟨go, fun H' => ∃ r' A' acc xs, Ext r1 r' H1 H' ∧ HRel G.K r' A' H' ∧ D ∉ r' ∧ H' D = some (.lst xs) ∧ Reps G.K r' H' acc xs ∧ N acc A', fun H' ⟨r', A', acc', xs', E', R', n', hD', p', w'⟩ => ?_, fun x H3 y => ?_⟩
    · obtain ⟨m', hm, w'⟩ := hN acc' A' w'
      exact ⟨m', hm, r', A', acc', xs', E', R', n', hD', p', w'⟩
    · obtain ⟨E3, R3, p3⟩ := yl x H3 y
      have S3 : SRel G.K r2 H3 (wipeV t vs) (wipe s vs) := ((S.ext R (E12.trans E3)).wipe vs)
      refine gOf_run hsl p3 S3 hb fun s2 S2 ws2 => ⟨ws2.trans (wipe_wipe fun _ h => h), ?_⟩
      have keepD : ∀ {ra rb : List Addr} {Ha Hb : Hp} {zs : List V}, Ext ra rb Ha Hb → D ∉ ra → Ha D = some (.lst zs) → D ∉ rb ∧ Hb D = some (.lst zs) := fun {ra rb Ha Hb zs} E n hh => by
        refine ⟨fun hm => ?_, E.keep D _ hh n⟩
        have := E.new D hm n
        rw [this] at hh; cases hh
      obtain ⟨n3, hD3⟩ := keepD E3 n2 hD2
      have pa3 := Reps.ext R2 E3 _ _ p2
      refine ⟨r2, A2, t2, R3, S2, mt _ _ _ _ _ _ (fun b A4 q r4 H4 E4 R4 => ?_) (fun e A z => z.elim) q⟩
      obtain ⟨n4, hD4⟩ := keepD E4 n3 hD3
      have pa4 := Reps.ext R3 E4 _ _ pa3
      cases b with
      | true =>
        rw [if_pos rfl] at q ⊢
        refine ⟨r4, A4, t2, R4, S2.ext R3 E4, me _ _ _ _ _ _ (fun yv A5 ⟨hlen, q⟩ r5 H5 y5 E5 R5 p5 => ?_) (fun e A z => z.elim) q⟩
        obtain ⟨n5, hD5⟩ := keepD E5 n4 hD4
        have pa5 := Reps.ext R4 E5 _ _ pa4
        have Eall : Ext r1 r5 H1 H5 := E2.trans (E3.trans (E4.trans E5))
        refine ⟨xs, hD5, by rw [← pa5.length]; exact hlen, r5, A5, acc ++ [yv], xs ++ [y5], ⟨Eall.pre, fun b o hb nb => ?_, Eall.new⟩, R5.side n5 hD5, n5, upd_same, ?_, q⟩
        · rw [upd_ne (ne_of_none hb hD)]
          exact Eall.keep b o hb nb
        · exact Reps.append (Reps.side hD5 _ _ pa5) (Reps.cons_iff.mpr ⟨_, _, rfl, Rep.side hD5 _ _ p5, Reps.nil_iff.mpr rfl⟩)
      | false =>
        rw [if_neg Bool.false_ne_true] at q ⊢
        exact ⟨r4, A4, acc, xs, E2.trans (E3.trans E4), R4, n4, hD4, pa4, q⟩
theorem se_lc {scope : Scope} {own : List (Str × Nat)} (hK : X.K = G.K) (hc : X.calm = true) (hN : X.N.Nodup) (mi : MonoI it) (mt : MonoT tt) (me : Mono d) (hi : SI G X tgt iter it) (ok : BlkOk X.N X.env.scope scope own) (hsl : ∀ i ∈ tg.slots, i ∈ own.map (·.2))
    (hg : ∀ (s : Shared) (H : Hp) (C : Addr) (cl : List (Str × Addr)) (fp : List Addr), PG (X.blk s H scope (compEnvC scope cl C X.env) fp) tgt (gOf G.K tg)) (ht : ∀ (s : Shared) (H : Hp) (C : Addr) (cl : List (Str × Addr)) (fp : List Addr), STs G (X.blk s H scope (compEnvC scope cl C X.env) fp) ifs tt)
    (he : ∀ (s : Shared) (H : Hp) (C : Addr) (cl : List (Str × Addr)) (fp : List Addr), SE G (X.blk s H scope (compEnvC scope cl C X.env) fp) elt d) (hs : ∀ x, foldedSetIterable iter X.env x = pure x) :
    SE G X (.ListComp elt [⟨tgt, iter, ifs, 0⟩] scope pos) (dLc it tg tt d (own.map (·.2))) := fun W tk =>
  (pe_lc hc hN (hi W tk) ok hg (fun s H C cl fp => ht s H C cl fp _ takes0) (fun s H C cl fp => he s H C cl fp _ takes0) hs).wk fun s H Q h => lc_red mi mt me hsl h
theorem ss_setLc {scope : Scope} {own : List (Str × Nat)} {i : Nat} {y : Str} {py spos : Pos} (hK : X.K = G.K) (hc : X.calm = true) (hN : X.N.Nodup) (hy : X.N[i]? = some y) (hyl : X.env.scope.names.lookup y = some .local)
    (hsw : swapsWith (.ListComp elt [⟨tgt, iter, ifs, 0⟩] scope pos) (some (.Name y py)) spos.line X.env = pure true) (mi : MonoI it) (mt : MonoT tt) (me : Mono d) (hi : SI G X tgt iter it) (ok : BlkOk X.N X.env.scope scope own) (hsl : ∀ i ∈ tg.slots, i ∈ own.map (·.2))
    (hg : ∀ (s : Shared) (H : Hp) (C : Addr) (cl : List (Str × Addr)) (fp : List Addr), PG (X.blk s H scope (compEnvC scope cl C X.env) fp) tgt (gOf G.K tg)) (ht : ∀ (s : Shared) (H : Hp) (C : Addr) (cl : List (Str × Addr)) (fp : List Addr), STs G (X.blk s H scope (compEnvC scope cl C X.env) fp) ifs tt)
    (he : ∀ (s : Shared) (H : Hp) (C : Addr) (cl : List (Str × Addr)) (fp : List Addr), SE G (X.blk s H scope (compEnvC scope cl C X.env) fp) elt d) (hs : ∀ x, foldedSetIterable iter X.env x = pure x) :
    SS G X (.Assign [.Name y py] (.ListComp elt [⟨tgt, iter, ifs, 0⟩] scope pos) spos) (sAsg (dLc it tg tt d (own.map (·.2))) (EV.gName i)) := fun W tk =>
  (ps_setLc hc hN hy hyl hsw (hi W tk) ok hg (fun s H C cl fp => ht s H C cl fp _ takes0) (fun s H C cl fp => he s H C cl fp _ takes0) hs).wk fun D s H ⟨r, A, t, R, S, h⟩ => by
    refine lc_red (W := W) (Q := fun x H1 => L2.gName i x s H1 D.nx) mi mt me hsl ⟨r, A, t, R, S, mono_lc mi mt me _ _ _ _ _ _ (fun v A1 q r1 H1 x E1 R1 p1 => ?_) (fun e A1 q => ex_of R S q) h⟩
    exact q r1 H1 _ E1 R1 ((S.ext R E1).set i p1)
end
end EV

namespace EV
open PySem PySem.Spec PyProof.Rows L2 RZ RT

section
variable {G : Gc} {r : List Addr} {A : AH} {H : Hp} {Q : VK}
theorem kv_here {v : Val} {x : V} (R : HRel G.K r A H) (p : Rep G.K r H v x) (q : kv G r H Q v A) : Q x H := q r H x (Ext.refl r H) R p
theorem kv_int {i : Int} (R : HRel G.K r A H) (q : kv G r H Q (.int i) A) : Q (.int i) H := kv_here R (by simp only [Rep]) q
theorem kv_bl {b : Bool} (R : HRel G.K r A H) (q : kv G r H Q (.bl b) A) : Q (.bl b) H := kv_here R (by simp only [Rep]) q
theorem kv_str {b : Str} (R : HRel G.K r A H) (q : kv G r H Q (.str b) A) : Q (.str b) H := kv_here R (by simp only [Rep]) q
theorem kv_lst {vs : List Val} {xs : List V} (R : HRel G.K r A H) (p : Reps G.K r H vs xs) (q : kv G r H Q (.ref A.length) (A ++ [.lst vs])) : ∀ a, H a = none → Q (.ref a) (upd H a (.lst xs)) := fun a h => by
  have E := ext_alloc (ho := .lst xs) h (R.fresh h)
  refine q (r ++ [a]) _ _ E (R.alloc h ⟨xs, upd_same, Reps.ext R E _ _ p⟩) ?_
  simp only [Rep]
  exact ⟨a, by rw [R.len, List.getElem?_append_right (Nat.le_refl _)]; simp, rfl⟩
theorem kv_tup {vs : List Val} {xs : List V} (R : HRel G.K r A H) (p : Reps G.K r H vs xs) (q : kv G r H Q (.tup vs) A) : ∀ a, H a = none → Q (.ref a) (upd H a (.tup xs)) := fun a h => by
  have E := ext_new (r := r) (ho := .tup xs) h
  refine q r _ _ E (R.newT h) ?_
  simp only [Rep]
  exact ⟨a, xs, rfl, upd_same, Reps.ext R E _ _ p⟩
theorem kv_set {n : Nat} {a : Addr} {v : Val} {x : V} {o : Ob} {ho : HO} (R : HRel G.K r A H) (e : r[n]? = some a) (ox : ∀ K' : HRel G.K r A H, OR G.K r (upd H a ho) a o) (p : Rep G.K r (upd H a ho) v x) (q : kv G r H Q v (A.set n o)) : Q x (upd H a ho) :=
  q r _ x (ext_write (List.mem_of_getElem? e)) (R.write e (ox R)) p
theorem wr_reps {n : Nat} {a : Addr} {ho : HO} {vs : List Val} {xs : List V} (R : HRel G.K r A H) (e : r[n]? = some a) (p : Reps G.K r H vs xs) : Reps G.K r (upd H a ho) vs xs := Reps.ext R (ext_write (List.mem_of_getElem? e)) _ _ p
theorem wr_rep {n : Nat} {a : Addr} {ho : HO} {v : Val} {x : V} (R : HRel G.K r A H) (e : r[n]? = some a) (p : Rep G.K r H v x) : Rep G.K r (upd H a ho) v x := Rep.ext R (ext_write (List.mem_of_getElem? e)) _ _ p
theorem lst_at {n : Nat} {a : Addr} {vs : List Val} (R : HRel G.K r A H) (e : r[n]? = some a) (h : A[n]? = some (.lst vs)) : ∃ xs, H a = some (.lst xs) ∧ Reps G.K r H vs xs := R.ob n a _ e h
theorem rep_int {i : Int} {x : V} (p : Rep G.K r H (.int i) x) : x = .int i := by simpa only [Rep] using p
theorem rep_bl {i : Bool} {x : V} (p : Rep G.K r H (.bl i) x) : x = .bl i := by simpa only [Rep] using p
theorem rep_str {i : Str} {x : V} (p : Rep G.K r H (.str i) x) : x = .str i := by simpa only [Rep] using p
theorem rep_non {x : V} (p : Rep G.K r H .non x) : x = .non := by simpa only [Rep] using p
theorem rep_ref {n : Nat} {x : V} (p : Rep G.K r H (.ref n) x) : ∃ a, r[n]? = some a ∧ x = .ref a := by simpa only [Rep] using p
theorem rep_tup {vs : List Val} {x : V} (p : Rep G.K r H (.tup vs) x) : ∃ a xs, x = .ref a ∧ H a = some (.tup xs) ∧ Reps G.K r H vs xs := by simpa only [Rep] using p
end

/-! ### arithmetic -/
def oAdd : Op2 := fun x y A Q => match x, y with
  | .int i, .int j => Q (.int (i + j)) A
  | .str a, .str b => a.length + b.length ≤ sizeLine ∧ Q (.str (a ++ b)) A
  | .tup xs, .tup ys => xs.length + ys.length ≤ sizeLine ∧ Q (.tup (xs ++ ys)) A
  | .ref n, .ref m => ∃ xs ys, A[n]? = some (.lst xs) ∧ A[m]? = some (.lst ys) ∧ xs.length + ys.length ≤ sizeLine ∧ Q (.ref A.length) (A ++ [.lst (xs ++ ys)])
  | _, _ => False
def oInt (f : Int → Int → Int) : Op2 := fun x y A Q => match x, y with
  | .int i, .int j => Q (.int (f i j)) A
  | _, _ => False
def oIntC (C : Int → Int → Prop) (f : Int → Int → Int) : Op2 := fun x y A Q => match x, y with
  | .int i, .int j => C i j ∧ Q (.int (f i j)) A
  | _, _ => False
def oMul : Op2 := fun x y A Q => match x, y with
  | .int i, .int j => CMul i j ∧ Q (.int (i * j)) A
  | .ref n, .int k => ∃ xs, A[n]? = some (.lst xs) ∧ -(2 ^ 63) ≤ k ∧ k < 2 ^ 63 ∧ xs.length * k.toNat ≤ sizeLine ∧ Q (.ref A.length) (A ++ [.lst (List.replicate k.toNat xs).flatten])
  | _, _ => False
section
variable {G : Gc}
theorem Reps.rep {r : List Addr} {H : Hp} {vs : List Val} {xs : List V} (p : Reps G.K r H vs xs) : ∀ k : Nat, Reps G.K r H (List.replicate k vs).flatten (List.replicate k xs).flatten
  | 0 => by simp [Reps]
  | k + 1 => by
    rw [List.replicate_succ, List.replicate_succ, List.flatten_cons, List.flatten_cons]
    exact Reps.append p (Reps.rep p k)
theorem addS (K : PySem.W.Frag) (hK : K = G.K) : OpS G oAdd (fun x y H Q => rI0 (fun i j => .int (i + j)) x y H Q ∨ (∃ i j, x = .str i ∧ y = .str j ∧ i.length + j.length ≤ sizeLine ∧ Q (.str (i ++ j)) H) ∨ rCatA K x y H Q ∨ rCat x y H Q) := by
  subst hK
  refine ⟨fun x y A Q Q' h q => ?_, fun r A H v w x y Q R p1 p2 q => ?_⟩
  · unfold oAdd at q ⊢
    split at q
    · exact h _ _ q
    · exact ⟨q.1, h _ _ q.2⟩
    · exact ⟨q.1, h _ _ q.2⟩
    · obtain ⟨xs, ys, e1, e2, l, q⟩ := q
      exact ⟨xs, ys, e1, e2, l, h _ _ q⟩
    · exact q
  · unfold oAdd at q
    split at q
    · rw [rep_int p1, rep_int p2]
      exact .inl ⟨_, _, rfl, rfl, kv_int R q⟩
    · rw [rep_str p1, rep_str p2]
      exact .inr (.inl ⟨_, _, rfl, rfl, q.1, kv_str R q.2⟩)
    · obtain ⟨a, xs, rfl, e1, q1⟩ := rep_tup p1
      obtain ⟨b, ys, rfl, e2, q2⟩ := rep_tup p2
      obtain ⟨l, q⟩ := q
      rename_i vs ws
      have h1 := q1.length
      have h2 := q2.length
      refine .inr (.inr (.inl ⟨a, b, xs, ys, rfl, rfl, SqT.of e1, SqT.of e2, by omega, fun z => ?_, fun _ z => ?_, fun _ _ => kv_tup R (Reps.append q1 q2) q⟩))
      · subst z
        have : vs = [] := List.length_eq_zero_iff.mp h1
        subst this
        exact kv_here R p2 q
      · subst z
        have : ws = [] := List.length_eq_zero_iff.mp h2
        subst this
        rw [List.append_nil] at q
        exact kv_here R p1 q
    · obtain ⟨a, ea, rfl⟩ := rep_ref p1
      obtain ⟨b, eb, rfl⟩ := rep_ref p2
      obtain ⟨xs, ys, l1, l2, l, q⟩ := q
      obtain ⟨us, e1, q1⟩ := lst_at R ea l1
      obtain ⟨ws, e2, q2⟩ := lst_at R eb l2
      refine .inr (.inr (.inr ⟨a, b, us, ws, rfl, rfl, e1, e2, by rw [← q1.length, ← q2.length]; exact l, kv_lst R (Reps.append q1 q2) q⟩))
    · exact q.elim
theorem intS (f : Int → Int → Int) : OpS G (oInt f) (rI0 fun i j => .int (f i j)) := by
  refine ⟨fun x y A Q Q' h q => ?_, fun r A H v w x y Q R p1 p2 q => ?_⟩
  · unfold oInt at q ⊢
    split at q
    · exact h _ _ q
    · exact q
  · unfold oInt at q
    split at q
    · rw [rep_int p1, rep_int p2]
      exact ⟨_, _, rfl, rfl, kv_int R q⟩
    · exact q.elim
theorem intCS (C : Int → Int → Prop) (f : Int → Int → Int) : OpS G (oIntC C f) (rI C fun i j => .int (f i j)) := by
  refine ⟨fun x y A Q Q' h q => ?_, fun r A H v w x y Q R p1 p2 q => ?_⟩
  · unfold oIntC at q ⊢
    split at q
    · exact ⟨q.1, h _ _ q.2⟩
    · exact q
  · unfold oIntC at q
    split at q
    · rw [rep_int p1, rep_int p2]
      exact ⟨_, _, rfl, rfl, q.1, kv_int R q.2⟩
    · exact q.elim
theorem mulS : OpS G oMul (fun x y H Q => rI CMul (fun i j => .int (i * j)) x y H Q ∨ rRep x y H Q) := by
  refine ⟨fun x y A Q Q' h q => ?_, fun r A H v w x y Q R p1 p2 q => ?_⟩
  · unfold oMul at q ⊢
    split at q
    · exact ⟨q.1, h _ _ q.2⟩
    · obtain ⟨xs, e, a, b, l, q⟩ := q
      exact ⟨xs, e, a, b, l, h _ _ q⟩
    · exact q
  · unfold oMul at q
    split at q
    · rw [rep_int p1, rep_int p2]
      exact .inl ⟨_, _, rfl, rfl, q.1, kv_int R q.2⟩
    · obtain ⟨a, ea, rfl⟩ := rep_ref p1
      rw [rep_int p2]
      obtain ⟨xs, l1, h1, h2, l, q⟩ := q
      obtain ⟨us, e1, q1⟩ := lst_at R ea l1
      exact .inr ⟨a, _, us, rfl, rfl, e1, h1, h2, by rw [← q1.length]; exact l, kv_lst R (Reps.rep q1 _) q⟩
    · exact q.elim
end

/-! ### data, equality -/
mutual
def eqV : Val → Val → Bool
  | .non, .non => true
  | .bl a, .bl b => a == b
  | .bl a, .int j => (if a then 1 else 0) == j
  | .int i, .bl b => i == (if b then 1 else 0)
  | .int i, .int j => i == j
  | .str x, .str y => x == y
  | .tup xs, .tup ys => eqVs xs ys
  | _, _ => false
def eqVs : List Val → List Val → Bool
  | [], [] => true
  | x :: xs, y :: ys => eqV x y && eqVs xs ys
  | _, _ => false
end
mutual
def toD : Val → PyData
  | .non => .none
  | .bl b => .bool b
  | .int i => .int i
  | .str x => .str x
  | .tup xs => .tuple (toDs xs)
  | _ => .none
def toDs : List Val → List PyData
  | [] => []
  | x :: xs => toD x :: toDs xs
end
mutual
/-- plain data: no reference, nested less than n deep, its texts not too long -/
def okV : Nat → Val → Bool
  | _, .non => true
  | _, .bl _ => true
  | _, .int _ => true
  | _, .str x => PyData.strOk x
  | 0, .tup _ => false
  | n + 1, .tup xs => okVs n xs
  | _, _ => false
def okVs : Nat → List Val → Bool
  | _, [] => true
  | n, x :: xs => okV n x && okVs n xs
end
mutual
theorem eqv_toD : ∀ (n : Nat) (v w : Val), okV n v = true → okV n w = true → PyData.eqv (toD v) (toD w) = eqV v w
  | n, .non, w, _, h => by cases w <;> simp_all [toD, PyData.eqv, eqV, okV]
  | n, .bl _, w, _, h => by cases w <;> simp_all [toD, PyData.eqv, eqV, okV]
  | n, .int _, w, _, h => by cases w <;> simp_all [toD, PyData.eqv, eqV, okV]
  | n, .str _, w, _, h => by cases w <;> simp_all [toD, PyData.eqv, eqV, okV]
  | n, .wt _, w, h, _ => by simp [okV] at h
  | n, .ref _, w, h, _ => by simp [okV] at h
  | n, .ty _, w, h, _ => by simp [okV] at h
  | n, .wl _, w, h, _ => by simp [okV] at h
  | 0, .tup xs, w, h, _ => by simp [okV] at h
  | n + 1, .tup xs, .tup ys, h, h' => by
    simp only [okV] at h h'
    simp only [toD, PyData.eqv, eqV]
    exact eqvs_toD n xs ys h h'
  | n + 1, .tup xs, .non, h, h' => by simp [toD, PyData.eqv, eqV]
  | n + 1, .tup xs, .bl _, h, h' => by simp [toD, PyData.eqv, eqV]
  | n + 1, .tup xs, .int _, h, h' => by simp [toD, PyData.eqv, eqV]
  | n + 1, .tup xs, .str _, h, h' => by simp [toD, PyData.eqv, eqV]
  | n + 1, .tup xs, .wt _, h, h' => by simp [okV] at h'
  | n + 1, .tup xs, .ref _, h, h' => by simp [okV] at h'
  | n + 1, .tup xs, .ty _, h, h' => by simp [okV] at h'
  | n + 1, .tup xs, .wl _, h, h' => by simp [okV] at h'
theorem eqvs_toD : ∀ (n : Nat) (vs ws : List Val), okVs n vs = true → okVs n ws = true → PyData.eqvAll (toDs vs) (toDs ws) = eqVs vs ws
  | n, [], [], _, _ => by simp [toDs, PyData.eqvAll, eqVs]
  | n, [], _ :: _, _, _ => by simp [toDs, PyData.eqvAll, eqVs]
  | n, _ :: _, [], _, _ => by simp [toDs, PyData.eqvAll, eqVs]
  | n, v :: vs, w :: ws, h, h' => by
    simp only [okVs, Bool.and_eq_true] at h h'
    simp only [toDs, PyData.eqvAll, eqVs]
    rw [eqv_toD n v w h.1 h'.1, eqvs_toD n vs ws h.2 h'.2]
end
mutual
theorem lay_toD : ∀ (n : Nat) (v : Val), okV n v = true → (toD v).canLay0 = true ∧ (toD v).depth ≤ n
  | n, .non, _ => by simp [toD, PyData.canLay0, PyData.depth]
  | n, .bl _, _ => by simp [toD, PyData.canLay0, PyData.depth]
  | n, .int _, _ => by simp [toD, PyData.canLay0, PyData.depth]
  | n, .str _, h => by simp only [okV] at h; simp [toD, PyData.canLay0, PyData.depth, h]
  | n, .wt _, h => by simp [okV] at h
  | n, .ref _, h => by simp [okV] at h
  | n, .ty _, h => by simp [okV] at h
  | n, .wl _, h => by simp [okV] at h
  | 0, .tup xs, h => by simp [okV] at h
  | n + 1, .tup xs, h => by
    simp only [okV] at h
    obtain ⟨h1, h2⟩ := lays_toD n xs h
    simp only [toD, PyData.canLay0, PyData.depth]
    exact ⟨h1, by omega⟩
theorem lays_toD : ∀ (n : Nat) (vs : List Val), okVs n vs = true → PyData.canLayAll0 (toDs vs) = true ∧ PyData.depthAll (toDs vs) ≤ n
  | n, [], _ => by simp [toDs, PyData.canLayAll0, PyData.depthAll]
  | n, v :: vs, h => by
    simp only [okVs, Bool.and_eq_true] at h
    obtain ⟨h1, h2⟩ := lay_toD n v h.1
    obtain ⟨h3, h4⟩ := lays_toD n vs h.2
    simp only [toDs, PyData.canLayAll0, PyData.depthAll]
    exact ⟨by rw [h1, h3]; rfl, by omega⟩
end
theorem shaped_toD {n : Nat} {v : Val} (h : okV n v = true) (hn : n ≤ 64) : SeqAt.shaped (toD v) = true := by
  obtain ⟨h1, h2⟩ := lay_toD n v h
  unfold SeqAt.shaped
  rw [h1, Bool.true_and, decide_eq_true_eq]
  omega
theorem shapeds_toD {n : Nat} {vs : List Val} (h : okVs n vs = true) (hn : n < 64) : SeqAt.shaped (.list (toDs vs)) = true ∧ SeqAt.shaped (.tuple (toDs vs)) = true := by
  obtain ⟨h1, h2⟩ := lays_toD n vs h
  have e : decide (PyData.depthAll (toDs vs) + 1 ≤ 64) = true := decide_eq_true (by omega)
  unfold SeqAt.shaped
  simp only [PyData.canLay0, PyData.depth, h1, Bool.true_and]
  exact ⟨e, e⟩
section
variable {K : PySem.W.Frag} {r : List Addr} {H : Hp}
mutual
theorem dp_of : ∀ (n : Nat) (v : Val) (x : V), okV n v = true → Rep K r H v x → Dp K H x (toD v)
  | n, .non, _, _, p => by simp only [Rep] at p; subst p; simp only [toD]; exact .non
  | n, .bl b, _, _, p => by simp only [Rep] at p; subst p; simp only [toD]; exact .bl b
  | n, .int i, _, _, p => by simp only [Rep] at p; subst p; simp only [toD]; exact .int i
  | n, .str z, _, _, p => by simp only [Rep] at p; subst p; simp only [toD]; exact .str z
  | n, .wt _, _, h, _ => by simp [okV] at h
  | n, .ref _, _, h, _ => by simp [okV] at h
  | n, .ty _, _, h, _ => by simp [okV] at h
  | n, .wl _, _, h, _ => by simp [okV] at h
  | 0, .tup xs, _, h, _ => by simp [okV] at h
  | n + 1, .tup xs, _, h, p => by
    simp only [okV] at h
    simp only [Rep] at p
    obtain ⟨a, ys, rfl, e, q⟩ := p
    simp only [toD]
    exact .tup (SqT.of e) (dps_of n xs ys h q)
theorem dps_of : ∀ (n : Nat) (vs : List Val) (xs : List V), okVs n vs = true → Reps K r H vs xs → DpAll K H xs (toDs vs)
  | n, [], _, _, p => by rw [Reps.nil_iff] at p; subst p; simp only [toDs]; exact .nil
  | n, v :: vs, _, h, p => by
    simp only [okVs, Bool.and_eq_true] at h
    obtain ⟨y, ys, rfl, p1, p2⟩ := Reps.cons_iff.mp p
    simp only [toDs]
    exact .cons (dp_of n v y h.1 p1) (dps_of n vs ys h.2 p2)
end
end
def oEq (neg : Bool) : Op2 := fun x y A Q => match x, y with
  | .str a, .str b => Q (.bl (xor neg (decide (a = b)))) A
  | .ref n, .ref m => ∃ xs ys, lstAt A n = some xs ∧ lstAt A m = some ys ∧ okVs 60 xs = true ∧ okVs 60 ys = true ∧ Q (.bl (xor neg (eqVs xs ys))) A
  | x, y => okV 60 x = true ∧ okV 60 y = true ∧ Q (.bl (xor neg (eqV x y))) A
def rEqB (K : PySem.W.Frag) (neg : Bool) : R2 := fun x y H Q => (∃ a b, x = .str a ∧ y = .str b ∧ Q (.bl (xor neg (decide (a = b)))) H) ∨ ∃ d e, Dp K H x d ∧ Dp K H y e ∧ SeqAt.shaped d = true ∧ SeqAt.shaped e = true ∧ Q (.bl (xor neg (PyData.eqv d e))) H
theorem op_eqB {X : Cx} (hu : X.A.units + 64 < cLine) : OpR X (compareOp .Eq) (rEqB X.K false) := by
  intro pins s σ H x y v u Q I rx ry h
  rcases h with ⟨a, b, rfl, rfl, q⟩ | ⟨d, e, h1, h2, h3, h4, q⟩
  · rw [Bool.false_xor] at q
    refine op_eq pins s σ H _ _ v u Q I rx ry ⟨rfl, ?_⟩
    rw [dec_str]
    rw [← Bool.beq_eq_decide_eq] at q
    exact q
  · rw [Bool.false_xor] at q
    exact op_eqD hu pins s σ H x y v u Q I rx ry ⟨d, e, h1, h2, h3, h4, q⟩
theorem op_neB {X : Cx} (hu : X.A.units + 64 < cLine) : OpR X (compareOp .NotEq) (rEqB X.K true) := by
  intro pins s σ H x y v u Q I rx ry h
  rcases h with ⟨a, b, rfl, rfl, q⟩ | ⟨d, e, h1, h2, h3, h4, q⟩
  · rw [Bool.true_xor] at q
    refine op_ne pins s σ H _ _ v u Q I rx ry ⟨rfl, ?_⟩
    rw [dec_str]
    rw [← Bool.beq_eq_decide_eq] at q
    exact q
  · rw [Bool.true_xor] at q
    exact op_neD hu pins s σ H x y v u Q I rx ry ⟨d, e, h1, h2, h3, h4, q⟩
section
variable {G : Gc}
theorem eqS (neg : Bool) : OpS G (oEq neg) (rEqB G.K neg) := by
  refine ⟨fun x y A Q Q' h q => ?_, fun r A H v w x y Q R p1 p2 q => ?_⟩
  · unfold oEq at q ⊢
    split at q
    · exact h _ _ q
    · obtain ⟨xs, ys, e1, e2, o1, o2, q⟩ := q
      exact ⟨xs, ys, e1, e2, o1, o2, h _ _ q⟩
    · exact ⟨q.1, q.2.1, h _ _ q.2.2⟩
  · unfold oEq at q
    split at q
    · rw [rep_str p1, rep_str p2]
      exact .inl ⟨_, _, rfl, rfl, kv_bl R q⟩
    · obtain ⟨a, ea, rfl⟩ := rep_ref p1
      obtain ⟨b, eb, rfl⟩ := rep_ref p2
      obtain ⟨xs, ys, l1, l2, o1, o2, q⟩ := q
      obtain ⟨us, s1, q1⟩ := R.list ea l1
      obtain ⟨ws, s2, q2⟩ := R.list eb l2
      refine .inr ⟨_, _, .lst s1 (dps_of 60 _ _ o1 q1), .lst s2 (dps_of 60 _ _ o2 q2), (shapeds_toD o1 (by decide)).1, (shapeds_toD o2 (by decide)).1, ?_⟩
      rw [show PyData.eqv (.list (toDs xs)) (.list (toDs ys)) = PyData.eqvAll (toDs xs) (toDs ys) by simp only [PyData.eqv], eqvs_toD 60 _ _ o1 o2]
      exact kv_bl R q
    · obtain ⟨o1, o2, q⟩ := q
      refine .inr ⟨_, _, dp_of 60 _ _ o1 p1, dp_of 60 _ _ o2 p2, shaped_toD o1 (by decide), shaped_toD o2 (by decide), ?_⟩
      rw [eqv_toD 60 _ _ o1 o2]
      exact kv_bl R q
end
/-! ### order -/
def oOrd (f : Int → Int → Bool) : Op2 := fun x y A Q => match x, y with
  | .int i, .int j => Q (.bl (f i j)) A
  | _, _ => False
theorem ordS {G : Gc} (f : Int → Int → Bool) : OpS G (oOrd f) (rI0 fun i j => .bl (f i j)) := by
  refine ⟨fun x y A Q Q' h q => ?_, fun r A H v w x y Q R p1 p2 q => ?_⟩
  · unfold oOrd at q ⊢
    split at q
    · exact h _ _ q
    · exact q
  · unfold oOrd at q
    split at q
    · rw [rep_int p1, rep_int p2]
      exact ⟨_, _, rfl, rfl, kv_bl R q⟩
    · exact q.elim
/-! ### is -/
def isNonV : Val → Bool
  | .non => true
  | _ => false
def oIs (neg : Bool) : Op2 := fun x y A Q => match y with
  | .non => Q (.bl (xor neg (isNonV x))) A
  | .bl b => ∃ a, x = .bl a ∧ Q (.bl (xor neg (decide (a = b)))) A
  | _ => False
def rIsB (neg : Bool) : R2 := fun x y H Q => (y = .non ∧ Q (.bl (xor neg (decide (x = .non)))) H) ∨ ∃ a b, x = .bl a ∧ y = .bl b ∧ Q (.bl (xor neg (decide (a = b)))) H
theorem op_isB {X : Cx} : OpR X (compareOp .Is) (rIsB false) := by
  intro pins s σ H x y v u Q I rx ry h
  rcases h with ⟨e, q⟩ | ⟨a, b, e1, e2, q⟩
  · rw [Bool.false_xor] at q; exact op_isN pins s σ H x y v u Q I rx ry ⟨e, q⟩
  · rw [Bool.false_xor] at q; exact op_is_bl pins s σ H x y v u Q I rx ry ⟨a, b, e1, e2, q⟩
theorem op_isnB {X : Cx} : OpR X (compareOp .IsNot) (rIsB true) := by
  intro pins s σ H x y v u Q I rx ry h
  rcases h with ⟨e, q⟩ | ⟨a, b, e1, e2, q⟩
  · rw [Bool.true_xor] at q; exact op_notN pins s σ H x y v u Q I rx ry ⟨e, q⟩
  · rw [Bool.true_xor] at q; exact op_isnot_bl pins s σ H x y v u Q I rx ry ⟨a, b, e1, e2, q⟩
theorem isS {G : Gc} (neg : Bool) : OpS G (oIs neg) (rIsB neg) := by
  refine ⟨fun x y A Q Q' h q => ?_, fun r A H v w x y Q R p1 p2 q => ?_⟩
  · unfold oIs at q ⊢
    split at q
    · exact h _ _ q
    · obtain ⟨a, e, q⟩ := q
      exact ⟨a, e, h _ _ q⟩
    · exact q
  · unfold oIs at q
    split at q
    · refine .inl ⟨rep_non p2, ?_⟩
      have e : decide (x = V.non) = isNonV v := by
        cases v <;> simp only [Rep] at p1 <;> first | (subst p1; rfl) | (obtain ⟨_, _, rfl, _⟩ := p1; rfl) | (obtain ⟨_, _, rfl⟩ := p1; rfl)
      rw [e]
      exact kv_bl R q
    · obtain ⟨a, rfl, q⟩ := q
      exact .inr ⟨a, _, rep_bl p1, rep_bl p2, kv_bl R q⟩
    · exact q.elim
end EV

namespace EV
open PySem PySem.Spec PyProof.Rows L2 RZ RT

/-! ### keys -/
def keyO : Val → Option Key
  | .int i => some (.inl i)
  | .str x => some (.inr x)
  | _ => none
def keysO : List Val → Option (List Key)
  | [] => some []
  | v :: vs => (keyO v).bind fun k => (keysO vs).map fun ks => k :: ks
theorem keyO_rep {K : PySem.W.Frag} {r : List Addr} {H : Hp} {v : Val} {x : V} {k : Key} (p : Rep K r H v x) (h : keyO v = some k) : x = kV k := by
  cases v with
  | int i => simp only [keyO, Option.some.injEq] at h; subst h; simp only [Rep] at p; exact p
  | str i => simp only [keyO, Option.some.injEq] at h; subst h; simp only [Rep] at p; exact p
  | _ => simp [keyO] at h
theorem keysO_rep {K : PySem.W.Frag} {r : List Addr} {H : Hp} : ∀ {vs : List Val} {xs : List V} {ks : List Key}, Reps K r H vs xs → keysO vs = some ks → xs = ks.map kV
  | [], _, _, p, h => by
    rw [Reps.nil_iff] at p
    simp only [keysO, Option.some.injEq] at h
    subst h; subst p; rfl
  | v :: vs, _, _, p, h => by
    obtain ⟨y, ys, rfl, p1, p2⟩ := Reps.cons_iff.mp p
    simp only [keysO, Option.bind_eq_some_iff, Option.map_eq_some_iff] at h
    obtain ⟨k, hk, ks, hks, rfl⟩ := h
    rw [keyO_rep p1 hk, keysO_rep p2 hks]; rfl
/-- a dict's value at a key, as HandS has it -/
def dOf {κ : Type} [DecidableEq κ] (l : List (κ × Val)) (k : κ) : Option Val := (l.find? fun kv => decide (kv.1 = k)).map (·.2)
def dPut {κ : Type} [DecidableEq κ] (l : List (κ × Val)) (k : κ) (v : Val) : List (κ × Val) :=
  if (l.any fun kv => decide (kv.1 = k)) = true then l.map (fun kv => if kv.1 = k then (kv.1, v) else kv) else l ++ [(k, v)]
section
variable {κ : Type} [DecidableEq κ] {K : PySem.W.Frag} {r : List Addr} {H : Hp}
theorem RKV.nil_iff {xs : List (κ × V)} : RKV κ K r H [] xs ↔ xs = [] := by
  unfold RKV
  constructor
  · rintro ⟨h, _⟩
    cases xs with
    | nil => rfl
    | cons a l => simp at h
  · rintro rfl; exact ⟨rfl, by simp [Reps]⟩
theorem RKV.cons_iff {p : κ × Val} {l : List (κ × Val)} {xs : List (κ × V)} : RKV κ K r H (p :: l) xs ↔ ∃ x ys, xs = (p.1, x) :: ys ∧ Rep K r H p.2 x ∧ RKV κ K r H l ys := by
  unfold RKV
  constructor
  · rintro ⟨h, q⟩
    cases xs with
    | nil => simp at h
    | cons a ys =>
      simp only [List.map_cons, List.cons.injEq] at h q
      obtain ⟨y, zs, e, q1, q2⟩ := Reps.cons_iff.mp q
      simp only [List.cons.injEq] at e
      obtain ⟨rfl, rfl⟩ := e
      refine ⟨a.2, ys, ?_, q1, h.2, q2⟩
      rw [h.1]
  · rintro ⟨x, ys, rfl, q1, h, q2⟩
    exact ⟨by simp [h], Reps.cons_iff.mpr ⟨_, _, rfl, q1, q2⟩⟩
theorem RKV.len : ∀ {l : List (κ × Val)} {xs : List (κ × V)}, RKV κ K r H l xs → l.length = xs.length := fun {l xs} h => by
  have := congrArg List.length h.1
  simpa using this
theorem RKV.get : ∀ {l : List (κ × Val)} {xs : List (κ × V)} (k : κ), RKV κ K r H l xs → (∀ v, dOf l k = some v → ∃ x, valV xs k = some x ∧ Rep K r H v x) ∧ (dOf l k = none → valV xs k = none)
  | [], xs, k, h => by
    rw [RKV.nil_iff] at h
    subst h
    exact ⟨fun v e => by simp [dOf] at e, fun _ => rfl⟩
  | p :: l, xs, k, h => by
    obtain ⟨x, ys, rfl, q, h⟩ := RKV.cons_iff.mp h
    by_cases e : p.1 = k
    · rw [valV_pos (show (p.1, x).1 = k from e)]
      refine ⟨fun v z => ?_, fun z => ?_⟩
      · simp [dOf, List.find?_cons, e] at z
        subst z
        exact ⟨x, rfl, q⟩
      · simp [dOf, List.find?_cons, e] at z
    · rw [valV_neg (show ¬ (p.1, x).1 = k from e)]
      have ih := RKV.get k h
      have e2 : dOf (p :: l) k = dOf l k := by simp [dOf, List.find?_cons, e]
      rw [e2]
      exact ih
theorem RKV.any {l : List (κ × Val)} {xs : List (κ × V)} (k : κ) (h : RKV κ K r H l xs) : (l.any fun kv => decide (kv.1 = k)) = (xs.any fun kv => decide (kv.1 = k)) := by
  have e1 : (l.any fun kv => decide (kv.1 = k)) = ((l.map (·.1)).any fun z => decide (z = k)) := by rw [List.any_map]; rfl
  have e2 : (xs.any fun kv => decide (kv.1 = k)) = ((xs.map (·.1)).any fun z => decide (z = k)) := by rw [List.any_map]; rfl
  rw [e1, e2, h.1]
theorem RKV.repl {v : Val} {x : V} (k : κ) (q : Rep K r H v x) : ∀ {l : List (κ × Val)} {xs : List (κ × V)}, RKV κ K r H l xs → RKV κ K r H (l.map (fun kv => if kv.1 = k then (kv.1, v) else kv)) (xs.map (fun kv => if kv.1 = k then (kv.1, x) else kv))
  | [], xs, h => by
    rw [RKV.nil_iff] at h
    subst h
    exact RKV.nil_iff.mpr rfl
  | p :: l, xs, h => by
    obtain ⟨y, ys, rfl, q1, h⟩ := RKV.cons_iff.mp h
    have ih := RKV.repl k q h
    rw [List.map_cons, List.map_cons]
    by_cases e : p.1 = k
    · rw [if_pos e, if_pos (show (p.1, y).1 = k from e)]
      exact RKV.cons_iff.mpr ⟨_, _, rfl, q, ih⟩
    · rw [if_neg e, if_neg (show ¬ (p.1, y).1 = k from e)]
      exact RKV.cons_iff.mpr ⟨_, _, rfl, q1, ih⟩
theorem RKV.put {l : List (κ × Val)} {xs : List (κ × V)} {v : Val} {x : V} (k : κ) (h : RKV κ K r H l xs) (q : Rep K r H v x) : RKV κ K r H (dPut l k v) (putK xs k x) := by
  unfold dPut putK
  rw [h.any k]
  split
  · exact RKV.repl k q h
  · exact ⟨by simp [h.1], by rw [List.map_append, List.map_append]; exact Reps.append h.2 (Reps.cons_iff.mpr ⟨_, _, rfl, q, Reps.nil_iff.mpr rfl⟩)⟩
end
theorem length_dPut {κ : Type} [DecidableEq κ] (l : List (κ × Val)) (k : κ) (v : Val) : (dPut l k v).length ≤ l.length + 1 := by
  unfold dPut
  split
  · rw [List.length_map]; omega
  · rw [List.length_append]; exact Nat.le_refl _

/-- the dict at n at the key x: defined, then its value or none -/
def dAt (A : AH) (n : Nat) (x : Val) : Option (Option Val) := match A[n]? with
  | some (.dk kvs) => (keyO x).map fun k => dOf kvs k
  | some (.dt kvs) => match x with
    | .tup ks => (keysO ks).map fun k => dOf kvs k
    | _ => none
  | _ => none
section
variable {G : Gc} {r : List Addr} {A : AH} {H : Hp}
theorem dAt_get (R : HRel G.K r A H) {n : Nat} {a : Addr} {v : Val} {x : V} {o : Option Val} (e : r[n]? = some a) (p : Rep G.K r H v x) (h : dAt A n v = some o) :
    ∃ ox, DGet H a x ox ∧ (∀ w, o = some w → ∃ y, ox = some y ∧ Rep G.K r H w y) ∧ (o = none → ox = none) := by
  unfold dAt at h
  split at h
  · rename_i kvs e2
    obtain ⟨xs, ex, q⟩ := R.ob n a _ e e2
    simp only [Option.map_eq_some_iff] at h
    obtain ⟨k, hk, rfl⟩ := h
    rw [keyO_rep p hk]
    obtain ⟨g1, g2⟩ := RKV.get k q
    exact ⟨_, DGet.k ex, fun w hw => let ⟨y, e, p⟩ := g1 w hw; ⟨y, e, p⟩, g2⟩
  · rename_i kvs e2
    obtain ⟨xs, ex, q⟩ := R.ob n a _ e e2
    cases v with
    | tup ks =>
      simp only [Option.map_eq_some_iff] at h
      obtain ⟨k, hk, rfl⟩ := h
      obtain ⟨b, ys, rfl, hb, q2⟩ := rep_tup p
      have ey := keysO_rep q2 hk
      subst ey
      obtain ⟨g1, g2⟩ := RKV.get k q
      exact ⟨_, DGet.t ex hb, fun w hw => let ⟨y, e, p⟩ := g1 w hw; ⟨y, e, p⟩, g2⟩
    | _ => simp at h
  · cases h
end

/-! ### in -/
def occ (x y : Str) : Bool := !(Builtin.Str.occurrences y x 0 y.length 1).isEmpty
def oIn (neg : Bool) : Op2 := fun x y A Q => match y with
  | .str z => ∃ w, x = .str w ∧ Q (.bl (xor neg (occ w z))) A
  | .tup ys => okV 60 x = true ∧ okVs 60 ys = true ∧ Q (.bl (xor neg (ys.any fun z => eqV z x))) A
  | .ref n => (∃ ys, lstAt A n = some ys ∧ okV 60 x = true ∧ okVs 60 ys = true ∧ Q (.bl (xor neg (ys.any fun z => eqV z x))) A) ∨ (∃ o, dAt A n x = some o ∧ Q (.bl (xor neg o.isSome)) A)
  | _ => False
def rInB (K : PySem.W.Frag) (neg : Bool) : R2 := fun x y H Q => (∃ i j, x = .str i ∧ y = .str j ∧ Q (.bl (xor neg (occ i j))) H) ∨
  (∃ d ds, Dp K H x d ∧ Dp K H y (.tuple ds) ∧ SeqAt.shaped d = true ∧ SeqAt.shaped (.tuple ds) = true ∧ Q (.bl (xor neg (ds.any fun z => PyData.eqv z d))) H) ∨
  (∃ d ds, Dp K H x d ∧ Dp K H y (.list ds) ∧ SeqAt.shaped d = true ∧ SeqAt.shaped (.list ds) = true ∧ Q (.bl (xor neg (ds.any fun z => PyData.eqv z d))) H) ∨
  (∃ a o, y = .ref a ∧ DGet H a x o ∧ Q (.bl (xor neg o.isSome)) H)
theorem op_inB {X : Cx} (hu : X.A.units + 65 < cLine) : OpR X (compareOp .In) (rInB X.K false) := by
  intro pins s σ H x y v u Q I rx ry h
  rcases h with ⟨i, j, e1, e2, q⟩ | ⟨d, ds, h1, h2, h3, h4, q⟩ | ⟨d, ds, h1, h2, h3, h4, q⟩ | ⟨a, o, rfl, g, q⟩
  · rw [Bool.false_xor] at q
    exact op_in_str pins s σ H x y v u Q I rx ry ⟨i, j, e1, e2, q⟩
  · rw [Bool.false_xor] at q
    obtain ⟨as, r1⟩ := Dp.reads I d x v h1 rx
    obtain ⟨bs, r2⟩ := Dp.reads I (.tuple ds) y u h2 ry
    exact SeqAt.in_tuple_reads r2 r1 (SeqAt.canLay_of_shaped h4) (SeqAt.canLay_of_shaped h3) (room_in_shaped h3 hu) ⟨.bl _, H, I, rfl, q⟩
  · rw [Bool.false_xor] at q
    exact op_inD hu pins s σ H x y v u Q I rx ry ⟨d, ds, h1, h2, h3, h4, q⟩
  · rw [Bool.false_xor] at q
    obtain rfl : u = Value.ref a := ry
    exact d_in (by omega) I g rx fun s3 I3 => ⟨.bl o.isSome, H, I3, rfl, q⟩
theorem op_notInB {X : Cx} (hu : X.A.units + 65 < cLine) : OpR X (compareOp .NotIn) (rInB X.K true) := by
  intro pins s σ H x y v u Q I rx ry h
  rcases h with ⟨i, j, e1, e2, q⟩ | ⟨d, ds, h1, h2, h3, h4, q⟩ | ⟨d, ds, h1, h2, h3, h4, q⟩ | ⟨a, o, rfl, g, q⟩
  · rw [Bool.true_xor] at q
    exact op_notIn_str pins s σ H x y v u Q I rx ry ⟨i, j, e1, e2, q⟩
  · rw [Bool.true_xor] at q
    obtain ⟨as, r1⟩ := Dp.reads I d x v h1 rx
    obtain ⟨bs, r2⟩ := Dp.reads I (.tuple ds) y u h2 ry
    exact SeqAt.notIn_tuple_reads r2 r1 (SeqAt.canLay_of_shaped h4) (SeqAt.canLay_of_shaped h3) (room_in_shaped h3 hu) ⟨.bl _, H, I, rfl, q⟩
  · rw [Bool.true_xor] at q
    exact op_notInD hu pins s σ H x y v u Q I rx ry ⟨d, ds, h1, h2, h3, h4, q⟩
  · rw [Bool.true_xor] at q
    obtain rfl : u = Value.ref a := ry
    exact d_notIn (by omega) I g rx fun s3 I3 => ⟨.bl (!o.isSome), H, I3, rfl, q⟩
theorem any_toD {n : Nat} {x : Val} (hx : okV n x = true) : ∀ {ys : List Val}, okVs n ys = true → ((toDs ys).any fun z => PyData.eqv z (toD x)) = ys.any fun z => eqV z x
  | [], _ => by simp [toDs]
  | y :: ys, h => by
    simp only [okVs, Bool.and_eq_true] at h
    simp only [toDs, List.any_cons]
    rw [eqv_toD n y x h.1 hx, any_toD hx h.2]
section
variable {G : Gc}
theorem inS (neg : Bool) : OpS G (oIn neg) (rInB G.K neg) := by
  refine ⟨fun x y A Q Q' h q => ?_, fun r A H v w x y Q R p1 p2 q => ?_⟩
  · unfold oIn at q ⊢
    split at q
    · obtain ⟨w, e, q⟩ := q
      exact ⟨w, e, h _ _ q⟩
    · exact ⟨q.1, q.2.1, h _ _ q.2.2⟩
    · rcases q with ⟨ys, e, o1, o2, q⟩ | ⟨o, e, q⟩
      · exact .inl ⟨ys, e, o1, o2, h _ _ q⟩
      · exact .inr ⟨o, e, h _ _ q⟩
    · exact q
  · unfold oIn at q
    split at q
    · obtain ⟨w, rfl, q⟩ := q
      exact .inl ⟨_, _, rep_str p1, rep_str p2, kv_bl R q⟩
    · obtain ⟨o1, o2, q⟩ := q
      obtain ⟨a, ys, rfl, e, q2⟩ := rep_tup p2
      refine .inr (.inl ⟨_, _, dp_of 60 _ _ o1 p1, .tup (SqT.of e) (dps_of 60 _ _ o2 q2), shaped_toD o1 (by decide), (shapeds_toD o2 (by decide)).2, ?_⟩)
      rw [any_toD o1 o2]
      exact kv_bl R q
    · obtain ⟨a, ea, rfl⟩ := rep_ref p2
      rcases q with ⟨ys, e, o1, o2, q⟩ | ⟨o, e, q⟩
      · obtain ⟨us, s2, q2⟩ := R.list ea e
        refine .inr (.inr (.inl ⟨_, _, dp_of 60 _ _ o1 p1, .lst s2 (dps_of 60 _ _ o2 q2), shaped_toD o1 (by decide), (shapeds_toD o2 (by decide)).1, ?_⟩))
        rw [any_toD o1 o2]
        exact kv_bl R q
      · obtain ⟨ox, g, g1, g2⟩ := dAt_get R ea p1 e
        refine .inr (.inr (.inr ⟨a, ox, rfl, g, ?_⟩))
        have : ox.isSome = o.isSome := by
          cases o with
          | none => rw [g2 rfl]; rfl
          | some w => obtain ⟨y, e, _⟩ := g1 w rfl; rw [e]; rfl
        rw [this]
        exact kv_bl R q
    · exact q.elim
end

/-! ### subscripts -/
def oIx : Op2 := fun x y A Q => match x with
  | .tup xs => ∃ i v, y = .int i ∧ atI xs i = some v ∧ Q v A
  | .wt xs => ∃ i v, y = .int i ∧ atI xs i = some v ∧ Q v A
  | .str z => ∃ i c, y = .int i ∧ z.length ≤ sizeLine ∧ atI z.cps.toList i = some c ∧ Q (.str ⟨#[c]⟩) A
  | .ref n => (∃ xs i v, lstAt A n = some xs ∧ y = .int i ∧ atI xs i = some v ∧ Q v A) ∨ (∃ v, dAt A n y = some (some v) ∧ Q v A)
  | _ => False
theorem atI_rep {K : PySem.W.Frag} {r : List Addr} {H : Hp} {vs : List Val} {xs : List V} {i : Int} {v : Val} (p : Reps K r H vs xs) (h : atI vs i = some v) : ∃ x, atI xs i = some x ∧ Rep K r H v x := by
  unfold atI at h ⊢
  rw [← p.length]
  cases e : ixN vs.length i with
  | none => rw [e] at h; cases h
  | some j =>
    rw [e] at h
    simp only [Option.bind_some] at h ⊢
    exact p.get h
def rIxD : R2 := fun x y H Q => ∃ a v, x = .ref a ∧ DGet H a y (some v) ∧ Q v H
theorem subTail_of {prog : Program} {w : World} {A : Around} {E : Value → Shared → Prop} {s : Shared} {value slice : Expr} {o i : Value} {T id : String} {Q : Value → Shared → Prop} (hT : s.TypeIs o T)
    (hl : typeLookup (.type T) "__getitem__" = pure (some (.builtin id))) (h : wpAny (model prog w) A (getItem o i) Q E s)
    (hs : subscripted slice false o i = operate [o, i] (getItem o i)) :
    wpAny (model prog w) A (subscriptTail value slice o i) Q E s := by
  unfold subscriptTail
  refine wpAny_bind ?_
  rw [getitemInPython_of_ne hT.not_modules]
  refine wpAny_bind (wpAny_specialOf hT hl ?_)
  have fin : wpAny (model prog w) A (subscripted slice false o i) (fun r s₃ => wpAny (model prog w) A (letTemporaryGo value o r >>= fun _ => pure r) Q E s₃) E s := by
    rw [hs]
    exact wpAny_operating (wpAny_mono h (fun r s₃ h₃ => wpAny_bind (wpAny_letTemporaryGo (wpAny_pure h₃))) fun _ _ x => x)
  first
    | exact wpAny_pure (wpAny_bind fin)
    | exact wpAny_bind (wpAny_pure (wpAny_bind fin))
    | exact wpAny_bind fin
theorem ix_dict {X : Cx} (hu : X.A.units + 1 < cLine) : IxR X rIxD := by
  intro value slice pins s σ H x y v u Q I rx ry h hs
  obtain ⟨a, w, rfl, g, q⟩ := h
  obtain rfl : v = Value.ref a := rx
  exact subTail_of (dict_typeIs I g) PySem.F.slot_dict_getitem.lookup (d_getItem hu I g ry fun w' s3 I3 rw' => ⟨w, H, I3, rw', q⟩) hs
def rIxB (K : PySem.W.Frag) : R2 := fun x y H Q => rIx K x y H Q ∨ rIxD x y H Q
theorem ix_all {X : Cx} (hu : X.A.units + 1 < cLine) : IxR X (rIxB X.K) := ix_seq.or (ix_dict hu)
theorem ixS {G : Gc} : OpS G oIx (rIxB G.K) := by
  refine ⟨fun x y A Q Q' h q => ?_, fun r A H v w x y Q R p1 p2 q => ?_⟩
  · unfold oIx at q ⊢
    split at q
    · obtain ⟨i, v, e1, e2, q⟩ := q; exact ⟨i, v, e1, e2, h _ _ q⟩
    · obtain ⟨i, v, e1, e2, q⟩ := q; exact ⟨i, v, e1, e2, h _ _ q⟩
    · obtain ⟨i, c, e1, l, e2, q⟩ := q; exact ⟨i, c, e1, l, e2, h _ _ q⟩
    · rcases q with ⟨xs, i, v, l, e1, e2, q⟩ | ⟨v, e, q⟩
      · exact .inl ⟨xs, i, v, l, e1, e2, h _ _ q⟩
      · exact .inr ⟨v, e, h _ _ q⟩
    · exact q
  · unfold oIx at q
    split at q
    · obtain ⟨i, v, rfl, e2, q⟩ := q
      obtain ⟨a, ys, rfl, s, q1⟩ := p1.tupS (.inl rfl)
      obtain ⟨z, e3, p3⟩ := atI_rep q1 e2
      rw [rep_int p2]
      exact .inl (.inr (.inl ⟨a, ys, i, z, rfl, rfl, s, e3, kv_here R p3 q⟩))
    · obtain ⟨i, v, rfl, e2, q⟩ := q
      obtain ⟨a, ys, rfl, s, q1⟩ := p1.tupS (.inr rfl)
      obtain ⟨z, e3, p3⟩ := atI_rep q1 e2
      rw [rep_int p2]
      exact .inl (.inr (.inl ⟨a, ys, i, z, rfl, rfl, s, e3, kv_here R p3 q⟩))
    · obtain ⟨i, c, rfl, l, e2, q⟩ := q
      rw [rep_str p1, rep_int p2]
      exact .inl (.inr (.inr ⟨_, i, c, rfl, rfl, l, e2, kv_str R q⟩))
    · obtain ⟨a, ea, rfl⟩ := rep_ref p1
      rcases q with ⟨xs, i, v, l, rfl, e2, q⟩ | ⟨v, e, q⟩
      · obtain ⟨us, s2, q2⟩ := R.list ea l
        obtain ⟨z, e3, p3⟩ := atI_rep q2 e2
        rw [rep_int p2]
        exact .inl (.inl ⟨a, us, i, z, rfl, rfl, s2, e3, kv_here R p3 q⟩)
      · obtain ⟨ox, g, g1, g2⟩ := dAt_get R ea p2 e
        obtain ⟨z, e3, p3⟩ := g1 v rfl
        subst e3
        exact .inr ⟨a, z, rfl, g, kv_here R p3 q⟩
    · exact q.elim

/-! ### slices -/
abbrev DenO := Lv → AH → (Option Int → AH → Prop) → XQ → Prop
def MonoO (d : DenO) : Prop := ∀ t A Q Q' E E', (∀ v A', Q v A' → Q' v A') → (∀ e A', E e A' → E' e A') → d t A Q E → d t A Q' E'
def pNo : DenO := fun _ A Q _ => Q none A
def pSo (d : Den) : DenO := fun t A Q E => d t A (fun v A1 => ∃ i, v = .int i ∧ Q (some i) A1) E
theorem mono_pno : MonoO pNo := fun t A Q Q' E E' h k q => h _ _ q
theorem mono_pso {d : Den} (md : Mono d) : MonoO (pSo d) := fun t A Q Q' E E' h k q => md _ _ _ _ _ _ (fun v A1 ⟨i, e, q⟩ => ⟨i, e, h _ _ q⟩) k q
def cutL (xs : List Val) (lo hi : Option Int) : List Val := (xs.drop (HT.sIx xs.length 0 lo)).take (HT.sIx xs.length xs.length hi - HT.sIx xs.length 0 lo)
def oSl (x : Val) (lo hi : Option Int) (A : AH) (Q : VQ) : Prop := match x with
  | .tup xs => Q (.tup (cutL xs lo hi)) A
  | .ref n => ∃ xs, lstAt A n = some xs ∧ Q (.ref A.length) (A ++ [.lst (cutL xs lo hi)])
  | _ => False
def dSl (d : Den) (lo hi : DenO) : Den := fun t A Q E => d t A (fun x A1 => lo t A1 (fun l A2 => hi t A2 (fun u A3 => oSl x l u A3 Q) E) E) E
theorem mono_osl {x : Val} {lo hi : Option Int} {A : AH} {Q Q' : VQ} (h : ∀ v A', Q v A' → Q' v A') (q : oSl x lo hi A Q) : oSl x lo hi A Q' := by
  unfold oSl at q ⊢
  split at q
  · exact h _ _ q
  · obtain ⟨xs, e, q⟩ := q; exact ⟨xs, e, h _ _ q⟩
  · exact q
theorem mono_sl {d : Den} {lo hi : DenO} (md : Mono d) (ml : MonoO lo) (mh : MonoO hi) : Mono (dSl d lo hi) := fun t A Q Q' E E' h k q =>
  md _ _ _ _ _ _ (fun x A1 q => ml _ _ _ _ _ _ (fun l A2 q => mh _ _ _ _ _ _ (fun u A3 q => mono_osl h q) k q) k q) k q
theorem cut_rep {K : PySem.W.Frag} {r : List Addr} {H : Hp} {vs : List Val} {xs : List V} {lo hi : Option Int} (p : Reps K r H vs xs) : Reps K r H (cutL vs lo hi) (cutV xs lo hi) := by
  unfold cutL cutV
  rw [p.length]
  exact Reps.take _ (Reps.drop _ p)
def TOW (G : Gc) (W : WX) (d : DenO) : TO := fun s H Q => ∃ r A t, HRel G.K r A H ∧ SRel G.K r H t s ∧ d t A (fun o A' => ∀ r' H', Ext r r' H H' → HRel G.K r' A' H' → Q o H') (kx G r H s W)
def SO (G : Gc) (X : Cx) (e : Option Expr) (d : DenO) : Prop := ∀ W, Takes X W → PO X e (TOW G W d)
theorem _root_.L2.PO.wk {X : Cx} {e : Option Expr} {t t' : TO} (h : PO X e t) (w : ∀ s H Q, t' s H Q → t s H Q) : PO X e t' := ⟨fun pins s σ H Q I q => h.run pins s σ H Q I (w _ _ _ q)⟩
section
variable {G : Gc} {X : Cx} {e : Expr} {d : Den}
theorem so_none : SO G X none pNo := fun W tk => po_none.wk fun s H Q ⟨r, A, t, R, S, h⟩ => h r H (Ext.refl r H) R
theorem so_some (md : Mono d) (hd : SE G X e d) : SO G X (some e) (pSo d) := fun W tk => (po_some (hd W tk)).wk fun s H Q ⟨r, A, t, R, S, h⟩ =>
  ⟨r, A, t, R, S, md _ _ _ _ _ _ (fun v A1 ⟨i, e, q⟩ r1 H1 x E1 R1 p1 => ⟨i, by subst e; exact rep_int p1, q r1 H1 E1 R1⟩) (fun _ _ h => h) h⟩
theorem se_sl {elo ehi : Option Expr} {lo hi : DenO} {p2 pos : Pos} (hK : X.K = G.K) (md : Mono d) (ml : MonoO lo) (mh : MonoO hi) (hd : SE G X e d) (hl : SO G X elo lo) (hh : SO G X ehi hi) : SE G X (.Subscript e (.Slice elo ehi none p2) pos) (dSl d lo hi) := fun W tk =>
  (pe_slice (sl_list.or sl_tupA) (hd W tk) (hl W tk) (hh W tk)).wk fun s H Q ⟨r, A, t, R, S, h⟩ => by
    refine ⟨r, A, t, R, S, md _ _ _ _ _ _ (fun x A1 q r1 H1 xv E1 R1 p1 => ?_) (fun _ _ h => h) h⟩
    refine ⟨r1, A1, t, R1, S.ext R E1, ml _ _ _ _ _ _ (fun l A2 q r2 H2 E2 R2 => ?_) (fun e A h => kx_up E1 h) q⟩
    have S2 := (S.ext R E1).ext R1 E2
    refine ⟨r2, A2, t, R2, S2, mh _ _ _ _ _ _ (fun u A3 q r3 H3 E3 R3 => ?_) (fun e A h => kx_up (E1.trans E2) h) q⟩
    have p3 := Rep.ext R2 E3 _ _ (Rep.ext R1 E2 _ _ p1)
    have q := mono_osl (fun v A' h => kv_up (E1.trans (E2.trans E3)) h) q
    rw [hK]
    cases x with
    | tup vs =>
      obtain ⟨a, ys, rfl, e1, q1⟩ := rep_tup p3
      refine .inr ⟨a, ys, rfl, SqT.of e1, fun z => ?_, fun _ => kv_tup R3 (cut_rep q1) q⟩
      have : cutL vs l u = vs := by
        unfold cutL
        rw [q1.length, z.1, z.2, List.drop_zero, Nat.sub_zero, ← q1.length, List.take_length]
      have q : kv G r3 H3 Q (.tup (cutL vs l u)) A3 := q
      rw [this] at q
      exact kv_here R3 p3 q
    | ref n =>
      obtain ⟨a, ea, rfl⟩ := rep_ref p3
      obtain ⟨xs, e, q⟩ := q
      obtain ⟨us, s2, q2⟩ := R3.list ea e
      exact .inl ⟨a, us, rfl, s2, kv_lst R3 (cut_rep q2) q⟩
    | _ => exact q.elim
end

/-! ### stores -/
def oSet : OpSet := fun x y v A Q => match x with
  | .ref n => (∃ xs k j, A[n]? = some (.lst xs) ∧ y = .int k ∧ ixN xs.length k = some j ∧ Q (A.set n (.lst (xs.set j v)))) ∨
    (∃ kvs k, A[n]? = some (.dk kvs) ∧ keyO y = some k ∧ kvs.length < sizeLine ∧ Q (A.set n (.dk (dPut kvs k v)))) ∨
    (∃ kvs ks k, A[n]? = some (.dt kvs) ∧ y = .tup ks ∧ keysO ks = some k ∧ kvs.length < sizeLine ∧ Q (A.set n (.dt (dPut kvs k v))))
  | _ => False
def rSetD : V → V → V → Hp → (Hp → Prop) → Prop := fun o i v H Q => ∃ a H', o = .ref a ∧ DPut H a i v H' ∧ Q H'
def rSetB : V → V → V → Hp → (Hp → Prop) → Prop := fun o i v H Q => rSetL o i v H Q ∨ rSetD o i v H Q
theorem set_all {X : Cx} (hu : X.A.units + 1 < cLine) : PSet X rSetB := by
  intro pins s σ H o i v ov iv u Q I r1 r2 r3 h
  rcases h with h | ⟨a, H', rfl, g, q⟩
  · exact set_list pins s σ H o i v ov iv u Q I r1 r2 r3 h
  · obtain rfl : ov = Value.ref a := r1
    exact d_setItem hu I g r2 r3 fun s' I' => ⟨H', I', q⟩
theorem setS {G : Gc} : SetS G oSet rSetB := by
  refine ⟨fun x y z A Q Q' h q => ?_, fun r A H u v w x y z Q R p1 p2 p3 q => ?_⟩
  · unfold oSet at q ⊢
    split at q
    · rcases q with ⟨xs, k, j, e1, e2, e3, q⟩ | ⟨kvs, k, e1, e2, e3, q⟩ | ⟨kvs, ks, k, e1, e2, e3, e4, q⟩
      · exact .inl ⟨xs, k, j, e1, e2, e3, h _ q⟩
      · exact .inr (.inl ⟨kvs, k, e1, e2, e3, h _ q⟩)
      · exact .inr (.inr ⟨kvs, ks, k, e1, e2, e3, e4, h _ q⟩)
    · exact q
  · unfold oSet at q
    split at q
    · obtain ⟨a, ea, rfl⟩ := rep_ref p1
      have hm := List.mem_of_getElem? ea
      rcases q with ⟨xs, k, j, e1, rfl, e3, q⟩ | ⟨kvs, k, e1, e2, e3, q⟩ | ⟨kvs, ks, k, e1, rfl, e3, e4, q⟩
      · obtain ⟨us, eu, qu⟩ := lst_at R ea e1
        rw [rep_int p2]
        refine .inl ⟨a, us, k, j, rfl, rfl, eu, by rw [← qu.length]; exact e3, ?_⟩
        exact q r _ (ext_write hm) (R.write ea ⟨_, upd_same, Reps.set j (wr_reps R ea qu) (wr_rep R ea p3)⟩)
      · obtain ⟨us, eu, qu⟩ := R.ob _ a _ ea e1
        rw [keyO_rep p2 e2]
        refine .inr ⟨a, _, rfl, DPut.k eu (by rw [← qu.len]; exact e3), ?_⟩
        exact q r _ (ext_write hm) (R.write ea ⟨_, upd_same, RKV.put k (qu.ext R (ext_write hm)) (wr_rep R ea p3)⟩)
      · obtain ⟨us, eu, qu⟩ := R.ob _ a _ ea e1
        obtain ⟨b, ys, rfl, hb, q2⟩ := rep_tup p2
        have ey := keysO_rep q2 e3
        subst ey
        refine .inr ⟨a, _, rfl, DPut.t eu hb (by rw [← qu.len]; exact e4), ?_⟩
        exact q r _ (ext_write hm) (R.write ea ⟨_, upd_same, RKV.put k (qu.ext R (ext_write hm)) (wr_rep R ea p3)⟩)
    · exact q.elim
end EV

namespace EV
open PySem PySem.Spec PyProof.Rows L2 RZ RT

/-! ### built-ins by values -/
def lenO (A : AH) : Val → Option Nat
  | .tup xs => some xs.length
  | .wt xs => some xs.length
  | .str z => if z.length ≤ sizeLine then some z.length else none
  | .ref n => match A[n]? with
    | some (.lst xs) => some xs.length
    | some (.dk kvs) => some kvs.length
    | _ => none
  | _ => none
def oLen : OpN := fun vs A Q => ∃ v n, vs = [v] ∧ lenO A v = some n ∧ Q (.int n) A
def seqO (A : AH) : Val → Option (List Val)
  | .tup xs => some xs
  | .wt xs => some xs
  | .ref n => lstAt A n
  | .wl xs => some xs
  | _ => none
def oList : OpN := fun vs A Q => ∃ v xs, vs = [v] ∧ seqO A v = some xs ∧ Q (.ref A.length) (A ++ [.lst xs])
def oTuple : OpN := fun vs A Q => match vs with
  | [.tup xs] => Q (.tup xs) A
  | [.ref n] => ∃ xs, lstAt A n = some xs ∧ Q (.tup xs) A
  | _ => False
def oIntC1 : OpN := fun vs A Q => match vs with
  | [.int i] => Q (.int i) A
  | [.bl b] => Q (.int (if b then 1 else 0)) A
  | _ => False
def intsOf : List Val → Option (List Int)
  | [] => some []
  | .int i :: vs => (intsOf vs).map fun l => i :: l
  | _ => none
theorem intsOf_map (l : List Int) : intsOf (l.map Val.int) = some l := by
  induction l with
  | nil => rfl
  | cons a l ih => simp only [List.map_cons, intsOf, ih, Option.map_some]
theorem intsOf_eq : ∀ {vs : List Val} {l : List Int}, intsOf vs = some l → vs = l.map Val.int
  | [], l, h => by simp only [intsOf, Option.some.injEq] at h; subst h; rfl
  | .int i :: vs, l, h => by
    simp only [intsOf, Option.map_eq_some_iff] at h
    obtain ⟨m, hm, rfl⟩ := h
    rw [intsOf_eq hm]; rfl
  | .non :: _, _, h => by simp [intsOf] at h
  | .bl _ :: _, _, h => by simp [intsOf] at h
  | .str _ :: _, _, h => by simp [intsOf] at h
  | .tup _ :: _, _, h => by simp [intsOf] at h
  | .wt _ :: _, _, h => by simp [intsOf] at h
  | .ref _ :: _, _, h => by simp [intsOf] at h
  | .ty _ :: _, _, h => by simp [intsOf] at h
  | .wl _ :: _, _, h => by simp [intsOf] at h
def lstInts (A : AH) (v : Val) : Option (List Int) := match v with
  | .ref n => (lstAt A n).bind intsOf
  | _ => none
def oSum : OpN := fun vs A Q => ∃ v l, vs = [v] ∧ lstInts A v = some l ∧ Q (.int l.sum) A
/-- max, min: a number of the list that bounds it -/
def oMax : OpN := fun vs A Q => (∃ v l, vs = [v] ∧ lstInts A v = some l ∧ 0 < l.length ∧ ∀ m, m ∈ l → (∀ y, y ∈ l → y ≤ m) → Q (.int m) A) ∨ (∃ i j, vs = [.int i, .int j] ∧ Q (.int (if j > i then j else i)) A)
def oMin : OpN := fun vs A Q => (∃ v l, vs = [v] ∧ lstInts A v = some l ∧ 0 < l.length ∧ ∀ m, m ∈ l → (∀ y, y ∈ l → m ≤ y) → Q (.int m) A) ∨ (∃ i j, vs = [.int i, .int j] ∧ Q (.int (if j < i then j else i)) A)
def oSorted : OpN := fun vs A Q => ∃ v l, vs = [v] ∧ lstInts A v = some l ∧ ∀ l' : List Int, l'.Perm l → l'.Pairwise (· ≤ ·) → Q (.ref A.length) (A ++ [.lst (l'.map Val.int)])
/-- isinstance(x, T) of a built-in type -/
def tyO (A : AH) : Val → Option String
  | .non => some "NoneType"
  | .bl _ => some "bool"
  | .int _ => some "int"
  | .str _ => some "str"
  | .tup _ => some "tuple"
  | .ref n => match A[n]? with
    | some (.lst _) => some "list"
    | some (.dk _) => some "dict"
    | some (.dt _) => some "dict"
    | _ => none
  | _ => none
def isiB (a b : String) : Option Bool := match b with
  | "tuple" => match a with | "tuple" => some true | "NoneType" => some false | "bool" => some false | "int" => some false | "str" => some false | "list" => some false | "dict" => some false | _ => none
  | "int" => match a with | "tuple" => some false | "NoneType" => some false | "bool" => some true | "int" => some true | "str" => some false | "list" => some false | "dict" => some false | _ => none
  | "bool" => match a with | "tuple" => some false | "NoneType" => some false | "bool" => some true | "int" => some false | "str" => some false | "list" => some false | "dict" => some false | _ => none
  | "str" => match a with | "tuple" => some false | "NoneType" => some false | "bool" => some false | "int" => some false | "str" => some true | "list" => some false | "dict" => some false | _ => none
  | "list" => match a with | "tuple" => some false | "NoneType" => some false | "bool" => some false | "int" => some false | "str" => some false | "list" => some true | "dict" => some false | _ => none
  | _ => none
theorem isiB_ok {a b : String} {k : Bool} (h : isiB a b = some k) : kitB a b = some k := by
  unfold isiB at h
  split at h <;> first | (split at h <;> first | (cases h; done) | (simp only [Option.some.injEq] at h; subst h; decide +kernel)) | cases h
def oIsi : OpN := fun vs A Q => ∃ v T a k, vs = [v, .ty T] ∧ tyO A v = some a ∧ isiB a T = some k ∧ Q (.bl k) A

section
variable {G : Gc}
theorem seq_sq {r : List Addr} {A : AH} {H : Hp} {v : Val} {x : V} {vs : List Val} (R : HRel G.K r A H) (p : Rep G.K r H v x) (h : seqO A v = some vs) : ∃ a ys, x = .ref a ∧ (SqL G.K H a ys ∨ SqT G.K H a ys) ∧ Reps G.K r H vs ys := by
  cases v with
  | tup xs =>
    simp only [seqO, Option.some.injEq] at h; subst h
    obtain ⟨a, ys, rfl, s, q⟩ := p.tupS (.inl rfl)
    exact ⟨a, ys, rfl, .inr s, q⟩
  | wt xs =>
    simp only [seqO, Option.some.injEq] at h; subst h
    obtain ⟨a, ys, rfl, s, q⟩ := p.tupS (.inr rfl)
    exact ⟨a, ys, rfl, .inr s, q⟩
  | ref n =>
    obtain ⟨a, ea, rfl⟩ := rep_ref p
    obtain ⟨ys, s, q⟩ := R.list ea h
    exact ⟨a, ys, rfl, .inl s, q⟩
  | wl xs =>
    simp only [seqO, Option.some.injEq] at h; subst h
    simp only [Rep] at p
    obtain ⟨a, ys, rfl, s, q⟩ := p
    refine ⟨a, ys, rfl, .inl ?_, q⟩
    rcases s with ⟨o, s⟩ | s
    · exact .inl (.inr ⟨o, s⟩)
    · exact s H
  | _ => simp [seqO] at h
def rLenB (K : PySem.W.Frag) : List V → Hp → VK → Prop := fun xs H Q => (∃ x n, xs = [x] ∧ LenV K x H n ∧ Q (.int n) H) ∨ (∃ a kvs, xs = [V.ref a] ∧ H a = some (.dK kvs) ∧ Q (.int kvs.length) H)
theorem lenS : CbS G oLen (rLenB G.K) := by
  refine ⟨fun x A Q Q' h ⟨v, n, e, l, q⟩ => ⟨v, n, e, l, h _ _ q⟩, fun r A H vs xs Q R p ⟨v, n, e, l, q⟩ => ?_⟩
  subst e
  obtain ⟨x, rfl, p⟩ := reps1 p
  cases v with
  | tup us =>
    simp only [lenO, Option.some.injEq] at l; subst l
    obtain ⟨a, ys, rfl, s, q1⟩ := Rep.tupS ‹Rep G.K r H (.tup us) x› (.inl rfl)
    exact .inl ⟨_, _, rfl, .inr ⟨ys, s, q1.length⟩, kv_int R q⟩
  | wt us =>
    simp only [lenO, Option.some.injEq] at l; subst l
    obtain ⟨a, ys, rfl, s, q1⟩ := Rep.tupS ‹Rep G.K r H (.wt us) x› (.inr rfl)
    exact .inl ⟨_, _, rfl, .inr ⟨ys, s, q1.length⟩, kv_int R q⟩
  | str z =>
    simp only [lenO] at l
    split at l
    · simp only [Option.some.injEq] at l; subst l
      rw [rep_str ‹Rep G.K r H (.str z) x›]
      exact .inl ⟨_, _, rfl, ⟨by assumption, rfl⟩, kv_int R q⟩
    · cases l
  | ref m =>
    obtain ⟨a, ea, rfl⟩ := rep_ref ‹Rep G.K r H (.ref m) x›
    simp only [lenO] at l
    split at l
    · rename_i us e2
      simp only [Option.some.injEq] at l; subst l
      obtain ⟨ys, ey, q1⟩ := R.ob m a _ ea e2
      exact .inl ⟨_, _, rfl, .inl ⟨ys, SqL.of ey, q1.length⟩, kv_int R q⟩
    · rename_i us e2
      simp only [Option.some.injEq] at l; subst l
      obtain ⟨ys, ey, q1⟩ := R.ob m a _ ea e2
      refine .inr ⟨_, _, rfl, ey, ?_⟩
      rw [← q1.len]
      exact kv_int R q
    · cases l
  | _ => simp [lenO] at l
theorem listS (K : PySem.W.Frag) (hK : K = G.K) : CbS G oList (fun xs H Q => ∃ p ys, xs = [.ref p] ∧ (SqL K H p ys ∨ SqT K H p ys) ∧ ∀ l, H l = none → Q (.ref l) (upd H l (.lst ys))) := by
  subst hK
  refine ⟨fun x A Q Q' h ⟨v, n, e, l, q⟩ => ⟨v, n, e, l, h _ _ q⟩, fun r A H vs xs Q R p ⟨v, us, e, l, q⟩ => ?_⟩
  subst e
  obtain ⟨x, rfl, p1⟩ := reps1 p
  obtain ⟨a, ys, rfl, s, q1⟩ := seq_sq R p1 l
  exact ⟨a, ys, rfl, s, kv_lst R q1 q⟩
theorem tupleS (K : PySem.W.Frag) (hK : K = G.K) : CbS G oTuple (fun xs H Q => ∃ p ys, xs = [.ref p] ∧ ((SqL K H p ys ∧ ∀ l, H l = none → Q (.ref l) (upd H l (.tup ys))) ∨ (SqT K H p ys ∧ Q (.ref p) H))) := by
  subst hK
  refine ⟨fun x A Q Q' h q => ?_, fun r A H vs xs Q R p q => ?_⟩
  · unfold oTuple at q ⊢
    split at q
    · exact h _ _ q
    · obtain ⟨xs, e, q⟩ := q; exact ⟨xs, e, h _ _ q⟩
    · exact q
  · unfold oTuple at q
    split at q
    · obtain ⟨x, rfl, p1⟩ := reps1 p
      obtain ⟨a, ys, rfl, s, q1⟩ := rep_tup p1
      exact ⟨a, ys, rfl, .inr ⟨SqT.of s, kv_here R p1 q⟩⟩
    · obtain ⟨x, rfl, p1⟩ := reps1 p
      obtain ⟨a, ea, rfl⟩ := rep_ref p1
      obtain ⟨us, e, q⟩ := q
      obtain ⟨ys, s, q1⟩ := R.list ea e
      exact ⟨a, ys, rfl, .inl ⟨s, kv_tup R q1 q⟩⟩
    · exact q.elim
theorem intcS : CbS G oIntC1 (fun xs H Q => (∃ i, xs = [.int i] ∧ Q (.int i) H) ∨ ∃ k, xs = [.bl k] ∧ Q (.int (if k then 1 else 0)) H) := by
  refine ⟨fun x A Q Q' h q => ?_, fun r A H vs xs Q R p q => ?_⟩
  · unfold oIntC1 at q ⊢
    split at q
    · exact h _ _ q
    · exact h _ _ q
    · exact q
  · unfold oIntC1 at q
    split at q
    · obtain ⟨x, rfl, p1⟩ := reps1 p
      rw [rep_int p1]
      exact .inl ⟨_, rfl, kv_int R q⟩
    · obtain ⟨x, rfl, p1⟩ := reps1 p
      rw [rep_bl p1]
      exact .inr ⟨_, rfl, kv_int R q⟩
    · exact q.elim
theorem reps_ints {K : PySem.W.Frag} {r : List Addr} {H : Hp} : ∀ {l : List Int} {xs : List V}, Reps K r H (l.map Val.int) xs → xs = l.map V.int
  | [], _, p => by rw [List.map_nil, Reps.nil_iff] at p; subst p; rfl
  | i :: l, _, p => by
    rw [List.map_cons] at p
    obtain ⟨y, ys, rfl, p1, p2⟩ := Reps.cons_iff.mp p
    simp only [Rep] at p1
    rw [p1, reps_ints p2]; rfl
theorem ints_reps {K : PySem.W.Frag} {r : List Addr} {H : Hp} : ∀ (l : List Int), Reps K r H (l.map Val.int) (l.map V.int)
  | [] => by simp [Reps]
  | i :: l => Reps.cons_iff.mpr ⟨_, _, rfl, by simp only [Rep], ints_reps l⟩
theorem lstInts_sq {r : List Addr} {A : AH} {H : Hp} {v : Val} {x : V} {l : List Int} (R : HRel G.K r A H) (p : Rep G.K r H v x) (h : lstInts A v = some l) : ∃ a, x = .ref a ∧ SqL G.K H a (l.map V.int) := by
  cases v with
  | ref n =>
    obtain ⟨a, ea, rfl⟩ := rep_ref p
    simp only [lstInts, Option.bind_eq_some_iff] at h
    obtain ⟨us, e, h⟩ := h
    obtain ⟨ys, s, q⟩ := R.list ea e
    rw [intsOf_eq h] at q
    rw [reps_ints q] at s
    exact ⟨a, rfl, s⟩
  | _ => simp [lstInts] at h
theorem sumS : CbS G oSum (rSum G.K) := by
  refine ⟨fun x A Q Q' h ⟨v, n, e, l, q⟩ => ⟨v, n, e, l, h _ _ q⟩, fun r A H vs xs Q R p ⟨v, us, e, l, q⟩ => ?_⟩
  subst e
  obtain ⟨x, rfl, p1⟩ := reps1 p
  obtain ⟨a, rfl, s⟩ := lstInts_sq R p1 l
  exact ⟨a, us, rfl, s, kv_int R q⟩
theorem maxS : CbS G oMax (fun xs H Q => rMax G.K xs H Q ∨ ∃ i j, xs = [.int i, .int j] ∧ Q (.int (if j > i then j else i)) H) := by
  refine ⟨fun x A Q Q' h q => ?_, fun r A H vs xs Q R p q => ?_⟩
  · rcases q with ⟨v, l, e, hl, h0, q⟩ | ⟨i, j, e, q⟩
    · exact .inl ⟨v, l, e, hl, h0, fun m h1 h2 => h _ _ (q m h1 h2)⟩
    · exact .inr ⟨i, j, e, h _ _ q⟩
  · rcases q with ⟨v, l, rfl, hl, h0, q⟩ | ⟨i, j, rfl, q⟩
    · obtain ⟨x, rfl, p1⟩ := reps1 p
      obtain ⟨a, rfl, s⟩ := lstInts_sq R p1 hl
      exact .inl ⟨a, l, rfl, s, h0, fun m h1 h2 => kv_int R (q m h1 h2)⟩
    · obtain ⟨x, y, rfl, p1, p2⟩ := reps2 p
      rw [rep_int p1, rep_int p2]
      exact .inr ⟨i, j, rfl, kv_int R q⟩
theorem minS : CbS G oMin (fun xs H Q => rMin G.K xs H Q ∨ ∃ i j, xs = [.int i, .int j] ∧ Q (.int (if j < i then j else i)) H) := by
  refine ⟨fun x A Q Q' h q => ?_, fun r A H vs xs Q R p q => ?_⟩
  · rcases q with ⟨v, l, e, hl, h0, q⟩ | ⟨i, j, e, q⟩
    · exact .inl ⟨v, l, e, hl, h0, fun m h1 h2 => h _ _ (q m h1 h2)⟩
    · exact .inr ⟨i, j, e, h _ _ q⟩
  · rcases q with ⟨v, l, rfl, hl, h0, q⟩ | ⟨i, j, rfl, q⟩
    · obtain ⟨x, rfl, p1⟩ := reps1 p
      obtain ⟨a, rfl, s⟩ := lstInts_sq R p1 hl
      exact .inl ⟨a, l, rfl, s, h0, fun m h1 h2 => kv_int R (q m h1 h2)⟩
    · obtain ⟨x, y, rfl, p1, p2⟩ := reps2 p
      rw [rep_int p1, rep_int p2]
      exact .inr ⟨i, j, rfl, kv_int R q⟩
theorem sortedS : CbS G oSorted (rSortedI G.K) := by
  refine ⟨fun x A Q Q' h ⟨v, n, e, l, q⟩ => ⟨v, n, e, l, fun l' h1 h2 => h _ _ (q l' h1 h2)⟩, fun r A H vs xs Q R p ⟨v, us, e, l, q⟩ => ?_⟩
  subst e
  obtain ⟨x, rfl, p1⟩ := reps1 p
  obtain ⟨a, rfl, s⟩ := lstInts_sq R p1 l
  exact ⟨a, us, rfl, s, fun l' b h1 h2 hb => kv_lst R (ints_reps l') (q l' h1 h2) b hb⟩
theorem tyX_of {r : List Addr} {A : AH} {H : Hp} {v : Val} {x : V} {T : String} (R : HRel G.K r A H) (p : Rep G.K r H v x) (h : tyO A v = some T) : TyX G.K H x (.type T) := by
  cases v with
  | non => simp only [tyO, Option.some.injEq] at h; subst h; rw [rep_non p]; exact .base .non
  | bl b => simp only [tyO, Option.some.injEq] at h; subst h; rw [rep_bl p]; exact .base (.bl b)
  | int i => simp only [tyO, Option.some.injEq] at h; subst h; rw [rep_int p]; exact .base (.int i)
  | str z => simp only [tyO, Option.some.injEq] at h; subst h; rw [rep_str p]; exact .base (.str z)
  | tup xs =>
    simp only [tyO, Option.some.injEq] at h; subst h
    obtain ⟨a, ys, rfl, s, q⟩ := rep_tup p
    exact .base (.tup s)
  | ref n =>
    obtain ⟨a, ea, rfl⟩ := rep_ref p
    simp only [tyO] at h
    split at h
    · rename_i us e2
      simp only [Option.some.injEq] at h; subst h
      obtain ⟨ys, ey, q1⟩ := R.ob n a _ ea e2
      exact .base (.lst ey)
    · rename_i us e2
      simp only [Option.some.injEq] at h; subst h
      obtain ⟨ys, ey, q1⟩ := R.ob n a _ ea e2
      exact .base (.dK ey)
    · rename_i us e2
      simp only [Option.some.injEq] at h; subst h
      obtain ⟨ys, ey, q1⟩ := R.ob n a _ ea e2
      exact .base (.dT ey)
    · cases h
  | _ => simp [tyO] at h
theorem isiS : CbS G oIsi (rIsi G.K) := by
  refine ⟨fun x A Q Q' h ⟨v, T, a, k, e, l, z, q⟩ => ⟨v, T, a, k, e, l, z, h _ _ q⟩, fun r A H vs xs Q R p ⟨v, T, a, k, e, l, z, q⟩ => ?_⟩
  subst e
  obtain ⟨x, y, rfl, p1, p2⟩ := reps2 p
  have ey : y = .ty T := by simpa only [Rep] using p2
  subst ey
  exact ⟨x, .ty T, .type a, .type T, k, rfl, .ty T, tyX_of R p1 l, kit_ty (isiB_ok z), kv_bl R q⟩
end

/-! ### methods by values -/
def tyL (v : Val) (A : AH) : Prop := ∃ n xs, v = .ref n ∧ lstAt A n = some xs
def tyD (v : Val) (A : AH) : Prop := ∃ n, v = .ref n ∧ ((∃ kvs, A[n]? = some (.dk kvs)) ∨ ∃ kvs, A[n]? = some (.dt kvs))
theorem tyL_ok {G : Gc} (r : List Addr) (A : AH) (H : Hp) (v : Val) (x : V) (R : HRel G.K r A H) (p : Rep G.K r H v x) (h : tyL v A) : tyV G.K "list" x H := by
  obtain ⟨n, xs, rfl, e⟩ := h
  obtain ⟨a, ea, rfl⟩ := rep_ref p
  obtain ⟨ys, s, _⟩ := R.list ea e
  exact .inl ⟨rfl, ys, s⟩
theorem tyD_ok {G : Gc} (r : List Addr) (A : AH) (H : Hp) (v : Val) (x : V) (R : HRel G.K r A H) (p : Rep G.K r H v x) (h : tyD v A) : tyV G.K "dict" x H := by
  obtain ⟨n, rfl, e⟩ := h
  obtain ⟨a, ea, rfl⟩ := rep_ref p
  refine .inr (.inr (.inl ⟨rfl, ?_⟩))
  rcases e with ⟨kvs, e⟩ | ⟨kvs, e⟩
  · obtain ⟨ys, ey, _⟩ := R.ob n a _ ea e
    exact .inl ⟨ys, ey⟩
  · obtain ⟨ys, ey, _⟩ := R.ob n a _ ea e
    exact .inr ⟨ys, ey⟩
def mAppend : Val → OpN := fun x vs A Q => ∃ n xs v, x = .ref n ∧ vs = [v] ∧ A[n]? = some (.lst xs) ∧ xs.length < sizeLine ∧ Q .non (A.set n (.lst (xs ++ [v])))
def mExtend : Val → OpN := fun x vs A Q => ∃ n m xs ys, x = .ref n ∧ vs = [.ref m] ∧ A[n]? = some (.lst xs) ∧ A[m]? = some (.lst ys) ∧ xs.length + ys.length ≤ sizeLine ∧ Q .non (A.set n (.lst (xs ++ ys)))
def mPop : Val → OpN := fun x vs A Q => (∃ n xs v, x = .ref n ∧ vs = [] ∧ A[n]? = some (.lst xs) ∧ xs[xs.length - 1]? = some v ∧ Q v (A.set n (.lst xs.dropLast))) ∨
  (∃ n xs i k v, x = .ref n ∧ vs = [.int i] ∧ A[n]? = some (.lst xs) ∧ sm62 i ∧ seqIndex? i xs.length = some k ∧ xs[k]? = some v ∧ Q v (A.set n (.lst (xs.eraseIdx k))))
def mReverse : Val → OpN := fun x vs A Q => ∃ n xs, x = .ref n ∧ vs = [] ∧ A[n]? = some (.lst xs) ∧ Q .non (A.set n (.lst xs.reverse))
def mIndex : Val → OpN := fun x vs A Q => ∃ n xs v j z, x = .ref n ∧ vs = [v] ∧ lstAt A n = some xs ∧ okV 60 v = true ∧ okVs 60 xs = true ∧ xs[j]? = some z ∧ eqV z v = true ∧ (∀ m z', m < j → xs[m]? = some z' → eqV z' v = false) ∧ Q (.int (j : Nat)) A
section
variable {G : Gc}
theorem Reps.dropLast {K : PySem.W.Frag} {r : List Addr} {H : Hp} {vs : List Val} {xs : List V} (p : Reps K r H vs xs) : Reps K r H vs.dropLast xs.dropLast := by
  rw [List.dropLast_eq_take, List.dropLast_eq_take, p.length]
  exact Reps.take _ p
theorem Reps.eraseIdx {K : PySem.W.Frag} {r : List Addr} {H : Hp} : ∀ {vs : List Val} {xs : List V} (i : Nat), Reps K r H vs xs → Reps K r H (vs.eraseIdx i) (xs.eraseIdx i)
  | [], _, i, p => by rw [Reps.nil_iff] at p; subst p; simp [Reps]
  | v :: vs, _, 0, p => by
    obtain ⟨y, ys, rfl, p1, p2⟩ := Reps.cons_iff.mp p
    exact p2
  | v :: vs, _, i + 1, p => by
    obtain ⟨y, ys, rfl, p1, p2⟩ := Reps.cons_iff.mp p
    exact Reps.cons_iff.mpr ⟨_, _, rfl, p1, Reps.eraseIdx i p2⟩
theorem kv_setL {r : List Addr} {A : AH} {H : Hp} {Q : VK} {n : Nat} {a : Addr} {v : Val} {x : V} {vs : List Val} {xs : List V} (R : HRel G.K r A H) (e : r[n]? = some a) (q : kv G r H Q v (A.set n (.lst vs))) (px : Reps G.K r (upd H a (.lst xs)) vs xs) (p : Rep G.K r (upd H a (.lst xs)) v x) : Q x (upd H a (.lst xs)) :=
  kv_set R e (fun _ => show OR G.K r (upd H a (.lst xs)) a (.lst vs) from ⟨xs, upd_same, px⟩) p q
theorem appendS : MeS G mAppend rAppend := by
  refine ⟨fun x vs A Q Q' h ⟨n, xs, v, e1, e2, e3, l, q⟩ => ⟨n, xs, v, e1, e2, e3, l, h _ _ q⟩, fun r A H v x vs xs Q R p1 p2 ⟨n, us, w, e1, e2, e3, l, q⟩ => ?_⟩
  subst e1; subst e2
  obtain ⟨a, ea, rfl⟩ := rep_ref p1
  obtain ⟨y, rfl, py⟩ := reps1 p2
  obtain ⟨ys, ey, q1⟩ := lst_at R ea e3
  refine ⟨a, ys, y, rfl, rfl, ey, by rw [← q1.length]; exact l, ?_⟩
  exact kv_setL R ea q (Reps.append (wr_reps R ea q1) (Reps.cons_iff.mpr ⟨_, _, rfl, wr_rep R ea py, Reps.nil_iff.mpr rfl⟩)) (by simp only [Rep])
theorem extendS : MeS G mExtend rExtend := by
  refine ⟨fun x vs A Q Q' h ⟨n, m, xs, v, e1, e2, e3, e4, l, q⟩ => ⟨n, m, xs, v, e1, e2, e3, e4, l, h _ _ q⟩, fun r A H v x vs xs Q R p1 p2 ⟨n, m, us, ws, e1, e2, e3, e4, l, q⟩ => ?_⟩
  subst e1; subst e2
  obtain ⟨a, ea, rfl⟩ := rep_ref p1
  obtain ⟨y, rfl, py⟩ := reps1 p2
  obtain ⟨b, eb, rfl⟩ := rep_ref py
  obtain ⟨ys, ey, q1⟩ := lst_at R ea e3
  obtain ⟨zs, ez, q2⟩ := lst_at R eb e4
  refine ⟨a, b, ys, zs, rfl, rfl, ey, ez, by rw [← q1.length, ← q2.length]; exact l, ?_⟩
  exact kv_setL R ea q (Reps.append (wr_reps R ea q1) (wr_reps R ea q2)) (by simp only [Rep])
theorem popS : MeS G mPop (fun x vs H Q => rPop x vs H Q ∨ rPopAt x vs H Q) := by
  refine ⟨fun x vs A Q Q' h q => ?_, fun r A H v x vs xs Q R p1 p2 q => ?_⟩
  · rcases q with ⟨n, xs, v, e1, e2, e3, l, q⟩ | ⟨n, xs, i, k, v, e1, e2, e3, l, e4, e5, q⟩
    · exact .inl ⟨n, xs, v, e1, e2, e3, l, h _ _ q⟩
    · exact .inr ⟨n, xs, i, k, v, e1, e2, e3, l, e4, e5, h _ _ q⟩
  · rcases q with ⟨n, us, w, rfl, rfl, e3, l, q⟩ | ⟨n, us, i, k, w, rfl, rfl, e3, l, e4, e5, q⟩
    · obtain ⟨a, ea, rfl⟩ := rep_ref p1
      rw [Reps.nil_iff] at p2; subst p2
      obtain ⟨ys, ey, q1⟩ := lst_at R ea e3
      obtain ⟨y, hy, py⟩ := q1.get l
      refine .inl ⟨a, ys, y, rfl, rfl, ey, by rw [← q1.length]; exact hy, ?_⟩
      exact kv_setL R ea q (Reps.dropLast (wr_reps R ea q1)) (wr_rep R ea py)
    · obtain ⟨a, ea, rfl⟩ := rep_ref p1
      obtain ⟨z, rfl, pz⟩ := reps1 p2
      rw [rep_int pz]
      obtain ⟨ys, ey, q1⟩ := lst_at R ea e3
      obtain ⟨y, hy, py⟩ := q1.get e5
      have l1 := l.1
      have l2 := l.2
      refine .inr ⟨a, ys, i, k, y, rfl, rfl, ey, by omega, by omega, by rw [← q1.length]; exact e4, hy, ?_⟩
      exact kv_setL R ea q (Reps.eraseIdx k (wr_reps R ea q1)) (wr_rep R ea py)
theorem reverseS : MeS G mReverse rReverse := by
  refine ⟨fun x vs A Q Q' h ⟨n, xs, e1, e2, e3, q⟩ => ⟨n, xs, e1, e2, e3, h _ _ q⟩, fun r A H v x vs xs Q R p1 p2 ⟨n, us, e1, e2, e3, q⟩ => ?_⟩
  subst e1; subst e2
  obtain ⟨a, ea, rfl⟩ := rep_ref p1
  rw [Reps.nil_iff] at p2; subst p2
  obtain ⟨ys, ey, q1⟩ := lst_at R ea e3
  refine ⟨a, ys, rfl, rfl, ey, ?_⟩
  exact kv_setL R ea q (Reps.reverse (wr_reps R ea q1)) (by simp only [Rep])
theorem toDs_get : ∀ (vs : List Val) (j : Nat), (toDs vs)[j]? = vs[j]?.map toD
  | [], j => by simp [toDs]
  | v :: vs, 0 => by simp [toDs]
  | v :: vs, j + 1 => by simp only [toDs, List.getElem?_cons_succ]; exact toDs_get vs j
theorem okVs_get {n : Nat} : ∀ {vs : List Val} {j : Nat} {z : Val}, okVs n vs = true → vs[j]? = some z → okV n z = true
  | [], _, _, _, e => by simp at e
  | v :: vs, 0, z, h, e => by simp only [okVs, Bool.and_eq_true] at h; simp at e; subst e; exact h.1
  | v :: vs, j + 1, z, h, e => by simp only [okVs, Bool.and_eq_true] at h; simp at e; exact okVs_get h.2 e
theorem indexS : MeS G mIndex (rIndexD G.K) := by
  refine ⟨fun x vs A Q Q' h ⟨n, xs, v, j, z, e1, e2, e3, o1, o2, e4, e5, e6, q⟩ => ⟨n, xs, v, j, z, e1, e2, e3, o1, o2, e4, e5, e6, h _ _ q⟩, fun r A H v x vs xs Q R p1 p2 ⟨n, us, w, j, z, e1, e2, e3, o1, o2, e4, e5, e6, q⟩ => ?_⟩
  subst e1; subst e2
  obtain ⟨a, ea, rfl⟩ := rep_ref p1
  obtain ⟨y, rfl, py⟩ := reps1 p2
  obtain ⟨ys, s, q1⟩ := R.list ea e3
  refine ⟨a, y, toD w, toDs us, j, toD z, rfl, rfl, .lst s (dps_of 60 _ _ o2 q1), dp_of 60 _ _ o1 py, (shapeds_toD o2 (by decide)).1, shaped_toD o1 (by decide), by rw [toDs_get, e4]; rfl, ?_, fun m z' hm hz => ?_, kv_int R q⟩
  · rw [eqv_toD 60 _ _ (okVs_get o2 e4) o1]; exact e5
  · rw [toDs_get] at hz
    simp only [Option.map_eq_some_iff] at hz
    obtain ⟨u, hu, rfl⟩ := hz
    rw [eqv_toD 60 _ _ (okVs_get o2 hu) o1]
    exact e6 m u hm hu
end
end EV

namespace EV
open PySem PySem.Spec PyProof.Rows L2 RZ RT

/-! ### the operations, closed to unfolding -/
@[irreducible] def wO (o : Op2) : Op2 := o
@[irreducible] def wU (o : Op1) : Op1 := o
@[irreducible] def wN (o : OpN) : OpN := o
@[irreducible] def wM (o : Val → OpN) : Val → OpN := o
@[irreducible] def wT (o : OpSet) : OpSet := o
theorem wO_eq (o : Op2) : wO o = o := by unfold wO; rfl
theorem wU_eq (o : Op1) : wU o = o := by unfold wU; rfl
theorem wN_eq (o : OpN) : wN o = o := by unfold wN; rfl
theorem wM_eq (o : Val → OpN) : wM o = o := by unfold wM; rfl
theorem wT_eq (o : OpSet) : wT o = o := by unfold wT; rfl
theorem OpS.w {G : Gc} {o : Op2} {rr : R2} (h : OpS G o rr) : OpS G (wO o) rr := by rw [wO_eq]; exact h
theorem UnS.w {G : Gc} {o : Op1} {rr : V → Hp → VK → Prop} (h : UnS G o rr) : UnS G (wU o) rr := by rw [wU_eq]; exact h
theorem CbS.w {G : Gc} {o : OpN} {rr : List V → Hp → VK → Prop} (h : CbS G o rr) : CbS G (wN o) rr := by rw [wN_eq]; exact h
theorem MeS.w {G : Gc} {o : Val → OpN} {rr : V → List V → Hp → VK → Prop} (h : MeS G o rr) : MeS G (wM o) rr := by rw [wM_eq]; exact h

theorem _root_.EV.SetS.w {G : Gc} {o : OpSet} {rr : TSet} (h : SetS G o rr) : SetS G (wT o) rr := by rw [wT_eq]; exact h

/-- branches, closed to unfolding -/
@[irreducible] def bI (k : Bool) (a b : Prop) : Prop := if k = true then a else b
theorem bI_eq : bI = fun k a b => if k = true then a else b := by funext k a b; unfold bI; rfl
theorem bI_t (a b : Prop) : bI true a b = a := by unfold bI; rw [if_pos rfl]
theorem bI_f (a b : Prop) : bI false a b = b := by unfold bI; rw [if_neg Bool.false_ne_true]
theorem bI_in {k : Bool} {a b : Prop} (h1 : k = true → a) (h2 : k = false → b) : bI k a b := by
  cases k with
  | true => rw [bI_t]; exact h1 rfl
  | false => rw [bI_f]; exact h2 rfl
@[irreducible] def sForJ (J : Wk) (g : DenG) (b : DenS) : DenS := fun t A D => ∃ Wi : Nat → Nat → Lv → AH → Prop, (∃ m, Wi 0 m t A) ∧ ∀ i m t A, Wi i m t A →
  (J i A = some none ∧ D.nx t A) ∨ (∃ v, J i A = some (some v) ∧ ∃ N : Lv → AH → Prop, (∀ t' A', N t' A' → ∃ m', m' < m ∧ Wi (i + 1) m' t' A') ∧
    g v t A (fun t2 A2 => b t2 A2 ⟨N, D.rt, D.nx, N, D.ex⟩))
@[irreducible] def dLcJ (J : Wk) (tg : Tg) (tt : DenT) (e : Den) (vs : List Nat) (t : Lv) (A1 : AH) (Q : VQ) : Prop := ∃ Wi : Nat → Nat → List Val → AH → Prop, (∃ m, Wi 0 m [] A1) ∧ ∀ i m acc A, Wi i m acc A →
  (J i A = some none ∧ Q (.ref A.length) (A ++ [.lst acc])) ∨ (∃ v t2, J i A = some (some v) ∧ bindT tg v (wipeV t vs) = some t2 ∧ ∃ N : List Val → AH → Prop, (∀ acc' A', N acc' A' → ∃ m', m' < m ∧ Wi (i + 1) m' acc' A') ∧
    tt t2 A (fun b A3 => if b = true then e t2 A3 (fun y A4 => acc.length < sizeLine ∧ N (acc ++ [y]) A4) nox else N acc A3) nox)
def tAndB (a b : DenT) : DenT := fun t A Q E => a t A (fun k A1 => bI k (b t A1 Q E) (Q false A1)) E
def tOrB (a b : DenT) : DenT := fun t A Q E => a t A (fun k A1 => bI k (Q true A1) (b t A1 Q E)) E
def dIfB (c : DenT) (a b : Den) : Den := fun t A Q E => c t A (fun k A1 => bI k (a t A1 Q E) (b t A1 Q E)) E
def dAndB (a b : Den) : Den := fun t A Q E => a t A (fun x A1 => ∃ k, truB A1 x = some k ∧ bI k (b t A1 Q E) (Q x A1)) E
def dOrB (a b : Den) : Den := fun t A Q E => a t A (fun x A1 => ∃ k, truB A1 x = some k ∧ bI k (Q x A1) (b t A1 Q E)) E
def sIfB (c : DenT) (a b : DenS) : DenS := fun t A D => c t A (fun k A1 => bI k (a t A1 D) (b t A1 D)) (fun e A1 => D.ex e t A1)
@[irreducible] def sWhileB (c : DenT) (b : DenS) : DenS := sWhile c b
def sForB (it : DenI) (g : DenG) (b : DenS) : DenS := fun t A D => it t A (fun J A1 => sForJ J g b t A1 D) (fun e A1 => D.ex e t A1)
def dLcB (it : DenI) (tg : Tg) (tt : DenT) (e : Den) (vs : List Nat) : Den := fun t A Q E => it t A (fun J A1 => dLcJ J tg tt e vs t A1 Q) E
def _root_.EV.EndsA.thn (D : EndsA) (b : DenS) : EndsA := ⟨fun t A => b t A D, D.rt, D.bk, D.ct, D.ex⟩
def sSeqB (a b : DenS) : DenS := fun t A D => a t A (D.thn b)
theorem sSeqB_eq : sSeqB = sSeq := rfl
def _root_.EV.EndsA.lp (D : EndsA) (N : Lv → AH → Prop) : EndsA := ⟨N, D.rt, D.nx, N, D.ex⟩
def _root_.EV.EndsA.fn (Q : VQ) (E : XQ) : EndsA := ⟨fun _ A' => Q .non A', Q, fun _ _ => False, fun _ _ => False, fun e _ A' => E e A'⟩
@[irreducible] def kT (t : Lv) (P : Lv → Prop) : Prop := P t
@[irreducible] def kA (A : AH) (o : Ob) (Q : VQ) : Prop := Q (.ref A.length) (A ++ [o])
def gNameB (i : Nat) : DenG := fun v t A Q => kT (t.set i (some v)) fun t' => Q t' A
def sAugB (i : Nat) (o : Op2) (d : Den) : DenS := fun t A D => ∃ x, t[i]? = some (some x) ∧ d t A (fun y A1 => o x y A1 (fun z A2 => kT (t.set i (some z)) fun t' => D.nx t' A2)) (fun e A1 => D.ex e t A1)
def sParB (i j : Nat) (d : DenA) : DenS := fun t A D => d t A (fun vs A1 => ∃ v w, vs = [v, w] ∧ kT ((t.set i (some v)).set j (some w)) fun t' => D.nx t' A1) (fun e A1 => D.ex e t A1)
def dLstB (d : DenA) : Den := fun t A Q E => d t A (fun xs A1 => kA A1 (.lst xs) Q) E
def dNewKB : Den := fun _ A Q _ => kA A (.dk []) Q
def dNewTB : Den := fun _ A Q _ => kA A (.dt []) Q
theorem gNameB_eq : gNameB = EV.gName := by unfold gNameB kT; rfl
theorem sAugB_eq : sAugB = sAug := by unfold sAugB kT; rfl
theorem sParB_eq : sParB = sPar := by unfold sParB kT; rfl
theorem dLstB_eq : dLstB = dLst := by unfold dLstB kA; rfl
theorem tAndB_eq : tAndB = EV.tAnd := by unfold tAndB bI; rfl
theorem tOrB_eq : tOrB = EV.tOr := by unfold tOrB bI; rfl
theorem dIfB_eq : dIfB = dIf := by unfold dIfB bI; rfl
theorem dAndB_eq : dAndB = dAndV := by unfold dAndB bI; rfl
theorem dOrB_eq : dOrB = dOrV := by unfold dOrB bI; rfl
theorem sIfB_eq : sIfB = sIf := by unfold sIfB bI; rfl
theorem sWhileB_eq : sWhileB = sWhile := by funext c b; unfold sWhileB; rfl
theorem sForB_eq : sForB = sFor := by unfold sForB sForJ; rfl
theorem dLcB_eq : dLcB = dLc := by unfold dLcB dLcJ; rfl

/-! ### names -/
def strEq (a b : Str) : Bool := a.cps.toList == b.cps.toList
theorem strEq_iff {a b : Str} : strEq a b = true ↔ a = b := by
  unfold strEq
  rw [beq_iff_eq]
  constructor
  · intro h
    cases a; cases b
    simp only [Str.mk.injEq]
    exact Array.ext' h
  · rintro rfl; rfl
theorem strEq_false {a b : Str} (h : strEq a b = false) : (a == b) = false := by
  rw [beq_eq_false_iff_ne]
  rintro rfl
  rw [strEq_iff.mpr rfl] at h; cases h
def lk : List (Str × NameKind) → Str → Option NameKind
  | [], _ => none
  | (y, k) :: l, x => if strEq x y = true then some k else lk l x
theorem lk_eq : ∀ (l : List (Str × NameKind)) (x : Str), lk l x = l.lookup x
  | [], _ => rfl
  | (y, k) :: l, x => by
    unfold lk
    rw [List.lookup_cons]
    by_cases h : x = y
    · subst h
      rw [if_pos (strEq_iff.mpr rfl)]
      simp
    · rw [if_neg (fun z => h (strEq_iff.mp z)), lk_eq l x]
      have : (x == y) = false := by simpa using h
      rw [this]
def slot : List Str → Str → Option Nat
  | [], _ => none
  | y :: l, x => if strEq x y = true then some 0 else (slot l x).map (· + 1)
theorem slot_ok : ∀ {l : List Str} {x : Str} {i : Nat}, slot l x = some i → l[i]? = some x
  | [], _, _, h => by cases h
  | y :: l, x, i, h => by
    unfold slot at h
    split at h
    · rename_i e
      rw [strEq_iff] at e
      simp only [Option.some.injEq] at h
      subst h; subst e; rfl
    · simp only [Option.map_eq_some_iff] at h
      obtain ⟨j, hj, rfl⟩ := h
      simpa using slot_ok hj
def memS : List Str → Str → Bool
  | [], _ => false
  | y :: l, x => strEq x y || memS l x
theorem memS_iff : ∀ {l : List Str} {x : Str}, memS l x = true → x ∈ l
  | [], _, h => by cases h
  | y :: l, x, h => by
    simp only [memS, Bool.or_eq_true] at h
    rcases h with h | h
    · rw [strEq_iff] at h; subst h; exact List.mem_cons_self
    · exact List.mem_cons_of_mem _ (memS_iff h)

/-! ### what is seen of the text -/
def notStar : Expr → Bool
  | .Starred _ _ => false
  | _ => true
def notSl : Expr → Bool
  | .Slice _ _ _ _ => false
  | _ => true
def notSet : Expr → Bool
  | .Set _ _ _ => false
  | _ => true
def notComp : Expr → Bool
  | .ListComp _ _ _ _ => false
  | .SetComp _ _ _ _ => false
  | .DictComp _ _ _ _ _ => false
  | _ => true
def truOk : Expr → Bool
  | .UnaryOp _ _ _ => false
  | .BoolOp _ _ _ => false
  | .IfExp _ _ _ _ => false
  | .Compare _ _ _ _ => false
  | _ => true
def baseOk : Expr → Bool
  | .Call (.Name _ _) [] [] _ => false
  | _ => true
theorem star_cons {e : Expr} (h : notStar e = true) (es : List Expr) (env : PySem.Env) : starEach (e :: es) env = (false, eval e env) :: starEach es env := by
  cases e <;> first | rfl | cases h
theorem asg_cons {e : Expr} (h : notStar e = true) (es : List Expr) (env : PySem.Env) : assignEach (e :: es) env = (false, assign e env) :: assignEach es env := by
  cases e <;> first | rfl | cases h
theorem plain_any {es : List Expr} (h : es.all notStar = true) (pos : Pos) (env : PySem.Env) : (backTo pos (starEach es env)).any (·.1) = false := by
  induction es with
  | nil => rfl
  | cons e es ih =>
    simp only [List.all_cons, Bool.and_eq_true] at h
    rw [star_cons h.1]
    show (false || (backTo pos (starEach es env)).any (·.1)) = false
    rw [ih h.2]; rfl
theorem plain_all {es : List Expr} (h : es.all notStar = true) (pos : Pos) (env : PySem.Env) : (backTo pos (starEach es env)).all (fun x => !x.1) = true := by
  induction es with
  | nil => rfl
  | cons e es ih =>
    simp only [List.all_cons, Bool.and_eq_true] at h
    rw [star_cons h.1]
    show (true && (backTo pos (starEach es env)).all (fun x => !x.1)) = true
    rw [ih h.2]; rfl
theorem plainIx_of {e : Expr} (h : notSl e = true) : PlainIx e := fun o i => by
  cases e <;> first | rfl | cases h
theorem noFold {e : Expr} (h : notSet e = true) (env : PySem.Env) : ∀ x, foldedSetIterable e env x = pure x := fun x => by
  cases e <;> first | rfl | cases h
theorem noSwap {e : Expr} (h : notComp e = true) (t : Option Expr) (l : Nat) (env : PySem.Env) : swapsWith e t l env = pure false := by
  cases e <;> first | rfl | cases h
theorem isTrue_of {e : Expr} (h : truOk e = true) (env : PySem.Env) : ∀ whole, isTrue e env whole = (do let v ← whole; standAt e.pos; holding [v] (truthy v)) := fun whole => by
  cases e <;> first | rfl | cases h
theorem base_of {e : Expr} (h : baseOk e = true) (m : Str) (env : PySem.Env) : attributeBase e m env (eval e env) = eval e env := by
  unfold attributeBase
  split
  · cases h
  · rfl
theorem few_of {es : List Expr} (h : es.all notStar = true) (hl : es.length < 29) (pos : Pos) (env : PySem.Env) :
    ((backTo pos (starEach es env)).all (fun x => !x.1) && (backToKw pos (keywordEach [] env)).all (fun x => x.1.isSome) && decide (es.length + ([] : List Keyword).length + (if ([] : List Keyword).isEmpty then 0 else 1) < 30)) = true := by
  rw [plain_all h]
  have e : decide (es.length + ([] : List Keyword).length + (if ([] : List Keyword).isEmpty then 0 else 1) < 30) = true := by
    rw [decide_eq_true_eq]
    show es.length + 0 + 0 < 30
    omega
  rw [e]; rfl

/-! ### tables -/
def binO : Operator → Option Op2
  | .Add => some oAdd
  | .Sub => some (oInt (· - ·))
  | .Mult => some oMul
  | .FloorDiv => some (oIntC CDiv (· / ·))
  | .Mod => some (oIntC (fun _ j => 0 < j) (· % ·))
  | .LShift => some (oIntC CPow (fun i j => i * 2 ^ j.toNat))
  | .RShift => some (oIntC (fun _ j => 0 ≤ j) (fun i j => i / 2 ^ j.toNat))
  | .BitAnd => some (oInt Builtin.bitAnd)
  | .BitXor => some (oInt Builtin.bitXor)
  | _ => none
def cmpO : CmpOp → Option Op2
  | .Eq => some (oEq false)
  | .NotEq => some (oEq true)
  | .Lt => some (oOrd (fun i j => decide (i < j)))
  | .LtE => some (oOrd (fun i j => decide (i ≤ j)))
  | .Gt => some (oOrd (fun i j => decide (j < i)))
  | .GtE => some (oOrd (fun i j => decide (j ≤ i)))
  | .Is => some (oIs false)
  | .IsNot => some (oIs true)
  | .In => some (oIn false)
  | .NotIn => some (oIn true)
inductive Cb where
  | len | list | tuple | int | sum | max | min | sorted | isi
def cbOf : List (Str × Nat × Cb) := [("len", 1, .len), ("list", 1, .list), ("tuple", 1, .tuple), ("int", 1, .int), ("sum", 1, .sum), ("max", 1, .max), ("max", 2, .max), ("min", 1, .min), ("min", 2, .min), ("sorted", 1, .sorted), ("isinstance", 2, .isi)]
def Cb.op : Cb → OpN
  | .len => oLen | .list => oList | .tuple => oTuple | .int => oIntC1 | .sum => oSum | .max => oMax | .min => oMin | .sorted => oSorted | .isi => oIsi
def Cb.name : Cb → Str
  | .len => "len" | .list => "list" | .tuple => "tuple" | .int => "int" | .sum => "sum" | .max => "max" | .min => "min" | .sorted => "sorted" | .isi => "isinstance"
def cbFind (l : List (Str × Nat × Cb)) (x : Str) (n : Nat) : Option Cb := match l with
  | [] => none
  | (y, m, c) :: l => if (strEq x y && n == m && strEq c.name y) = true then some c else cbFind l x n
theorem cbFind_name : ∀ {l : List (Str × Nat × Cb)} {x : Str} {n : Nat} {c : Cb}, cbFind l x n = some c → x = c.name
  | [], _, _, _, h => by cases h
  | (y, m, c') :: l, x, n, c, h => by
    unfold cbFind at h
    split at h
    · rename_i e
      simp only [Option.some.injEq] at h
      subst h
      simp only [Bool.and_eq_true] at e
      rw [strEq_iff.mp e.1.1, ← strEq_iff.mp e.2]
    · exact cbFind_name h
def bltNames : List Str := ["len", "list", "tuple", "int", "sum", "max", "min", "sorted", "isinstance", "range", "enumerate", "zip", "reversed", "str", "bool"]
def tyNames : List (Str × String) := [("int", "int"), ("bool", "bool"), ("str", "str"), ("tuple", "tuple"), ("list", "list")]
def tyFind : List (Str × String) → Str → Option String
  | [], _ => none
  | (y, T) :: l, x => if strEq x y = true then some T else tyFind l x
def itNames : List Str := ["range", "enumerate", "zip", "reversed"]
def isTup : Expr → Bool
  | .Tuple _ _ _ => true
  | _ => false
inductive Me where
  | append | extend | pop | reverse | index
def Me.op : Me → Val → OpN
  | .append => mAppend | .extend => mExtend | .pop => mPop | .reverse => mReverse | .index => mIndex
def Me.name : Me → Str
  | .append => "append" | .extend => "extend" | .pop => "pop" | .reverse => "reverse" | .index => "index"
def meOf : List Me := [.append, .extend, .pop, .reverse, .index]
def meFind : List Me → Str → Option Me
  | [], _ => none
  | m :: l, x => if strEq x m.name = true then some m else meFind l x
theorem meFind_name : ∀ {l : List Me} {x : Str} {m : Me}, meFind l x = some m → x = m.name
  | [], _, _, h => by cases h
  | m' :: l, x, m, h => by
    unfold meFind at h
    split at h
    · rename_i e
      simp only [Option.some.injEq] at h
      subst h
      exact strEq_iff.mp e
    · exact meFind_name h

section
variable {G : Gc} {X : Cx}
theorem OpR.or' {f : Value → Value → Sem Value} {r r' : R2} (h : OpR X f r) (h' : OpR X f r') : OpR X f (fun x y H Q => r x y H Q ∨ r' x y H Q) := h.or h'
theorem bin_ok {op : Operator} {o : Op2} (hK : X.K = G.K) (h : binO op = some o) : ∃ rr, OpR X (binaryOp op) rr ∧ OpS G o rr := by
  cases op with
  | Add => simp only [binO, Option.some.injEq] at h; subst h; exact ⟨_, op_add.or (op_add_str.or (op_catA.or op_cat)), addS X.K hK⟩
  | Sub => simp only [binO, Option.some.injEq] at h; subst h; exact ⟨_, op_sub, intS _⟩
  | Mult => simp only [binO, Option.some.injEq] at h; subst h; exact ⟨_, op_mul.or op_rep, mulS⟩
  | Mod => simp only [binO, Option.some.injEq] at h; subst h; exact ⟨_, op_mod, intCS _ _⟩
  | LShift => simp only [binO, Option.some.injEq] at h; subst h; exact ⟨_, op_shl, intCS _ _⟩
  | RShift => simp only [binO, Option.some.injEq] at h; subst h; exact ⟨_, op_shr, intCS _ _⟩
  | BitXor => simp only [binO, Option.some.injEq] at h; subst h; exact ⟨_, op_xor, intS _⟩
  | BitAnd => simp only [binO, Option.some.injEq] at h; subst h; exact ⟨_, op_and, intS _⟩
  | FloorDiv => simp only [binO, Option.some.injEq] at h; subst h; exact ⟨_, op_fdiv, intCS _ _⟩
  | _ => simp [binO] at h
theorem cmp_ok {op : CmpOp} {o : Op2} (hK : X.K = G.K) (hu : X.A.units + 65 < cLine) (h : cmpO op = some o) : ∃ rr, OpR X (compareOp op) rr ∧ OpS G o rr := by
  cases op <;> simp only [cmpO, Option.some.injEq] at h <;> subst h
  · exact ⟨_, op_eqB (by omega), hK ▸ eqS false⟩
  · exact ⟨_, op_neB (by omega), hK ▸ eqS true⟩
  · exact ⟨_, op_lt, ordS _⟩
  · exact ⟨_, op_le, ordS _⟩
  · exact ⟨_, op_gt, ordS _⟩
  · exact ⟨_, op_ge, ordS _⟩
  · exact ⟨_, op_isB, isS false⟩
  · exact ⟨_, op_isnB, isS true⟩
  · exact ⟨_, op_inB hu, hK ▸ inS false⟩
  · exact ⟨_, op_notInB hu, hK ▸ inS true⟩
/-- how a built-in is called -/
def CbR (X : Cx) (x : Str) (r : List V → Hp → VK → Prop) : Prop := (∃ id, bootBuiltins x = some (.builtin id) ∧ CallR X (.builtin id) r) ∨ (∃ T, bootBuiltins x = some (.type T) ∧ CallR X (.type T) r)
theorem cb_ok (hK : X.K = G.K) (hc : X.calm = true) (c : Cb) : ∃ rr, CbR X c.name rr ∧ CbS G c.op rr := by
  cases c with
  | len => exact ⟨_, .inl ⟨_, PySem.boot_len, call_len.or call_lenD⟩, hK ▸ lenS⟩
  | list => exact ⟨_, .inr ⟨_, boot_list, call_list_of⟩, listS X.K hK⟩
  | tuple => exact ⟨_, .inr ⟨_, boot_tuple, call_tuple_of⟩, tupleS X.K hK⟩
  | int => exact ⟨_, .inr ⟨_, boot_int, call_int1⟩, intcS⟩
  | sum => exact ⟨_, .inl ⟨_, by decide +kernel, cr_sum hc⟩, hK ▸ sumS⟩
  | max => exact ⟨_, .inl ⟨_, boot_max, (cr_max hc).or (call_max2 hc)⟩, hK ▸ maxS⟩
  | min => exact ⟨_, .inl ⟨_, by decide +kernel, (cr_min hc).or (call_min2 hc)⟩, hK ▸ minS⟩
  | sorted => exact ⟨_, .inl ⟨_, boot_sorted, cr_sortedI⟩, hK ▸ sortedS⟩
  | isi => exact ⟨_, .inl ⟨_, boot_isinstance, call_isi⟩, hK ▸ isiS⟩
/-- what a method's call asks -/
structure MtK (G : Gc) (X : Cx) (name : Str) (ty : Val → AH → Prop) (o : Val → OpN) where
  T : String
  id : String
  rr : V → List V → Hp → VK → Prop
  pa : PlainAttrs T
  sl : Slot T name id
  td : typeOf (.builtin id) = pure (.type "method_descriptor")
  mt : MtR X id rr
  ms : MeS G o rr
  ht : ∀ r A H v x, HRel G.K r A H → Rep G.K r H v x → ty v A → tyV G.K T x H
theorem MtK.w0 {name : Str} {ty : Val → AH → Prop} {o : Val → OpN} (k : MtK G X name ty o) : Nonempty (MtK G X name ty (wM o)) := ⟨⟨k.T, k.id, k.rr, k.pa, k.sl, k.td, k.mt, k.ms.w, k.ht⟩⟩
def Me.ty : Me → Val → AH → Prop := fun _ => tyL
theorem me_ok (hK : X.K = G.K) (hu : X.A.units + 65 < cLine) (m : Me) : Nonempty (MtK G X m.name m.ty m.op) := by
  cases m with
  | append => exact ⟨_, _, _, PySem.F.plainAttrs_list, PySem.F.slot_list_append, PySem.F.type_list_append, mt_append, appendS, tyL_ok⟩
  | extend => exact ⟨_, _, _, PySem.F.plainAttrs_list, PySem.F.slot_list_extend, PySem.F.type_list_extend, mt_extend, extendS, tyL_ok⟩
  | pop => exact ⟨_, _, _, PySem.F.plainAttrs_list, PySem.F.slot_list_pop, PySem.F.type_list_pop, MtR.or mt_pop mt_popAt, popS, tyL_ok⟩
  | reverse => exact ⟨_, _, _, PySem.F.plainAttrs_list, PySem.F.slot_list_reverse, PySem.F.type_list_reverse, mt_reverse, reverseS, tyL_ok⟩
  | index => exact ⟨_, _, _, PySem.F.plainAttrs_list, PySem.F.slot_list_index, PySem.F.type_list_index, mt_indexD hu, hK ▸ indexS, tyL_ok⟩
end

/-! ### the checker -/
structure FI where
  name : Str
  lev : Nat
  fn : FDen
structure Ctx where
  N : List Str
  sc : Scope
  funs : List FI
  /-- the places of the empty displays that are to be dicts with tuple keys -/
  dt : List (Nat × Nat)
def fiFind : List FI → Str → Option FI
  | [], _ => none
  | f :: l, x => if strEq x f.name = true then some f else fiFind l x
theorem fiFind_mem : ∀ {l : List FI} {x : Str} {f : FI}, fiFind l x = some f → f ∈ l ∧ x = f.name
  | [], _, _, h => by cases h
  | g :: l, x, f, h => by
    unfold fiFind at h
    split at h
    · rename_i e
      simp only [Option.some.injEq] at h
      subst h
      exact ⟨List.mem_cons_self, strEq_iff.mp e⟩
    · obtain ⟨h1, h2⟩ := fiFind_mem h
      exact ⟨List.mem_cons_of_mem _ h1, h2⟩
def visB (sc : Scope) (x : Str) : Bool := match lk sc.names x with
  | some .local => true
  | some .cell => true
  | some .free => true
  | _ => false
def locB (sc : Scope) (x : Str) : Bool := match lk sc.names x with
  | some .local => true
  | some .cell => true
  | _ => false
def locOnly (sc : Scope) (x : Str) : Bool := match lk sc.names x with
  | some .local => true
  | _ => false
def glB (sc : Scope) (x : Str) : Bool := match lk sc.names x with
  | some .globalImplicit => true
  | _ => false
def okName (x : Str) : Bool := !(strEq x "__debug__") && !(strEq x "__classdict__") && !(strEq x "__name__")
/-- the block's own names with their places -/
def ownOf (N : List Str) : List (Str × NameKind) → List (Str × Nat)
  | [] => []
  | (x, k) :: l => match k, slot N x with
    | .local, some i => (x, i) :: ownOf N l
    | .cell, some i => (x, i) :: ownOf N l
    | _, _ => ownOf N l
def tgSlots (N : List Str) (scope : Scope) : List Expr → Option (List Nat)
  | [] => some []
  | .Name x _ :: es => if (locB scope x) = true then (slot N x).bind fun i => (tgSlots N scope es).map fun l => i :: l else none
  | _ => none
def compTg (N : List Str) (scope : Scope) : Expr → Option Tg
  | .Name x _ => if (locB scope x) = true then (slot N x).map .one else none
  | .Tuple es _ _ => (tgSlots N scope es).map .tup
  | _ => none
def ownIx (N : List Str) (l : List (Str × NameKind)) : List Nat := (ownOf N l).map (·.2)
def natIn (l : List Nat) (i : Nat) : Bool := l.any fun j => j == i
def oNeg : Op1 := fun x A Q => match x with
  | .int i => Q (.int (-i)) A
  | _ => False
def dNewK : Den := fun _ A Q _ => Q (.ref A.length) (A ++ [.dk []])
def dNewT : Den := fun _ A Q _ => Q (.ref A.length) (A ++ [.dt []])
theorem dNewKB_eq : dNewKB = dNewK := by unfold dNewKB kA; rfl
theorem dNewTB_eq : dNewTB = dNewT := by unfold dNewTB kA; rfl
mutual
def comp : Nat → Ctx → Expr → Option Den
  | 0, _, _ => none
  | n + 1, C, e => match e with
    | .Name x _ => if okName x = true then (if visB C.sc x = true then (slot C.N x).map dVar else if (glB C.sc x && memS bltNames x) = true then (tyFind tyNames x).map fun T => dLit (.ty T) else none) else none
    | .Constant (.int i) _ _ => some (dLit (.int i))
    | .Constant (.str x) _ _ => some (dLit (.str x))
    | .Constant (.bool b) _ _ => some (dLit (.bl b))
    | .Constant .none _ _ => some (dLit .non)
    | .BinOp a op b _ => (binO op).bind fun o => (comp n C a).bind fun da => (comp n C b).map fun db => dOp (wO o) da db
    | .UnaryOp .USub a _ => (comp n C a).map fun da => dUn (wU oNeg) da
    | .UnaryOp .Not a _ => (comp n C a).map fun da => dNotV da
    | .Compare a [op] [b] _ => if notSet b = true then (cmpO op).bind fun o => (comp n C a).bind fun da => (comp n C b).map fun db => dOp (wO o) da db else none
    | .BoolOp _ [a] _ => comp n C a
    | .BoolOp .And (a :: b :: es) pos => (comp n C a).bind fun da => (comp n C (.BoolOp .And (b :: es) pos)).map fun db => dAndB da db
    | .BoolOp .Or (a :: b :: es) pos => (comp n C a).bind fun da => (comp n C (.BoolOp .Or (b :: es) pos)).map fun db => dOrB da db
    | .IfExp c a b _ => (compT n C c).bind fun dc => (comp n C a).bind fun da => (comp n C b).map fun db => dIfB dc da db
    | .Tuple es _ _ => if decide (es.length ≤ 1000) = true then (compA n C es).map dTup else none
    | .List es _ => if decide (es.length ≤ 1000) = true then (compA n C es).map dLstB else none
    | .Dict [] [] pos => some (if (C.dt.any fun p => p.1 == pos.line && p.2 == pos.col) = true then dNewTB else dNewKB)
    | .Subscript a (.Slice lo hi none _) _ => (comp n C a).bind fun da => (compO n C lo).bind fun dl => (compO n C hi).map fun dh => dSl da dl dh
    | .Subscript a i _ => if notSl i = true then (comp n C a).bind fun da => (comp n C i).map fun di => dOp (wO oIx) da di else none
    | .Call (.Name x _) (e :: es) [] _ => if (okName x && glB C.sc x && (e :: es).all notStar) = true then (compA n C (e :: es)).bind fun da =>
        match fiFind C.funs x with
        | some f => some (dCall f.fn da)
        | none => if memS bltNames x = true then (cbFind cbOf x (e :: es).length).map fun c => dCB (wN c.op) da else none else none
    | .Call (.Attribute o m apos) (e :: es) [] cpos => if (baseOk o && (e :: es).all notStar && decide ((e :: es).length < 29) && (apos.endLine == cpos.line)) = true then
        (meFind meOf m).bind fun k => (comp n C o).bind fun d => (compA n C (e :: es)).map fun da => dMe (wM k.op) k.ty d da else none
    | .Call (.Attribute o m apos) [] [] cpos => if (baseOk o && (apos.endLine == cpos.line)) = true then
        (meFind meOf m).bind fun k => (comp n C o).map fun d => dMe (wM k.op) k.ty d aNil else none
    | .ListComp elt [⟨tg, iter, ifs, 0⟩] scope _ => compL n C elt tg iter ifs scope
    | _ => none
def compL : Nat → Ctx → Expr → Expr → Expr → List Expr → Scope → Option Den
  | 0, _, _, _, _, _, _ => none
  | n + 1, C, elt, tg, iter, ifs, scope => (compTg C.N scope tg).bind fun g =>
    if (blkC C.N C.sc scope (ownOf C.N scope.names) && (g.slots.all fun i => natIn (ownIx C.N scope.names) i) && notSet iter) = true then
      (compI n C tg iter).bind fun it => (match ifs with
        | [] => some tYesV
        | [c] => compT n { C with sc := relS scope C.sc } c
        | _ => none).bind fun tt => (comp n { C with sc := relS scope C.sc } elt).map fun d => dLcB it g tt d (ownIx C.N scope.names)
    else none
def compT : Nat → Ctx → Expr → Option DenT
  | 0, _, _ => none
  | n + 1, C, e => match e with
    | .UnaryOp .Not a _ => (compT n C a).map EV.tNot
    | .BoolOp op es pos => compW n C op es
    | .Compare a [op] [b] _ => if notSet b = true then (cmpO op).bind fun o => (comp n C a).bind fun da => (comp n C b).map fun db => tVal (dOp (wO o) da db) else none
    | e => if truOk e = true then (comp n C e).map tTru else none
def compW : Nat → Ctx → BoolOp → List Expr → Option DenT
  | 0, _, _, _ => none
  | n + 1, C, op, es => match es with
    | [a] => compT n C a
    | a :: b :: es => (compT n C a).bind fun ta => (compW n C op (b :: es)).map fun tb => match op with
      | .And => tAndB ta tb
      | .Or => tOrB ta tb
    | [] => none
def compA : Nat → Ctx → List Expr → Option DenA
  | 0, _, _ => none
  | n + 1, C, es => match es with
    | [] => some aNil
    | e :: es => if notStar e = true then (comp n C e).bind fun d => (compA n C es).map fun da => aCons d da else none
def compO : Nat → Ctx → Option Expr → Option DenO
  | 0, _, _ => none
  | n + 1, C, e => match e with
    | none => some pNo
    | some e => (comp n C e).map pSo
def compI : Nat → Ctx → Expr → Expr → Option DenI
  | 0, _, _, _ => none
  | n + 1, C, tg, e => match e with
    | .Call (.Name x p) es [] pos => if (okName x && glB C.sc x && memS itNames x && es.all notStar) = true then
        (match es with
        | [a] => if strEq x "range" = true then (compA n C [a]).map EV.iRng1 else if strEq x "reversed" = true then (comp n C a).map EV.iRev else if (strEq x "enumerate" && isTup tg) = true then (compA n C [a]).map EV.iEnum else none
        | [a, b] => if strEq x "range" = true then (compA n C [a, b]).map EV.iRng2 else if (strEq x "zip" && isTup tg) = true then (compA n C [a, b]).map EV.iZip else none
        | [a, b, c] => if strEq x "range" = true then (compA n C [a, b, c]).map EV.iRng3 else none
        | _ => none) else (comp n C (.Call (.Name x p) es [] pos)).map iVal
    | e => (comp n C e).map iVal
end
end EV

namespace EV
open PySem PySem.Spec PyProof.Rows L2 RZ RT

structure FOk (G : Gc) (X : Cx) (fi : FI) : Prop where
  ex : ∃ f fd ps, X.mg fi.name = some (.ref f) ∧ FnOk X.prog X.w X.K X.mg X.base (L2.CX X.prog X.w) fi.lev f fd ps (SpF G fi.fn) ∧ PySem.W.keepIn X.K (.ref f) = true ∧ Binds X.K fd ps []
  mono : MonoF fi.fn
structure Good (G : Gc) (C : Ctx) (lev : Nat) (X : Cx) : Prop where
  K : X.K = G.K
  calm : X.calm = true
  nd : X.N.Nodup
  N : X.N = C.N
  sc : X.env.scope = C.sc
  room : Room lev X.A
  levs : ∀ fi ∈ C.funs, fi.lev ≤ lev
  blt : ∀ x ∈ bltNames, X.mg x = none
  funs : ∀ fi ∈ C.funs, FOk G X fi
section
variable {G : Gc} {C : Ctx} {lev : Nat} {X : Cx}
theorem Good.hu (g : Good G C lev X) : X.A.units + 65 < cLine := by
  have := g.room.un
  omega
theorem Good.vis (g : Good G C lev X) {x : Str} (h : visB C.sc x = true) : Vis X.env.scope x := by
  unfold visB at h
  rw [g.sc]
  unfold Vis
  rw [lk_eq] at h
  split at h
  · exact .inl (by assumption)
  · exact .inr (.inl (by assumption))
  · exact .inr (.inr (by assumption))
  · cases h
theorem Good.loc (g : Good G C lev X) {x : Str} (h : locB C.sc x = true) : Loc X.env.scope x := by
  unfold locB at h
  rw [g.sc]
  unfold L2.Loc
  rw [lk_eq] at h
  split at h
  · exact .inl (by assumption)
  · exact .inr (by assumption)
  · cases h
theorem Good.gl (g : Good G C lev X) {x : Str} (h : glB C.sc x = true) : Gl X x := by
  unfold glB at h
  rw [lk_eq] at h
  show X.env.scope.names.lookup x = _
  rw [g.sc]
  split at h
  · assumption
  · cases h
theorem okName_d {x : Str} (h : okName x = true) : (x == ("__debug__" : Str)) = false ∧ (x == ("__classdict__" : Str)) = false ∧ x ≠ "__name__" := by
  unfold okName at h
  simp only [Bool.and_eq_true, Bool.not_eq_true'] at h
  refine ⟨strEq_false h.1.1, strEq_false h.1.2, fun e => ?_⟩
  have := strEq_false h.2
  rw [e] at this
  simp at this
theorem Good.blk (g : Good G C lev X) (s : Shared) (H : Hp) (scope : Scope) (Ca : Addr) (cl : List (Str × Addr)) (fp : List Addr) :
    Good G { C with sc := relS scope C.sc } lev (X.blk s H scope (compEnvC scope cl Ca X.env) fp) := by
  refine ⟨g.K, g.calm, g.nd, g.N, ?_, g.room, g.levs, g.blt, fun fi hf => ?_⟩
  · show relabel scope X.env = relS scope C.sc
    rw [← g.sc]
    rfl
  · obtain ⟨e, m⟩ := g.funs fi hf
    exact ⟨e, m⟩
theorem noMarks {e : Expr} (h : notSet e = true) {op : CmpOp} : behindInMarks op e = false := by
  cases e <;> first | rfl | cases h
theorem negS : UnS G oNeg (rU fun i => .int (-i)) := by
  refine ⟨fun x A Q Q' h q => ?_, fun r A H v x Q R p q => ?_⟩
  · unfold oNeg at q ⊢
    split at q
    · exact h _ _ q
    · exact q
  · unfold oNeg at q
    split at q
    · rw [rep_int p]
      exact ⟨_, rfl, kv_int R q⟩
    · exact q.elim
theorem mono_newK : Mono dNewK := fun t A Q Q' E E' h k q => h _ _ q
theorem mono_newT : Mono dNewT := fun t A Q Q' E E' h k q => h _ _ q
theorem se_newK {pos : Pos} : SE G X (.Dict [] [] pos) dNewK := fun W tk => pe_dnewK.wk fun s H Q ⟨r, A, t, R, S, h⟩ => fun p hp => by
  have E := ext_alloc (ho := .dK []) hp (R.fresh hp)
  refine h (r ++ [p]) _ _ E (R.alloc hp ⟨[], upd_same, RKV.nil_iff.mpr rfl⟩) ?_
  simp only [Rep]
  exact ⟨p, by rw [R.len, List.getElem?_append_right (Nat.le_refl _)]; simp, rfl⟩
theorem se_newT {pos : Pos} : SE G X (.Dict [] [] pos) dNewT := fun W tk => pe_dnewT.wk fun s H Q ⟨r, A, t, R, S, h⟩ => fun p hp => by
  have E := ext_alloc (ho := .dT []) hp (R.fresh hp)
  refine h (r ++ [p]) _ _ E (R.alloc hp ⟨[], upd_same, RKV.nil_iff.mpr rfl⟩) ?_
  simp only [Rep]
  exact ⟨p, by rw [R.len, List.getElem?_append_right (Nat.le_refl _)]; simp, rfl⟩
theorem se_cb {a : Expr} {es : List Expr} {x : Str} {p pos : Pos} {o : OpN} {rr : List V → Hp → VK → Prop} {aa : DenA} (h : CbR X x rr) (hs : CbS G o rr) (hg : Gl X x) (hm : X.mg x = none) (ma : MonoA aa) (ha : SA G X (a :: es) aa) (hn : x ≠ "__name__") (hdb : (x == ("__debug__" : Str)) = false)
    (he : starEach (a :: es) X.env = (false, eval a X.env) :: starEach es X.env) (hpl : (backTo pos (starEach es X.env)).any (·.1) = false) : SE G X (.Call (.Name x p) (a :: es) [] pos) (dCB o aa) := fun W tk => by
  rcases h with ⟨id, hv, hc⟩ | ⟨T, hv, hc⟩
  · exact (pe_callB hc hg hm hv (ha W tk) hn hdb he hpl).wk fun s H Q h => cb_red hs ma h
  · exact (pe_callTy hc hg hm hv (ha W tk) hn hdb he hpl).wk fun s H Q h => cb_red hs ma h
theorem se_me {o e : Expr} {es : List Expr} {name : Str} {apos cpos : Pos} {ty : Val → AH → Prop} {op : Val → OpN} {d : Den} {aa : DenA} (hK : X.K = G.K) (k : MtK G X name ty op) (md : Mono d) (ma : MonoA aa) (ho : SE G X o d) (ha : SA G X (e :: es) aa)
    (hbase : attributeBase o name X.env (eval o X.env) = eval o X.env)
    (hfew : ((backTo cpos (starEach (e :: es) X.env)).all (fun x => !x.1) && (backToKw cpos (keywordEach [] X.env)).all (fun x => x.1.isSome)
      && decide ((e :: es).length + ([] : List Keyword).length + (if ([] : List Keyword).isEmpty then 0 else 1) < 30)) = true)
    (hline : (apos.endLine == cpos.line) = true) (hs : starEach (e :: es) X.env = (false, eval e X.env) :: starEach es X.env) (hpl : (backTo cpos (starEach es X.env)).any (·.1) = false) :
    SE G X (.Call (.Attribute o name apos) (e :: es) [] cpos) (dMe op ty d aa) := fun W tk =>
  (pe_bm k.pa k.sl k.td k.mt (ho W tk) (ha W tk) hbase hfew hline hs hpl).wk fun s H Q h => by
    rw [hK]
    exact me_red k.ms k.ht md ma h
theorem se_me0 {o : Expr} {name : Str} {apos cpos : Pos} {ty : Val → AH → Prop} {op : Val → OpN} {d : Den} (hK : X.K = G.K) (k : MtK G X name ty op) (md : Mono d) (ho : SE G X o d)
    (hbase : attributeBase o name X.env (eval o X.env) = eval o X.env) (hline : (apos.endLine == cpos.line) = true) :
    SE G X (.Call (.Attribute o name apos) [] [] cpos) (dMe op ty d aNil) := fun W tk =>
  (pe_bm0 k.pa k.sl k.td k.mt (ho W tk) hbase hline).wk fun s H Q ⟨r, A, t, R, S, h⟩ => by
    rw [hK]
    refine ⟨r, A, t, R, S, md _ _ _ _ _ _ (fun x A1 q r1 H1 xv E1 R1 p1 => ?_) (fun _ _ h => h) h⟩
    exact ⟨k.ht r1 A1 H1 x xv R1 p1 q.1, k.ms.sim r1 A1 H1 x xv [] [] Q R1 p1 (Reps.nil_iff.mpr rfl) (k.ms.mono _ _ _ _ _ (fun v A' h => kv_up E1 h) q.2)⟩
theorem tyFind_mem : ∀ {l : List (Str × String)} {x : Str} {T : String}, tyFind l x = some T → (x, T) ∈ l
  | [], _, _, h => by cases h
  | (y, T') :: l, x, T, h => by
    unfold tyFind at h
    split at h
    · rename_i e
      simp only [Option.some.injEq] at h
      subst h
      rw [strEq_iff.mp e]
      exact List.mem_cons_self
    · exact List.mem_cons_of_mem _ (tyFind_mem h)
theorem ty_boot {x : Str} {T : String} (h : (x, T) ∈ tyNames) : bootBuiltins x = some (.type T) := by
  simp only [tyNames, List.mem_cons, Prod.mk.injEq, List.not_mem_nil, or_false] at h
  rcases h with ⟨rfl, rfl⟩ | ⟨rfl, rfl⟩ | ⟨rfl, rfl⟩ | ⟨rfl, rfl⟩ | ⟨rfl, rfl⟩
  · exact boot_int
  · exact boot_bool
  · exact boot_str
  · exact boot_tuple
  · exact boot_list
theorem ty_blt {x : Str} {T : String} (h : (x, T) ∈ tyNames) : x ∈ bltNames := by
  simp only [tyNames, List.mem_cons, Prod.mk.injEq, List.not_mem_nil, or_false] at h
  rcases h with ⟨rfl, rfl⟩ | ⟨rfl, rfl⟩ | ⟨rfl, rfl⟩ | ⟨rfl, rfl⟩ | ⟨rfl, rfl⟩ <;> simp [bltNames]
theorem natIn_mem {l : List Nat} {i : Nat} (h : natIn l i = true) : i ∈ l := by
  unfold natIn at h
  rw [List.any_eq_true] at h
  obtain ⟨j, hj, e⟩ := h
  simp only [beq_iff_eq] at e
  subst e; exact hj
/-- a comprehension's target -/
theorem locB_blk {scope sc : Scope} {x : Str} (h : locB scope x = true) : (scope.names.lookup x = some .local ∨ scope.names.lookup x = some .cell) ∧ Loc (relS scope sc) x := by
  unfold locB at h
  rw [lk_eq] at h
  split at h
  · rename_i e
    exact ⟨.inl e, .inl (lookup_relS_keep (by decide) e)⟩
  · rename_i e
    exact ⟨.inr e, .inr (lookup_relS_keep (by decide) e)⟩
  · cases h
theorem pg_blk (g : Good G C lev X) {scope : Scope} {s : Shared} {H : Hp} {Ca : Addr} {cl : List (Str × Addr)} {fp : List Addr} {x : Str} {p : Pos} {i : Nat} (h : locB scope x = true) (hi : slot C.N x = some i) :
    PG (X.blk s H scope (compEnvC scope cl Ca X.env) fp) (.Name x p) (L2.gName i) := by
  obtain ⟨h1, h2⟩ := locB_blk (sc := C.sc) h
  have gb := g.blk s H scope Ca cl fp
  refine pg_name gb.nd (by rw [gb.N]; exact slot_ok hi) (by rw [gb.sc]; exact h2) ?_
  rcases h1 with h1 | h1
  · exact .inr (by rw [gb.sc]; exact lookup_relS_keep (by decide) h1)
  · left
    show (scope.names.lookup x == some .cell) = true
    rw [h1]; rfl
theorem pgs_blk (g : Good G C lev X) {scope : Scope} {s : Shared} {H : Hp} {Ca : Addr} {cl : List (Str × Addr)} {fp : List Addr} : ∀ {es : List Expr} {l : List Nat}, tgSlots C.N scope es = some l →
    PGs (X.blk s H scope (compEnvC scope cl Ca X.env) fp) es (gsOf l) ∧ (assignEach es (compEnvC scope cl Ca X.env)).length = l.length ∧ (assignEach es (compEnvC scope cl Ca X.env)).findIdx? (·.1) = none
  | [], l, h => by
    simp only [tgSlots, Option.some.injEq] at h
    subst h
    exact ⟨pgs_nil, rfl, rfl⟩
  | .Name x p :: es, l, h => by
    simp only [tgSlots] at h
    split at h
    · rename_i hl
      simp only [Option.bind_eq_some_iff, Option.map_eq_some_iff] at h
      obtain ⟨i, hi, m, hm, rfl⟩ := h
      obtain ⟨h1, h2, h3⟩ := pgs_blk g hm
      refine ⟨pgs_cons (pg_blk g hl hi) h1 rfl, ?_, ?_⟩
      · show ((false, _) :: assignEach es _).length = _
        rw [List.length_cons, h2]; rfl
      · show ((false, _) :: assignEach es _).findIdx? (·.1) = none
        rw [List.findIdx?_cons]
        simp [h3]
    · cases h
  | .BoolOp _ _ _ :: _, _, h | .NamedExpr _ _ _ :: _, _, h | .BinOp _ _ _ _ :: _, _, h | .UnaryOp _ _ _ :: _, _, h | .Lambda _ _ _ _ :: _, _, h | .IfExp _ _ _ _ :: _, _, h | .Dict _ _ _ :: _, _, h | .Set _ _ _ :: _, _, h
  | .ListComp _ _ _ _ :: _, _, h | .SetComp _ _ _ _ :: _, _, h | .DictComp _ _ _ _ _ :: _, _, h | .GeneratorExp _ _ _ _ :: _, _, h | .Await _ _ :: _, _, h | .Yield _ _ :: _, _, h | .YieldFrom _ _ :: _, _, h | .Compare _ _ _ _ :: _, _, h
  | .Call _ _ _ _ :: _, _, h | .FormattedValue _ _ _ _ :: _, _, h | .JoinedStr _ _ :: _, _, h | .Constant _ _ _ :: _, _, h | .Attribute _ _ _ :: _, _, h | .Subscript _ _ _ :: _, _, h | .Starred _ _ :: _, _, h | .List _ _ :: _, _, h
  | .Tuple _ _ _ :: _, _, h | .Slice _ _ _ _ :: _, _, h => by simp [tgSlots] at h
theorem pgt_blk (g : Good G C lev X) {scope : Scope} {s : Shared} {H : Hp} {Ca : Addr} {cl : List (Str × Addr)} {fp : List Addr} {tg : Expr} {k : Tg} (h : compTg C.N scope tg = some k) :
    PG (X.blk s H scope (compEnvC scope cl Ca X.env) fp) tg (gOf G.K k) := by
  unfold compTg at h
  split at h
  · split at h
    · rename_i hl
      simp only [Option.map_eq_some_iff] at h
      obtain ⟨i, hi, rfl⟩ := h
      exact pg_blk g hl hi
    · cases h
  · simp only [Option.map_eq_some_iff] at h
    obtain ⟨l, hl, rfl⟩ := h
    obtain ⟨h1, h2, h3⟩ := pgs_blk (s := s) (H := H) (Ca := Ca) (cl := cl) (fp := fp) g hl
    rw [← g.K]
    exact pg_tup g.calm h1 h2 h3
  · cases h
/-- all of a comprehension's parts -/
structure LcD (G : Gc) (X : Cx) (elt tg iter : Expr) (ifs : List Expr) (scope : Scope) (own : List (Str × Nat)) (it : DenI) (k : Tg) (tt : DenT) (d : Den) : Prop where
  mi : MonoI it
  mt : MonoT tt
  me : Mono d
  si : SI G X tg iter it
  ok : BlkOk X.N X.env.scope scope own
  sl : ∀ i ∈ k.slots, i ∈ own.map (·.2)
  hg : ∀ (s : Shared) (H : Hp) (C : Addr) (cl : List (Str × Addr)) (fp : List Addr), PG (X.blk s H scope (compEnvC scope cl C X.env) fp) tg (gOf G.K k)
  ht : ∀ (s : Shared) (H : Hp) (C : Addr) (cl : List (Str × Addr)) (fp : List Addr), STs G (X.blk s H scope (compEnvC scope cl C X.env) fp) ifs tt
  he : ∀ (s : Shared) (H : Hp) (C : Addr) (cl : List (Str × Addr)) (fp : List Addr), SE G (X.blk s H scope (compEnvC scope cl C X.env) fp) elt d
  hs : ∀ x, foldedSetIterable iter X.env x = pure x
def bop (op : BoolOp) (a b : DenT) : DenT := match op with
  | .And => tAndB a b
  | .Or => tOrB a b
structure Snd (G : Gc) (n : Nat) : Prop where
  e : ∀ C lev X e d, Good G C lev X → comp n C e = some d → Mono d ∧ SE G X e d
  l : ∀ C lev X elt tg iter ifs scope d, Good G C lev X → compL n C elt tg iter ifs scope = some d → ∃ it k tt d', d = dLcB it k tt d' (ownIx C.N scope.names) ∧ LcD G X elt tg iter ifs scope (ownOf C.N scope.names) it k tt d'
  t : ∀ C lev X e d, Good G C lev X → compT n C e = some d → MonoT d ∧ ST G X e d
  w : ∀ C lev X op es pos d, Good G C lev X → compW n C op es = some d → MonoT d ∧ SW G X (.BoolOp op es pos) d
  a : ∀ C lev X es d, Good G C lev X → compA n C es = some d → MonoA d ∧ LenA d es.length ∧ SA G X es d ∧ es.all notStar = true
  o : ∀ C lev X e d, Good G C lev X → compO n C e = some d → MonoO d ∧ SO G X e d
  i : ∀ C lev X tg e d, Good G C lev X → compI n C tg e = some d → MonoI d ∧ SI G X tg e d
end
theorem snd_e {G : Gc} {n : Nat} (ih : Snd G n) (C : Ctx) (lev : Nat) (X : Cx) (e : Expr) (d : Den) (g : Good G C lev X) (h : comp (n + 1) C e = some d) : Mono d ∧ SE G X e d := by
  unfold comp at h
  split at h
  · -- Name
    split at h
    · rename_i hn
      obtain ⟨n1, n2, n3⟩ := okName_d hn
      split at h
      · rename_i hv
        simp only [Option.map_eq_some_iff] at h
        obtain ⟨i, hi, rfl⟩ := h
        exact ⟨mono_var i, se_var (by rw [g.N]; exact slot_ok hi) (g.vis hv) n1 n2⟩
      · split at h
        · rename_i hv
          simp only [Bool.and_eq_true] at hv
          simp only [Option.map_eq_some_iff] at h
          obtain ⟨T, hT, rfl⟩ := h
          have hm := tyFind_mem hT
          exact ⟨mono_lit _, se_lit (pe_bltn (g.gl hv.1) (g.blt _ (ty_blt hm)) (ty_boot hm) (v := .ty T) rfl n3 n1) fun r H => by simp only [Rep]⟩
        · cases h
    · cases h
  · simp only [Option.some.injEq] at h; subst h; exact ⟨mono_lit _, se_lit pe_int fun r H => by simp only [Rep]⟩
  · simp only [Option.some.injEq] at h; subst h; exact ⟨mono_lit _, se_lit pe_str fun r H => by simp only [Rep]⟩
  · simp only [Option.some.injEq] at h; subst h; exact ⟨mono_lit _, se_lit pe_bl fun r H => by simp only [Rep]⟩
  · simp only [Option.some.injEq] at h; subst h; exact ⟨mono_lit _, se_lit pe_non fun r H => by simp only [Rep]⟩
  · -- BinOp
    simp only [Option.bind_eq_some_iff, Option.map_eq_some_iff] at h
    obtain ⟨o, ho, da, ha, db, hb, rfl⟩ := h
    obtain ⟨rr, h1, h2⟩ := bin_ok g.K ho
    obtain ⟨ma, sa⟩ := ih.e _ _ _ _ _ g ha
    obtain ⟨mb, sb⟩ := ih.e _ _ _ _ _ g hb
    exact ⟨mono_op h2.w.mono ma mb, se_op h1 h2.w ma mb sa sb⟩
  · simp only [Option.map_eq_some_iff] at h
    obtain ⟨da, ha, rfl⟩ := h
    obtain ⟨ma, sa⟩ := ih.e _ _ _ _ _ g ha
    exact ⟨mono_un (negS (G := G)).w.mono ma, se_un un_neg negS.w ma sa⟩
  · simp only [Option.map_eq_some_iff] at h
    obtain ⟨da, ha, rfl⟩ := h
    obtain ⟨ma, sa⟩ := ih.e _ _ _ _ _ g ha
    exact ⟨mono_notv ma, se_not g.K ma sa⟩
  · -- Compare
    split at h
    · rename_i hs
      simp only [Option.bind_eq_some_iff, Option.map_eq_some_iff] at h
      obtain ⟨o, ho, da, ha, db, hb, rfl⟩ := h
      obtain ⟨rr, h1, h2⟩ := cmp_ok g.K g.hu ho
      obtain ⟨ma, sa⟩ := ih.e _ _ _ _ _ g ha
      obtain ⟨mb, sb⟩ := ih.e _ _ _ _ _ g hb
      exact ⟨mono_op h2.w.mono ma mb, se_cmp h1 h2.w ma mb sa sb (noMarks hs)⟩
    · cases h
  · obtain ⟨ma, sa⟩ := ih.e _ _ _ _ _ g h
    exact ⟨ma, se_one sa⟩
  · simp only [Option.bind_eq_some_iff, Option.map_eq_some_iff] at h
    obtain ⟨da, ha, db, hb, rfl⟩ := h
    obtain ⟨ma, sa⟩ := ih.e _ _ _ _ _ g ha
    obtain ⟨mb, sb⟩ := ih.e _ _ _ _ _ g hb
    rw [dAndB_eq]; exact ⟨mono_andv ma mb, se_and g.K ma mb sa sb⟩
  · simp only [Option.bind_eq_some_iff, Option.map_eq_some_iff] at h
    obtain ⟨da, ha, db, hb, rfl⟩ := h
    obtain ⟨ma, sa⟩ := ih.e _ _ _ _ _ g ha
    obtain ⟨mb, sb⟩ := ih.e _ _ _ _ _ g hb
    rw [dOrB_eq]; exact ⟨mono_orv ma mb, se_or g.K ma mb sa sb⟩
  · simp only [Option.bind_eq_some_iff, Option.map_eq_some_iff] at h
    obtain ⟨dc, hc, da, ha, db, hb, rfl⟩ := h
    obtain ⟨mc, sc⟩ := ih.t _ _ _ _ _ g hc
    obtain ⟨ma, sa⟩ := ih.e _ _ _ _ _ g ha
    obtain ⟨mb, sb⟩ := ih.e _ _ _ _ _ g hb
    rw [dIfB_eq]; exact ⟨mono_if mc ma mb, se_if mc sc sa sb ma mb⟩
  · split at h
    · rename_i hl
      simp only [Option.map_eq_some_iff] at h
      obtain ⟨da, ha, rfl⟩ := h
      obtain ⟨ma, la, sa, _⟩ := ih.a _ _ _ _ _ g ha
      exact ⟨mono_tup ma, se_tup ma la (of_decide_eq_true hl) sa⟩
    · cases h
  · split at h
    · rename_i hl
      simp only [Option.map_eq_some_iff] at h
      obtain ⟨da, ha, rfl⟩ := h
      obtain ⟨ma, la, sa, _⟩ := ih.a _ _ _ _ _ g ha
      rw [dLstB_eq]; exact ⟨mono_lst ma, se_lst ma la (of_decide_eq_true hl) sa⟩
    · cases h
  · simp only [Option.some.injEq] at h
    subst h
    split
    · rw [dNewTB_eq]; exact ⟨mono_newT, se_newT⟩
    · rw [dNewKB_eq]; exact ⟨mono_newK, se_newK⟩
  · -- slices
    simp only [Option.bind_eq_some_iff, Option.map_eq_some_iff] at h
    obtain ⟨da, ha, dl, hl, dh, hh, rfl⟩ := h
    obtain ⟨ma, sa⟩ := ih.e _ _ _ _ _ g ha
    obtain ⟨ml, sl⟩ := ih.o _ _ _ _ _ g hl
    obtain ⟨mh, sh⟩ := ih.o _ _ _ _ _ g hh
    exact ⟨mono_sl ma ml mh, se_sl g.K ma ml mh sa sl sh⟩
  · split at h
    · rename_i hs
      simp only [Option.bind_eq_some_iff, Option.map_eq_some_iff] at h
      obtain ⟨da, ha, di, hi, rfl⟩ := h
      obtain ⟨ma, sa⟩ := ih.e _ _ _ _ _ g ha
      obtain ⟨mi, si⟩ := ih.e _ _ _ _ _ g hi
      have hix := ix_all (X := X) (Nat.lt_of_le_of_lt (Nat.add_le_add_left (by decide : 1 ≤ 65) _) g.hu)
      rw [g.K] at hix
      exact ⟨mono_op (ixS (G := G)).w.mono ma mi, se_ix hix ixS.w ma mi sa si (plainIx_of hs)⟩
    · cases h
  · -- calls
    split at h
    · rename_i hc
      simp only [Bool.and_eq_true] at hc
      obtain ⟨⟨hn, hg⟩, hst⟩ := hc
      obtain ⟨n1, n2, n3⟩ := okName_d hn
      simp only [Option.bind_eq_some_iff] at h
      obtain ⟨da, ha, h⟩ := h
      obtain ⟨ma, la, sa, _⟩ := ih.a _ _ _ _ _ g ha
      simp only [List.all_cons, Bool.and_eq_true] at hst
      split at h
      · rename_i f hf
        simp only [Option.some.injEq] at h
        subst h
        obtain ⟨fm, rfl⟩ := fiFind_mem hf
        obtain ⟨⟨fa, fd, ps, hm, F, hk, hb⟩, mf⟩ := g.funs _ fm
        exact ⟨mono_call mf ma, se_call F (g.room.mono (g.levs _ fm)) (g.gl hg) hm hk hb mf ma sa n1 (star_cons hst.1 _ _) (plain_any hst.2 _ _)⟩
      · split at h
        · rename_i hb
          simp only [Option.map_eq_some_iff] at h
          obtain ⟨c, hcb, rfl⟩ := h
          have hx := cbFind_name hcb
          obtain ⟨rr, h1, h2⟩ := cb_ok (G := G) g.K g.calm c
          rw [← hx] at h1
          exact ⟨mono_cb h2.w.mono ma, se_cb h1 h2.w (g.gl hg) (g.blt _ (memS_iff hb)) ma sa n3 n1 (star_cons hst.1 _ _) (plain_any hst.2 _ _)⟩
        · cases h
    · cases h
  · -- methods
    split at h
    · rename_i hc
      simp only [Bool.and_eq_true] at hc
      obtain ⟨⟨⟨hb, hst⟩, hl⟩, hln⟩ := hc
      simp only [Option.bind_eq_some_iff, Option.map_eq_some_iff] at h
      obtain ⟨k, hk, d0, hd, da, ha, rfl⟩ := h
      obtain ⟨md, sd⟩ := ih.e _ _ _ _ _ g hd
      obtain ⟨ma, la, sa, _⟩ := ih.a _ _ _ _ _ g ha
      obtain ⟨mk0⟩ := me_ok (G := G) g.K g.hu k
      obtain ⟨mk⟩ := mk0.w0
      rw [← meFind_name hk] at mk
      have hst' := hst
      simp only [List.all_cons, Bool.and_eq_true] at hst'
      exact ⟨mono_me mk.ms.mono md ma, se_me g.K mk md ma sd sa (base_of hb _ _) (few_of hst (of_decide_eq_true hl) _ _) hln (star_cons hst'.1 _ _) (plain_any hst'.2 _ _)⟩
    · cases h
  · split at h
    · rename_i hc
      simp only [Bool.and_eq_true] at hc
      simp only [Option.bind_eq_some_iff, Option.map_eq_some_iff] at h
      obtain ⟨k, hk, d0, hd, rfl⟩ := h
      obtain ⟨md, sd⟩ := ih.e _ _ _ _ _ g hd
      obtain ⟨mk0⟩ := me_ok (G := G) g.K g.hu k
      obtain ⟨mk⟩ := mk0.w0
      rw [← meFind_name hk] at mk
      exact ⟨mono_me mk.ms.mono md mono_nil, se_me0 g.K mk md sd (base_of hc.1 _ _) hc.2⟩
    · cases h
  · obtain ⟨it, k, tt, d', rfl, L⟩ := ih.l _ _ _ _ _ _ _ _ _ g h
    rw [dLcB_eq]; exact ⟨mono_lc L.mi L.mt L.me, se_lc g.K g.calm g.nd L.mi L.mt L.me L.si L.ok L.sl L.hg L.ht L.he L.hs⟩
  · cases h
section
variable {G : Gc} {n : Nat}
theorem snd_t (ih : Snd G n) (C : Ctx) (lev : Nat) (X : Cx) (e : Expr) (d : DenT) (g : Good G C lev X) (h : compT (n + 1) C e = some d) : MonoT d ∧ ST G X e d := by
  unfold compT at h
  split at h
  · simp only [Option.map_eq_some_iff] at h
    obtain ⟨da, ha, rfl⟩ := h
    obtain ⟨ma, sa⟩ := ih.t _ _ _ _ _ g ha
    exact ⟨mono_tnot ma, st_not ma sa⟩
  · obtain ⟨ma, sa⟩ := ih.w _ _ _ _ _ _ _ g h
    exact ⟨ma, st_bool sa⟩
  · split at h
    · rename_i hs
      simp only [Option.bind_eq_some_iff, Option.map_eq_some_iff] at h
      obtain ⟨o, ho, da, ha, db, hb, rfl⟩ := h
      obtain ⟨rr, h1, h2⟩ := cmp_ok g.K g.hu ho
      obtain ⟨ma, sa⟩ := ih.e _ _ _ _ _ g ha
      obtain ⟨mb, sb⟩ := ih.e _ _ _ _ _ g hb
      exact ⟨mono_tval (mono_op h2.w.mono ma mb), st_cmp h1 h2.w ma mb sa sb (noMarks hs)⟩
    · cases h
  · split at h
    · rename_i ht
      simp only [Option.map_eq_some_iff] at h
      obtain ⟨da, ha, rfl⟩ := h
      obtain ⟨ma, sa⟩ := ih.e _ _ _ _ _ g ha
      exact ⟨mono_ttru ma, st_tru g.K ma sa (isTrue_of ht _)⟩
    · cases h
theorem snd_w (ih : Snd G n) (C : Ctx) (lev : Nat) (X : Cx) (op : BoolOp) (es : List Expr) (pos : Pos) (d : DenT) (g : Good G C lev X) (h : compW (n + 1) C op es = some d) : MonoT d ∧ SW G X (.BoolOp op es pos) d := by
  unfold compW at h
  split at h
  · obtain ⟨ma, sa⟩ := ih.t _ _ _ _ _ g h
    cases op with
    | And => exact ⟨ma, sw_one_and sa⟩
    | Or => exact ⟨ma, sw_one_or sa⟩
  · simp only [Option.bind_eq_some_iff, Option.map_eq_some_iff] at h
    obtain ⟨da, ha, db, hb, rfl⟩ := h
    obtain ⟨ma, sa⟩ := ih.t _ _ _ _ _ g ha
    obtain ⟨mb, sb⟩ := ih.w _ _ _ _ _ pos _ g hb
    cases op with
    | And => simp only []; rw [tAndB_eq]; exact ⟨mono_tand ma mb, sw_and ma mb sa sb⟩
    | Or => simp only []; rw [tOrB_eq]; exact ⟨mono_tor ma mb, sw_or ma mb sa sb⟩
  · cases h
theorem snd_a (ih : Snd G n) (C : Ctx) (lev : Nat) (X : Cx) (es : List Expr) (d : DenA) (g : Good G C lev X) (h : compA (n + 1) C es = some d) : MonoA d ∧ LenA d es.length ∧ SA G X es d ∧ es.all notStar = true := by
  unfold compA at h
  split at h
  · simp only [Option.some.injEq] at h
    subst h
    exact ⟨mono_nil, len_nil, sa_nil, rfl⟩
  · split at h
    · rename_i hs
      simp only [Option.bind_eq_some_iff, Option.map_eq_some_iff] at h
      obtain ⟨da, ha, db, hb, rfl⟩ := h
      obtain ⟨ma, sa⟩ := ih.e _ _ _ _ _ g ha
      obtain ⟨mb, lb, sb, ab⟩ := ih.a _ _ _ _ _ g hb
      exact ⟨mono_cons ma mb, len_cons ma mb lb, sa_cons ma mb sa sb (star_cons hs _ _), by rw [List.all_cons, hs, ab]; rfl⟩
    · cases h
theorem snd_o (ih : Snd G n) (C : Ctx) (lev : Nat) (X : Cx) (e : Option Expr) (d : DenO) (g : Good G C lev X) (h : compO (n + 1) C e = some d) : MonoO d ∧ SO G X e d := by
  unfold compO at h
  split at h
  · simp only [Option.some.injEq] at h
    subst h
    exact ⟨mono_pno, so_none⟩
  · simp only [Option.map_eq_some_iff] at h
    obtain ⟨da, ha, rfl⟩ := h
    obtain ⟨ma, sa⟩ := ih.e _ _ _ _ _ g ha
    exact ⟨mono_pso ma, so_some ma sa⟩
theorem star1 {a : Expr} (h : notStar a = true) (env : PySem.Env) : starEach [a] env = [(false, eval a env)] := star_cons h [] env
theorem snd_i (ih : Snd G n) (C : Ctx) (lev : Nat) (X : Cx) (tg e : Expr) (d : DenI) (g : Good G C lev X) (h : compI (n + 1) C tg e = some d) : MonoI d ∧ SI G X tg e d := by
  unfold compI at h
  split at h
  · split at h
    · rename_i hc
      simp only [Bool.and_eq_true] at hc
      obtain ⟨⟨⟨hn, hg⟩, hi⟩, hst⟩ := hc
      split at h
      · simp only [List.all_cons, Bool.and_eq_true] at hst
        split at h
        · rename_i e1
          rw [strEq_iff] at e1; subst e1
          simp only [Option.map_eq_some_iff] at h
          obtain ⟨da, ha, rfl⟩ := h
          obtain ⟨ma, la, sa, _⟩ := ih.a _ _ _ _ _ g ha
          exact ⟨mono_irng1 ma, si_rng1 (g.gl hg) (g.blt _ (by simp [bltNames])) ma sa (star1 hst.1 _)⟩
        · split at h
          · rename_i e1
            rw [strEq_iff] at e1; subst e1
            simp only [Option.map_eq_some_iff] at h
            obtain ⟨da, ha, rfl⟩ := h
            obtain ⟨ma, sa⟩ := ih.e _ _ _ _ _ g ha
            exact ⟨mono_irev ma, si_rev g.K (g.gl hg) (g.blt _ (by simp [bltNames])) ma sa (star_cons hst.1 _ _)⟩
          · split at h
            · rename_i e1
              simp only [Bool.and_eq_true] at e1
              obtain ⟨e1, e2⟩ := e1
              rw [strEq_iff] at e1; subst e1
              simp only [Option.map_eq_some_iff] at h
              obtain ⟨da, ha, rfl⟩ := h
              obtain ⟨ma, la, sa, _⟩ := ih.a _ _ _ _ _ g ha
              cases tg <;> first | (exact ⟨mono_ienum ma, si_enum g.K (g.gl hg) (g.blt _ (by simp [bltNames])) ma sa (star1 hst.1 _)⟩) | (simp [isTup] at e2)
            · cases h
      · simp only [List.all_cons, Bool.and_eq_true] at hst
        split at h
        · rename_i e1
          rw [strEq_iff] at e1; subst e1
          simp only [Option.map_eq_some_iff] at h
          obtain ⟨da, ha, rfl⟩ := h
          obtain ⟨ma, la, sa, _⟩ := ih.a _ _ _ _ _ g ha
          exact ⟨mono_irng2 ma, si_rng2 (g.gl hg) (g.blt _ (by simp [bltNames])) ma sa (by rw [star_cons hst.1, star1 hst.2.1]) (star1 hst.2.1 _)⟩
        · split at h
          · rename_i e1
            simp only [Bool.and_eq_true] at e1
            obtain ⟨e1, e2⟩ := e1
            rw [strEq_iff] at e1; subst e1
            simp only [Option.map_eq_some_iff] at h
            obtain ⟨da, ha, rfl⟩ := h
            obtain ⟨ma, la, sa, _⟩ := ih.a _ _ _ _ _ g ha
            cases tg <;> first | (exact ⟨mono_izip ma, si_zip g.K (g.gl hg) (g.blt _ (by simp [bltNames])) ma sa (star_cons hst.1 _ _) (plain_any (by simp [hst.2.1]) _ _)⟩) | (simp [isTup] at e2)
          · cases h
      · simp only [List.all_cons, Bool.and_eq_true] at hst
        split at h
        · rename_i e1
          rw [strEq_iff] at e1; subst e1
          simp only [Option.map_eq_some_iff] at h
          obtain ⟨da, ha, rfl⟩ := h
          obtain ⟨ma, la, sa, _⟩ := ih.a _ _ _ _ _ g ha
          exact ⟨mono_irng3 ma, si_rng3 (g.gl hg) (g.blt _ (by simp [bltNames])) ma sa (star_cons hst.1 _ _) (plain_any (by simp [hst.2.1, hst.2.2.1]) _ _)⟩
        · cases h
      · cases h
    · simp only [Option.map_eq_some_iff] at h
      obtain ⟨da, ha, rfl⟩ := h
      obtain ⟨ma, sa⟩ := ih.e _ _ _ _ _ g ha
      exact ⟨mono_ival ma, si_val g.K ma sa⟩
  · simp only [Option.map_eq_some_iff] at h
    obtain ⟨da, ha, rfl⟩ := h
    obtain ⟨ma, sa⟩ := ih.e _ _ _ _ _ g ha
    exact ⟨mono_ival ma, si_val g.K ma sa⟩
theorem snd_l (ih : Snd G n) (C : Ctx) (lev : Nat) (X : Cx) (elt tg iter : Expr) (ifs : List Expr) (scope : Scope) (d : Den) (g : Good G C lev X) (h : compL (n + 1) C elt tg iter ifs scope = some d) :
    ∃ it k tt d', d = dLcB it k tt d' (ownIx C.N scope.names) ∧ LcD G X elt tg iter ifs scope (ownOf C.N scope.names) it k tt d' := by
  unfold compL at h
  simp only [Option.bind_eq_some_iff] at h
  obtain ⟨k, hk, h⟩ := h
  split at h
  · rename_i hc
    simp only [Bool.and_eq_true] at hc
    obtain ⟨⟨hb, hs⟩, hset⟩ := hc
    simp only [Option.bind_eq_some_iff, Option.map_eq_some_iff] at h
    obtain ⟨it, hit, tt, htt, d', hd, rfl⟩ := h
    obtain ⟨mi, si⟩ := ih.i _ _ _ _ _ _ g hit
    have gb := fun s H Ca cl fp => g.blk s H scope Ca cl fp
    have he : Mono d' ∧ ∀ (s : Shared) (H : Hp) (Ca : Addr) (cl : List (Str × Addr)) (fp : List Addr), SE G (X.blk s H scope (compEnvC scope cl Ca X.env) fp) elt d' :=
      ⟨(ih.e _ _ _ _ _ (gb X.s_0 X.H_0 0 [] []) hd).1, fun s H Ca cl fp => (ih.e _ _ _ _ _ (gb s H Ca cl fp) hd).2⟩
    have ht : MonoT tt ∧ ∀ (s : Shared) (H : Hp) (Ca : Addr) (cl : List (Str × Addr)) (fp : List Addr), STs G (X.blk s H scope (compEnvC scope cl Ca X.env) fp) ifs tt := by
      split at htt
      · simp only [Option.some.injEq] at htt
        subst htt
        exact ⟨mono_yes, fun s H Ca cl fp => sts_nil⟩
      · exact ⟨(ih.t _ _ _ _ _ (gb X.s_0 X.H_0 0 [] []) htt).1, fun s H Ca cl fp => sts_one (ih.t _ _ _ _ _ (gb s H Ca cl fp) htt).2⟩
      · cases htt
    refine ⟨it, k, tt, d', rfl, mi, ht.1, he.1, si, ?_, fun i hi => ?_, fun s H Ca cl fp => pgt_blk g hk, ht.2, he.2, noFold hset _⟩
    · rw [g.N, g.sc]
      exact blkOk_by hb
    · rw [List.all_eq_true] at hs
      exact natIn_mem (hs i hi)
  · cases h
theorem snd : ∀ n, Snd G n
  | 0 => ⟨fun _ _ _ _ _ _ h => (by unfold comp at h; cases h), fun _ _ _ _ _ _ _ _ _ _ h => (by unfold compL at h; cases h), fun _ _ _ _ _ _ h => (by unfold compT at h; cases h), fun _ _ _ _ _ _ _ _ h => (by unfold compW at h; cases h),
      fun _ _ _ _ _ _ h => (by unfold compA at h; cases h), fun _ _ _ _ _ _ h => (by unfold compO at h; cases h), fun _ _ _ _ _ _ _ h => (by unfold compI at h; cases h)⟩
  | n + 1 => ⟨snd_e (snd n), snd_l (snd n), snd_t (snd n), snd_w (snd n), snd_a (snd n), snd_o (snd n), snd_i (snd n)⟩
end
end EV

namespace EV
open PySem PySem.Spec PyProof.Rows L2 RZ RT

def isTL : Expr → Bool
  | .Tuple _ _ _ => true
  | .List _ _ => true
  | _ => false
theorem noStores {tg e : Expr} (h : (isTL tg && isTup e) = false) (env : PySem.Env) : swappedStores [tg] e env = pure none := by
  cases tg <;> first
    | rfl
    | (cases e <;> first | rfl | (simp [isTL, isTup] at h))
theorem asgSub_of {i : Expr} (h : notSl i = true) (o : Expr) (pos : Pos) (env : PySem.Env) : ∀ v, assign (.Subscript o i pos) env v = (do
      let ov ← holding [v] (eval o env)
      let iv ← holding [v, ov] (eval i env)
      standAt pos
      holding [v, ov, iv] (setItem ov iv v)
      release [v, ov, iv] []) := fun v => by
  cases i <;> first | rfl | cases h
def isName : Expr → Bool
  | .Name _ _ => true
  | _ => false
theorem noSwap_tg {tg : Expr} (h : isName tg = false) (e : Expr) (l : Nat) (env : PySem.Env) : swapsWith e (some tg) l env = pure false := by
  by_cases hc : notComp e = true
  · exact noSwap hc _ _ _
  · cases e <;> first | (exact absurd rfl hc) | (cases tg <;> first | rfl | cases h)
theorem noSwap_cell {x : Str} {p : Pos} (e : Expr) (l : Nat) (env : PySem.Env) (h : (env.kindOf x == some .local) = false) : swapsWith e (some (.Name x p)) l env = pure false := by
  by_cases hc : notComp e = true
  · exact noSwap hc _ _ _
  · cases e <;> first | (exact absurd rfl hc) | (unfold swapsWith; simp only [h]; simp)
theorem swapped2 {x y : Str} {px py pt : Pos} {kt k2 : Nat} {pt2 : Pos} {a b : Expr} {env : PySem.Env} (hbk : env.blockKind = .function) (hx : env.kindOf x = some .local) (hy : env.kindOf y = some .local) (hl : py.line = px.line) (hne : x ≠ y)
    (h1 : notStar a = true) (h2 : notStar b = true) (hf : [a, b].all (foldedForSure 8) = false) (hc : [a, b].all (constantsAlone 8) = false) :
    swappedStores [.Tuple [.Name x px, .Name y py] kt pt] (.Tuple [a, b] k2 pt2) env = pure (some [x, y]) := by
  have ed : [x, y].eraseDups.length = 2 := by
    have : (y == x) = false := by simpa using hne.symm
    simp [List.eraseDups_cons, this]
  unfold swappedStores
  simp only [List.length_cons, List.length_nil, hbk, hf, hc, List.filterMap_cons, List.filterMap_nil, hx, hy, Expr.pos, List.head?_cons, Option.map_some, Option.getD_some, hl, List.any_cons, List.any_nil]
  simp [ed]
  intro h
  exfalso
  rcases h with h | h
  · cases a <;> first | (cases h; done) | (cases h1; done)
  · cases b <;> first | (cases h; done) | (cases h2; done)
def kindF (sc : Scope) : Bool := match sc.kind with
  | .function => true
  | _ => false
mutual
def compG : Nat → Ctx → Expr → Option DenG
  | 0, _, _ => none
  | n + 1, C, e => match e with
    | .Name x _ => if locB C.sc x = true then (slot C.N x).map gNameB else none
    | .Tuple es _ _ => (compGs n C es).map fun g => EV.gTup es.length g
    | .Subscript o i _ => if notSl i = true then (comp n C o).bind fun d => (comp n C i).map fun di => EV.gSub d di (wT oSet) else none
    | _ => none
def compGs : Nat → Ctx → List Expr → Option DenGs
  | 0, _, _ => none
  | n + 1, C, es => match es with
    | [] => some gsNil
    | e :: es => if notStar e = true then (compG n C e).bind fun g => (compGs n C es).map fun gs => gsCons g gs else none
end
mutual
def compS : Nat → Ctx → Stmt → Option DenS
  | 0, _, _ => none
  | n + 1, C, st => match st with
    | .Assign [.Name y py] (.ListComp elt [⟨tg, iter, ifs, 0⟩] scope pos) _ =>
      if locOnly C.sc y = true then
        (if (kindF C.sc && (py.line == pos.line) && !(scope.names.any fun (n, k) => n == y && (k == .local || k == .cell))) = true then
          (slot C.N y).bind fun i => (compL n C elt tg iter ifs scope).map fun d => sAsg d (gNameB i) else none)
      else (compG n C (.Name y py)).bind fun g => (compL n C elt tg iter ifs scope).map fun d => sAsg d g
    | .Assign [.Tuple [.Name x px, .Name y py] _ _] (.Tuple [a, b] _ _) _ =>
      if (locOnly C.sc x && locOnly C.sc y && kindF C.sc && (py.line == px.line) && !(strEq x y) && notStar a && notStar b && !([a, b].all (foldedForSure 8)) && !([a, b].all (constantsAlone 8))) = true then
        (slot C.N x).bind fun i => (slot C.N y).bind fun j => (compA n C [a, b]).bind fun d => if (i == j) = true then none else some (sParB i j d) else none
    | .Assign [tg] e _ => if (notStar tg && (notComp e || !(isName tg)) && !(isTL tg && isTup e)) = true then (comp n C e).bind fun d => (compG n C tg).map fun g => sAsg d g else none
    | .AugAssign (.Name x _) .Add e _ => if locB C.sc x = true then (slot C.N x).bind fun i => (comp n C e).map fun d => sAugB i (wO (oInt (· + ·))) d else none
    | .AugAssign (.Name x _) .Sub e _ => if locB C.sc x = true then (slot C.N x).bind fun i => (comp n C e).map fun d => sAugB i (wO (oInt (· - ·))) d else none
    | .Expr e _ => if notComp e = true then (comp n C e).map sExpr else none
    | .Return (some e) _ => (comp n C e).map sRet
    | .Return none _ => some sRetN
    | .If c a b _ => (compT n C c).bind fun t => (compSs n C a).bind fun da => (compSs n C b).map fun db => sIfB t da db
    | .While c b [] _ => (compT n C c).bind fun t => (compSs n C b).map fun d => sWhileB t d
    | .For tg e b [] _ => if notSet e = true then (compI n C tg e).bind fun it => (compG n C tg).bind fun g => (compSs n C b).map fun d => sForB it g d else none
    | .Pass _ => some sSkip
    | .Break _ => some sBreak
    | .Continue _ => some sCont
    | _ => none
def compSs : Nat → Ctx → List Stmt → Option DenS
  | 0, _, _ => none
  | n + 1, C, sts => match sts with
    | [] => some sSkip
    | s :: ss => (compS n C s).bind fun a => (compSs n C ss).map fun b => sSeqB a b
end
structure GoodS (G : Gc) (C : Ctx) (lev : Nat) (X : Cx) : Prop where
  g : Good G C lev X
  fn : ∀ x, X.fn x = true
  own : PassesOwn (model X.prog X.w) X.A X.env X.xe
section
variable {G : Gc} {C : Ctx} {lev : Nat} {X : Cx}
theorem locOnly_ok {sc : Scope} {x : Str} (h : locOnly sc x = true) : sc.names.lookup x = some .local := by
  unfold locOnly at h
  rw [lk_eq] at h
  split at h
  · assumption
  · cases h
theorem locOnly_no {sc : Scope} {x : Str} (h : ¬ locOnly sc x = true) : (sc.names.lookup x == some .local) = false := by
  unfold locOnly at h
  rw [lk_eq] at h
  split at h
  · exact absurd rfl h
  · rename_i hn
    cases e : sc.names.lookup x with
    | none => rfl
    | some k => cases k <;> first | rfl | exact absurd e hn
structure SndG (G : Gc) (n : Nat) : Prop where
  g : ∀ C lev X e d, GoodS G C lev X → compG n C e = some d → MonoG d ∧ SG G X e d
  gs : ∀ C lev X es d, GoodS G C lev X → compGs n C es = some d → MonoGs d ∧ SGs G X es d ∧ (assignEach es X.env).length = es.length ∧ (assignEach es X.env).findIdx? (·.1) = none
theorem sndG : ∀ n, SndG G n
  | 0 => ⟨fun _ _ _ _ _ _ h => (by unfold compG at h; cases h), fun _ _ _ _ _ _ h => (by unfold compGs at h; cases h)⟩
  | n + 1 => by
    have ih := sndG n
    refine ⟨fun C lev X e d g h => ?_, fun C lev X es d g h => ?_⟩
    · unfold compG at h
      split at h
      · split at h
        · rename_i hl
          simp only [Option.map_eq_some_iff] at h
          obtain ⟨i, hi, rfl⟩ := h
          rw [gNameB_eq]; exact ⟨mono_gname i, sg_name g.g.nd (by rw [g.g.N]; exact slot_ok hi) (g.g.loc hl) (.inl (g.fn _))⟩
        · cases h
      · simp only [Option.map_eq_some_iff] at h
        obtain ⟨gs, hgs, rfl⟩ := h
        obtain ⟨m, s, l, f⟩ := ih.gs _ _ _ _ _ g hgs
        exact ⟨mono_gtup _ m, sg_tup g.g.K g.g.calm m s l f⟩
      · split at h
        · rename_i hs
          simp only [Option.bind_eq_some_iff, Option.map_eq_some_iff] at h
          obtain ⟨da, ha, di, hi, rfl⟩ := h
          obtain ⟨ma, sa⟩ := (snd n).e _ _ _ _ _ g.g ha
          obtain ⟨mi, si⟩ := (snd n).e _ _ _ _ _ g.g hi
          exact ⟨mono_gsub ma mi (setS (G := G)).w.mono, sg_sub (dq := da) (set_all (Nat.lt_of_le_of_lt (Nat.add_le_add_left (by decide : 1 ≤ 65) _) g.g.hu)) setS.w ma mi sa si (asgSub_of hs _ _ _)⟩
        · cases h
      · cases h
    · unfold compGs at h
      split at h
      · simp only [Option.some.injEq] at h
        subst h
        exact ⟨mono_gsnil, sgs_nil, rfl, rfl⟩
      · split at h
        · rename_i hs
          simp only [Option.bind_eq_some_iff, Option.map_eq_some_iff] at h
          obtain ⟨d1, h1, d2, h2, rfl⟩ := h
          obtain ⟨m1, s1⟩ := ih.g _ _ _ _ _ g h1
          obtain ⟨m2, s2, l2, f2⟩ := ih.gs _ _ _ _ _ g h2
          refine ⟨mono_gscons m1 m2, sgs_cons m1 m2 s1 s2 (by rw [asg_cons hs]; rfl), ?_, ?_⟩
          · rw [asg_cons hs, List.length_cons, List.length_cons, l2]
          · rw [asg_cons hs, List.findIdx?_cons]
            simp [f2]
        · cases h
structure SndS (G : Gc) (n : Nat) : Prop where
  s : ∀ C lev X st d, GoodS G C lev X → compS n C st = some d → MonoS d ∧ SS G X st d
  ss : ∀ C lev X sts d, GoodS G C lev X → compSs n C sts = some d → MonoS d ∧ SSs G X sts d
theorem Good.kf (g : Good G C lev X) (h : kindF C.sc = true) : X.env.scope.kind = .function := by
  unfold kindF at h
  rw [g.sc]
  split at h
  · assumption
  · cases h
theorem sndS : ∀ n, SndS G n
  | 0 => ⟨fun _ _ _ _ _ _ h => (by unfold compS at h; cases h), fun _ _ _ _ _ _ h => (by unfold compSs at h; cases h)⟩
  | n + 1 => by
    have ih := sndS n
    refine ⟨fun C lev X st d g h => ?_, fun C lev X sts d g h => ?_⟩
    · unfold compS at h
      split at h
      · -- name = [..]
        split at h
        · rename_i hl
          split at h
          · rename_i hc
            simp only [Bool.and_eq_true, Bool.not_eq_true'] at hc
            obtain ⟨⟨hk, hln⟩, hany⟩ := hc
            simp only [Option.bind_eq_some_iff, Option.map_eq_some_iff] at h
            obtain ⟨i, hi, dl, hdl, rfl⟩ := h
            obtain ⟨it, k, tt, d', rfl, L⟩ := (snd n).l _ _ _ _ _ _ _ _ _ g.g hdl
            have hloc := locOnly_ok hl
            rw [← g.g.sc] at hloc
            rw [dLcB_eq, gNameB_eq]; exact ⟨mono_asg (mono_lc L.mi L.mt L.me) (mono_gname i), ss_setLc g.g.K g.g.calm g.g.nd (by rw [g.g.N]; exact slot_ok hi) hloc (sw_true (g.g.kf hk) hloc hln hany) L.mi L.mt L.me L.si L.ok L.sl L.hg L.ht L.he L.hs⟩
          · cases h
        · rename_i hl
          simp only [Option.bind_eq_some_iff, Option.map_eq_some_iff] at h
          obtain ⟨gd, hgd, dl, hdl, rfl⟩ := h
          obtain ⟨it, k, tt, d', rfl, L⟩ := (snd n).l _ _ _ _ _ _ _ _ _ g.g hdl
          obtain ⟨mg, sg⟩ := (sndG n).g _ _ _ _ _ g hgd
          have hcell := locOnly_no hl
          rw [dLcB_eq]; refine ⟨mono_asg (mono_lc L.mi L.mt L.me) mg, ss_asg (mono_lc L.mi L.mt L.me) mg (se_lc g.g.K g.g.calm g.g.nd L.mi L.mt L.me L.si L.ok L.sl L.hg L.ht L.he L.hs) sg ?_ rfl rfl⟩
          rw [← g.g.sc] at hcell
          unfold swapsWithSole
          exact noSwap_cell _ _ _ hcell
      · -- a, b = x, y
        split at h
        · rename_i hc
          simp only [Bool.and_eq_true, Bool.not_eq_true'] at hc
          obtain ⟨⟨⟨⟨⟨⟨⟨⟨hx, hy⟩, hk⟩, hln⟩, hne⟩, ha⟩, hb⟩, hf⟩, hcs⟩ := hc
          simp only [Option.bind_eq_some_iff] at h
          obtain ⟨i, hi, j, hj, da, hda, h⟩ := h
          split at h
          · cases h
          · rename_i hij
            simp only [Option.some.injEq] at h
            subst h
            obtain ⟨ma, la, sa, _⟩ := (snd n).a _ _ _ _ _ g.g hda
            have hlx := locOnly_ok hx
            have hly := locOnly_ok hy
            rw [← g.g.sc] at hlx hly
            have hkk := g.g.kf hk
            rw [sParB_eq]; refine ⟨mono_par ma, ss_par g.g.calm g.g.nd (by rw [g.g.N]; exact slot_ok hi) (by rw [g.g.N]; exact slot_ok hj) (by simpa using hij) hlx hly ma sa ?_ rfl⟩
            refine swapped2 (by unfold PySem.Env.blockKind; rw [hkk]; rfl) hlx hly (by simpa using hln) (fun e => ?_) ha hb hf hcs
            rw [strEq_iff.mpr e] at hne; cases hne
        · cases h
      · -- general
        split at h
        · rename_i hc
          simp only [Bool.and_eq_true, Bool.not_eq_true', Bool.or_eq_true] at hc
          obtain ⟨⟨hst, hcn⟩, htl⟩ := hc
          simp only [Option.bind_eq_some_iff, Option.map_eq_some_iff] at h
          obtain ⟨da, ha, gd, hgd, rfl⟩ := h
          obtain ⟨ma, sa⟩ := (snd n).e _ _ _ _ _ g.g ha
          obtain ⟨mg, sg⟩ := (sndG n).g _ _ _ _ _ g hgd
          refine ⟨mono_asg ma mg, ss_asg ma mg sa sg ?_ (noStores htl _) (by rw [asg_cons hst]; rfl)⟩
          rcases hcn with hcn | hcn
          · exact noSwap hcn _ _ _
          · exact noSwap_tg hcn _ _ _
        · cases h
      · split at h
        · rename_i hl
          simp only [Option.bind_eq_some_iff, Option.map_eq_some_iff] at h
          obtain ⟨i, hi, da, ha, rfl⟩ := h
          obtain ⟨ma, sa⟩ := (snd n).e _ _ _ _ _ g.g ha
          rw [sAugB_eq]; exact ⟨mono_aug (intS (G := G) _).w.mono ma, ss_aug g.g.nd (by rw [g.g.N]; exact slot_ok hi) (g.g.loc hl) (.inl (g.fn _)) ma sa ip_add (intS _).w⟩
        · cases h
      · split at h
        · rename_i hl
          simp only [Option.bind_eq_some_iff, Option.map_eq_some_iff] at h
          obtain ⟨i, hi, da, ha, rfl⟩ := h
          obtain ⟨ma, sa⟩ := (snd n).e _ _ _ _ _ g.g ha
          rw [sAugB_eq]; exact ⟨mono_aug (intS (G := G) _).w.mono ma, ss_aug g.g.nd (by rw [g.g.N]; exact slot_ok hi) (g.g.loc hl) (.inl (g.fn _)) ma sa ip_sub (intS _).w⟩
        · cases h
      · split at h
        · rename_i hn
          simp only [Option.map_eq_some_iff] at h
          obtain ⟨da, ha, rfl⟩ := h
          obtain ⟨ma, sa⟩ := (snd n).e _ _ _ _ _ g.g ha
          exact ⟨mono_expr ma, ss_expr ma sa (noSwap hn _ _ _)⟩
        · cases h
      · simp only [Option.map_eq_some_iff] at h
        obtain ⟨da, ha, rfl⟩ := h
        obtain ⟨ma, sa⟩ := (snd n).e _ _ _ _ _ g.g ha
        exact ⟨mono_ret ma, ss_ret ma sa⟩
      · simp only [Option.some.injEq] at h; subst h; exact ⟨mono_retN, ss_retN⟩
      · simp only [Option.bind_eq_some_iff, Option.map_eq_some_iff] at h
        obtain ⟨dc, hc, da, ha, db, hb, rfl⟩ := h
        obtain ⟨mc, sc⟩ := (snd n).t _ _ _ _ _ g.g hc
        obtain ⟨ma, sa⟩ := ih.ss _ _ _ _ _ g ha
        obtain ⟨mb, sb⟩ := ih.ss _ _ _ _ _ g hb
        rw [sIfB_eq]; exact ⟨mono_sif mc ma mb, ss_if mc ma mb sc sa sb⟩
      · simp only [Option.bind_eq_some_iff, Option.map_eq_some_iff] at h
        obtain ⟨dc, hc, da, ha, rfl⟩ := h
        obtain ⟨mc, sc⟩ := (snd n).t _ _ _ _ _ g.g hc
        obtain ⟨ma, sa⟩ := ih.ss _ _ _ _ _ g ha
        rw [sWhileB_eq]; exact ⟨mono_while mc ma, ss_while g.own mc ma sc sa⟩
      · split at h
        · rename_i hs
          simp only [Option.bind_eq_some_iff, Option.map_eq_some_iff] at h
          obtain ⟨it, hit, gd, hgd, da, ha, rfl⟩ := h
          obtain ⟨mi, si⟩ := (snd n).i _ _ _ _ _ _ g.g hit
          obtain ⟨mg, sg⟩ := (sndG n).g _ _ _ _ _ g hgd
          obtain ⟨ma, sa⟩ := ih.ss _ _ _ _ _ g ha
          rw [sForB_eq]; exact ⟨mono_for mi mg ma, ss_for g.own g.g.calm mi mg ma si sg sa (noFold hs _)⟩
        · cases h
      · simp only [Option.some.injEq] at h; subst h; exact ⟨mono_skip, ss_pass⟩
      · simp only [Option.some.injEq] at h; subst h; exact ⟨mono_break, ss_break⟩
      · simp only [Option.some.injEq] at h; subst h; exact ⟨mono_cont, ss_cont⟩
      · cases h
    · unfold compSs at h
      split at h
      · simp only [Option.some.injEq] at h; subst h; exact ⟨mono_skip, ss_nil⟩
      · simp only [Option.bind_eq_some_iff, Option.map_eq_some_iff] at h
        obtain ⟨da, ha, db, hb, rfl⟩ := h
        obtain ⟨ma, sa⟩ := ih.s _ _ _ _ _ g ha
        obtain ⟨mb, sb⟩ := ih.ss _ _ _ _ _ g hb
        rw [sSeqB_eq]; exact ⟨mono_seq ma mb, ss_cons ma mb sa sb⟩
end
end EV

namespace EV
open PySem PySem.Spec PyProof.Rows L2 RZ RT

/-! ### defs -/
def fDen (nN np : Nat) (b : DenS) : FDen := fun vs A Q E => vs.length = np ∧ b (vs.map some ++ List.replicate (nN - np) none) A ⟨fun _ A' => Q .non A', Q, fun _ _ => False, fun _ _ => False, fun e _ A' => E e A'⟩
theorem mono_fden {nN np : Nat} {b : DenS} (mb : MonoS b) : MonoF (fDen nN np b) := fun a A Q Q' E E' h k ⟨l, q⟩ =>
  ⟨l, mb _ _ ⟨fun _ A' => Q .non A', Q, fun _ _ => False, fun _ _ => False, fun e _ A' => E e A'⟩ _ ⟨fun _ _ q => h _ _ q, fun _ _ q => h _ _ q, fun _ _ z => z, fun _ _ z => z, fun _ _ _ q => k _ _ q⟩ q⟩
/-- what the written part tells of a def -/
structure Has (K : PySem.W.Frag) (mg : Str → Option Value) (x : Str) (st : Stmt) (ps : List Str) : Prop where
  ex : ∃ f fd, mg x = some (.ref f) ∧ Fun K x x st f fd ∧ Binds K fd ps []
structure FOkM (P : Program) (w : World) (G : Gc) (mg : Str → Option Value) (base : Heap) (fi : FI) : Prop where
  ex : ∃ f fd ps, mg fi.name = some (.ref f) ∧ FnOk P w G.K mg base (L2.CX P w) fi.lev f fd ps (SpF G fi.fn) ∧ PySem.W.keepIn G.K (.ref f) = true ∧ Binds G.K fd ps []
  mono : MonoF fi.fn
section
variable {P : Program} {w : World} {G : Gc} {mg : Str → Option Value} {base : Heap}
theorem srel_start {r : List Addr} {H : Hp} {ws : List Val} {vs : List V} (p : Reps G.K r H ws vs) (N : List Str) {np : Nat} (hl : ws.length = np) :
    SRel G.K r H (ws.map some ++ List.replicate (N.length - np) none) (L2.start N vs) := by
  have e := p.length
  unfold L2.start
  rw [← e, hl]
  refine ⟨by simp [e], fun i v h => ?_⟩
  by_cases hi : i < ws.length
  · rw [List.getElem?_append_left (by simpa using hi), List.getElem?_map] at h
    cases q : ws[i]? with
    | none => rw [q] at h; cases h
    | some u =>
      rw [q] at h
      simp only [Option.map_some, Option.some.injEq] at h
      subst h
      obtain ⟨x, ex, px⟩ := p.get q
      refine ⟨x, ?_, px⟩
      rw [List.getElem?_append_left (by rw [List.length_map, ← e]; exact hi), List.getElem?_map, ex]
      rfl
  · rw [List.getElem?_append_right (by simpa using hi), List.getElem?_replicate] at h
    split at h <;> cases h
theorem fok_fn {x : Str} {st : Stmt} {f : Addr} {fd : FuncData} {N ps : List Str} {n lev : Nat} {C : Ctx} {d : DenS} (F : Fun G.K x x st f fd) (S : FnScope N ps (defScope st)) (hN : C.N = N) (hsc : C.sc = defScope st) (hlv : ∀ fi ∈ C.funs, fi.lev ≤ lev)
    (hfun : ∀ fi ∈ C.funs, FOkM P w G mg base fi) (hb : ∀ y ∈ bltNames, mg y = none) (hroom : Room lev callerA) (hd : compSs n C (defBody st) = some d) : FnOk P w G.K mg base (L2.CX P w) (lev + 1) f fd ps (SpF G (fDen N.length ps.length d)) ∧ MonoF (fDen N.length ps.length d) := by
  have good : ∀ X : Cx, X.prog = P → X.w = w → X.K = G.K → X.mg = mg → X.base = base → X.calm = true → X.N = N → X.env.scope = defScope st → Room lev X.A → (∀ y, X.fn y = true) → PassesOwn (model X.prog X.w) X.A X.env X.xe → GoodS G C lev X := by
    intro X h1 h2 h3 h4 h5 h6 h7 h8 h9 h10 h11
    refine ⟨⟨h3, h6, by rw [h7]; exact S.nd, by rw [h7, hN], by rw [h8, hsc], h9, hlv, fun y hy => by rw [h4]; exact hb y hy, fun fi hf => ?_⟩, h10, h11⟩
    obtain ⟨⟨f', fd', ps', e1, e2, e3, e4⟩, m⟩ := hfun fi hf
    subst h1; subst h2; subst h4; subst h5
    exact ⟨⟨f', fd', ps', e1, h3 ▸ e2, h3 ▸ e3, h3 ▸ e4⟩, m⟩
  have md : MonoS d := by
    exact ((sndS n).ss C lev { cxOf (L2.CX P w) P w G.K mg base N x (defScope st) f .none callerA [] {} (fun _ => none) E0 with A := callerA, xe := fun _ _ => False } _ d (good _ rfl rfl rfl rfl rfl rfl rfl rfl hroom (fun _ => rfl) PassesOwn.never) hd).1
  refine ⟨F.okX S (fun vs H Q E ⟨r, A, ws, R, p, l, _⟩ => ?_) (fun cdv A outer s H vs Q E hr ⟨r, Ah, ws, R, p, l, q⟩ => ?_), mono_fden md⟩
  · rw [← p.length, l]
  · have hx : PassesOwn (model (cxOf (L2.CX P w) P w G.K mg base N x (defScope st) f cdv A outer s H E).prog (cxOf (L2.CX P w) P w G.K mg base N x (defScope st) f cdv A outer s H E).w) (cxOf (L2.CX P w) P w G.K mg base N x (defScope st) f cdv A outer s H E).A (cxOf (L2.CX P w) P w G.K mg base N x (defScope st) f cdv A outer s H E).env (cxOf (L2.CX P w) P w G.K mg base N x (defScope st) f cdv A outer s H E).xe := passes_of rfl
    have tk : Takes (cxOf (L2.CX P w) P w G.K mg base N x (defScope st) f cdv A outer s H E) (fun cls d _ H => E cls d H) := takes_of rfl rfl rfl rfl
    have := ((sndS n).ss C lev _ _ d (good (cxOf (L2.CX P w) P w G.K mg base N x (defScope st) f cdv A outer s H E) rfl rfl rfl rfl rfl rfl rfl rfl hr (fun _ => rfl) hx) hd).2
    refine ⟨_, this _ tk, r, Ah, ws.map some ++ List.replicate (N.length - ps.length) none, R, srel_start p N l, ?_⟩
    refine md _ _ ⟨fun _ A' => kv G r H Q .non A', kv G r H Q, fun _ _ => False, fun _ _ => False, fun e _ A' => kf G r H E e A'⟩ _ ⟨fun t A' h r' H' s' E' R' S' => ?_, fun v A' h => h, fun _ _ z => z.elim, fun _ _ z => z.elim, fun e t A' h r' H' s' c dd E' R' S' x' => ?_⟩ q
    · exact h r' H' _ E' R' (by simp only [Rep])
    · exact h r' H' c dd E' R' x'
theorem fok {x : Str} {st : Stmt} {N ps : List Str} {n lev : Nat} {C : Ctx} {d : DenS} (F : Has G.K mg x st ps) (S : FnScope N ps (defScope st)) (hN : C.N = N) (hsc : C.sc = defScope st) (hlv : ∀ fi ∈ C.funs, fi.lev ≤ lev)
    (hfun : ∀ fi ∈ C.funs, FOkM P w G mg base fi) (hb : ∀ y ∈ bltNames, mg y = none) (hroom : Room lev callerA) (hd : compSs n C (defBody st) = some d) : FOkM P w G mg base ⟨x, lev + 1, fDen N.length ps.length d⟩ := by
  obtain ⟨f, fd, hmg, F, B⟩ := F.ex
  obtain ⟨h, m⟩ := fok_fn (P := P) (w := w) (mg := mg) (base := base) F S hN hsc hlv hfun hb hroom hd
  exact ⟨⟨f, fd, ps, hmg, h, F.kp, B⟩, m⟩
theorem FOkM.up {fi : FI} {lev : Nat} (h : FOkM P w G mg base fi) (hl : fi.lev ≤ lev) : FOkM P w G mg base ⟨fi.name, lev, fi.fn⟩ := by
  obtain ⟨⟨f, fd, ps, e, F, k, B⟩, m⟩ := h
  exact ⟨⟨f, fd, ps, e, F.mono hl, k, B⟩, m⟩
theorem has_mk {K : PySem.W.Frag} {x : Str} {st : Stmt} {ps : List Str} {f : Addr} {oc : Value} {od an : Option Addr} {osl : Array (Option Value)} {kV doc pm cdv ct : Value} (hm : mg x = some (.ref f)) (l : K.lookup f = some ⟨oc, od, .func (PySem.W.fnOf x x (defArgs st) (defBody st) (defScope st) .none kV doc pm an cdv ct), osl⟩)
    (c : PySem.W.codeIn K cdv x = true) (k : PySem.W.keepIn K (.ref f) = true) (h : ∀ (kV doc pm : Value) (an : Option Addr) (cdv ct : Value) (us : List Value), us.length = ps.length → bindArgs (PySem.W.fnOf x x (defArgs st) (defBody st) (defScope st) .none kV doc pm an cdv ct) ⟨us, []⟩ = pure (ps.zip us)) : Has K mg x st ps :=
  have F := fun_mk (st := st) l c k
  ⟨⟨f, _, hm, F, F.binds h⟩⟩
theorem Has.none {x : Str} {st : Stmt} {ps : List Str} {k : Nat} (F : Has G.K mg x st ps) : FOkM P w G mg base ⟨x, k, fun _ _ _ _ => False⟩ := by
  obtain ⟨f, fd, hmg, F, B⟩ := F.ex
  refine ⟨⟨f, fd, ps, hmg, ⟨fun vs H Q E ⟨_, _, _, _, _, z⟩ => z.elim, fun A outer s H args us vs Q E _ _ _ _ ⟨_, _, _, _, _, z⟩ => z.elim⟩, F.kp, B⟩, fun _ _ _ _ _ _ _ _ z => z⟩
end
end EV

namespace EV
open PySem PySem.Spec PyProof.Rows L2 RZ RT

/-! ### the law's own end -/
/-- what is to be shown in plain Lean -/
def Plain (f : FDen) (n : Nat) : Prop := ∀ ns : List Int, ns.length ≤ n → f [.wl (ns.map Val.int)] [] (fun v _ => v = .bl true) (fun _ _ => False)
theorem reps_intsI {K : PySem.W.Frag} {r : List Addr} {H : Hp} : ∀ ns : List Int, Reps K r H (ns.map Val.int) (ns.map V.int)
  | [] => by simp [Reps]
  | i :: ns => Reps.cons_iff.mpr ⟨_, _, rfl, by simp only [Rep], reps_intsI ns⟩
theorem sp_end {G : Gc} {f : FDen} {n : Nat} (mf : MonoF f) (h : Plain f n) (H : Hp) (a : Addr) (ns : List Int) (hl : ns.length ≤ n) (hO : Only H) (hS : SqL G.K H a (ns.map V.int)) : SpF G f [.ref a] H (fun v _ => v = .bl true) fun _ _ _ => False := by
  refine ⟨[], [], [.wl (ns.map Val.int)], ⟨rfl, List.nodup_nil, fun n a o h => by simp at h⟩, ?_, mf _ _ _ _ _ _ (fun v A' e r' H' x _ _ p => ?_) (fun _ _ z => z.elim) (h ns hl)⟩
  · refine Reps.cons_iff.mpr ⟨_, _, rfl, ?_, by simp [Reps]⟩
    simp only [Rep]
    refine ⟨a, _, rfl, ?_, reps_intsI ns⟩
    rcases hS with h | e
    · rcases h with e | ⟨o, e⟩
      · exfalso
        rcases hO a with z | ⟨o, xs, z⟩
        · rw [z] at e; cases e
        · rw [z] at e; cases e
      · exact .inl ⟨o, e⟩
    · exact .inr fun _ => .inr e
  · subst e
    exact rep_bl p
/-- the law's def: what it keeps, once its callees are known -/
structure LawOk (P : Program) (w : World) (G : Gc) (mg : Str → Option Value) (x : Str) (st : Stmt) (k : Nat) (f : FDen) : Prop where
  ok : ∀ (fa : Addr) (fd : FuncData) (base : Heap), Fun G.K x x st fa fd → FnOk P w G.K mg base (L2.CX P w) k fa fd ["script"] (SpF G f) ∧ MonoF f
theorem walk_ev {l : PySem.W.OpenLaw} {n k : Nat} {q : Program} {loose : List Str} {XP : (Str → Option Value) → Heap → Prop} {YP : World → Heap → Prop} {d : DefRec} {K : Params → PySem.W.Frag} {cn : World → Str → Value → Prop} {f : FDen}
    (hn : l.most = some n) (hn2 : n ≤ sizeLine) (hdf : d.params.defaults = []) (hr : Room k callerA)
    (hY : ∀ (w : World) (h : Heap), YP w h → (K w.params).In h)
    (F : ∀ (w : World) (mg : Str → Option Value) (fa : Addr) (h : Heap), (K w.params).In h → h.Ns mainGlobals mg → mg d.name = some (.ref fa) →
      ∃ fd : FuncData, (∀ (s : Shared) (u : Value), BindsTo s fd ⟨[u], []⟩ [("script", u)]) ∧
        ∀ base : Heap, (K w.params).In base → base.Ns mainGlobals mg → FnOk l.prog w (K w.params) mg base (L2.CX l.prog w) k fa fd ["script"] (SpF ⟨K w.params, cn w⟩ f) ∧ MonoF f)
    (hp : Plain f n) :
    PySem.W.WalkO q loose XP YP l.row.toRowW d [] (fun f vs => PySem.call f vs) := by
  refine L2.walk_of (l := l) (n := n) (k := k) (K := K) (x := "script") (CX := fun w => L2.CX l.prog w) (sp := fun w vs H Q E => MonoF f ∧ SpF ⟨K w.params, cn w⟩ f vs H Q E ∨ ¬ MonoF f ∧ vs.length = 1) hn hn2 hdf hr hY (fun w mg fa h KX G hmg => ?_) (fun w H a ns hl hO hS => ?_) (fun w H s e s' h => ?_)
  · obtain ⟨fd, hb, hF⟩ := F w mg fa h KX G hmg
    refine ⟨fd, hb, fun base KB GB => ?_⟩
    obtain ⟨h1, m⟩ := hF base KB GB
    exact h1.imp fun vs H Q E h => by
      rcases h with h | h
      · exact h.2
      · exact absurd m h.1
  · by_cases m : MonoF f
    · exact .inl ⟨m, sp_end (G := ⟨K w.params, cn w⟩) m hp H a ns hl hO hS⟩
    · exact .inr ⟨m, rfl⟩
  · obtain ⟨_, _, _, _, _, _, _, _, _, _, _, _, z⟩ := h
    exact z.elim
end EV

namespace EV
open PySem PySem.Spec PyProof.Rows L2 RZ RT

/-! ### plain tools: loops -/
def ForL (g : DenG) (b : DenS) (D : EndsA) : List Val → Lv → AH → Prop
  | [], t, A => D.nx t A
  | v :: vs, t, A => g v t A (fun t2 A2 => b t2 A2 (D.lp (ForL g b D vs)))
theorem forJ_of {J : Wk} {g : DenG} {b : DenS} {vs : List Val} {t : Lv} {A : AH} {D : EndsA} (hJ : ∀ i A, J i A = some vs[i]?) (h : ForL g b D vs t A) : sForJ J g b t A D := by
  unfold sForJ
  refine ⟨fun i m t A => i + m = vs.length ∧ ForL g b D (vs.drop i) t A, ⟨vs.length, by simp, by simpa using h⟩, fun i m t A ⟨e, h⟩ => ?_⟩
  rw [hJ]
  cases q : vs[i]? with
  | none =>
    have : vs.length ≤ i := List.getElem?_eq_none_iff.mp q
    rw [List.drop_eq_nil_of_le this] at h
    exact .inl ⟨rfl, h⟩
  | some v =>
    obtain ⟨hi, hv⟩ := List.getElem?_eq_some_iff.mp q
    rw [List.drop_eq_getElem_cons hi, hv] at h
    exact .inr ⟨v, rfl, ForL g b D (vs.drop (i + 1)), fun t' A' h' => ⟨m - 1, by omega, by omega, h'⟩, h⟩
/-- over a list of the heap: it stays as it is -/
def ForH (n : Nat) (xs : List Val) (g : DenG) (b : DenS) (D : EndsA) : List Val → Lv → AH → Prop
  | [], t, A => A[n]? = some (.lst xs) ∧ D.nx t A
  | v :: vs, t, A => A[n]? = some (.lst xs) ∧ g v t A (fun t2 A2 => b t2 A2 (D.lp (ForH n xs g b D vs)))
theorem ForH.at {n : Nat} {xs : List Val} {g : DenG} {b : DenS} {D : EndsA} {vs : List Val} {t : Lv} {A : AH} (h : ForH n xs g b D vs t A) : A[n]? = some (.lst xs) := by
  cases vs <;> exact h.1
theorem forJ_ref {n : Nat} {g : DenG} {b : DenS} {xs : List Val} {t : Lv} {A : AH} {D : EndsA} (h : ForH n xs g b D xs t A) : sForJ (wkL n) g b t A D := by
  unfold sForJ
  refine ⟨fun i m t A => i + m = xs.length ∧ ForH n xs g b D (xs.drop i) t A, ⟨xs.length, by simp, by simpa using h⟩, fun i m t A ⟨e, h⟩ => ?_⟩
  have hw : wkL n i A = some xs[i]? := by unfold wkL; rw [h.at]
  rw [hw]
  cases q : xs[i]? with
  | none =>
    have : xs.length ≤ i := List.getElem?_eq_none_iff.mp q
    rw [List.drop_eq_nil_of_le this] at h
    exact .inl ⟨rfl, h.2⟩
  | some v =>
    obtain ⟨hi, hv⟩ := List.getElem?_eq_some_iff.mp q
    rw [List.drop_eq_getElem_cons hi, hv] at h
    exact .inr ⟨v, rfl, ForH n xs g b D (xs.drop (i + 1)), fun t' A' h' => ⟨m - 1, by omega, by omega, h'⟩, h.2⟩
def rngL (lo c : Int) (n : Nat) : List Val := (List.range n).map fun i : Nat => .int (lo + (i : Int) * c)
theorem forJ_tup {vs : List Val} {g : DenG} {b : DenS} {t : Lv} {A : AH} {D : EndsA} (h : ForL g b D vs t A) : sForJ (wkT vs) g b t A D := forJ_of (fun _ _ => rfl) h
theorem rng_at (lo c : Int) (n i : Nat) : (rngL lo c n)[i]? = if i < n then some (.int (lo + (i : Int) * c)) else none := by
  unfold rngL
  rw [List.getElem?_map]
  by_cases h : i < n
  · rw [if_pos h, List.getElem?_range h]; rfl
  · rw [if_neg h, List.getElem?_eq_none (by simpa using h)]; rfl
theorem forJ_rng {lo c : Int} {n : Nat} {g : DenG} {b : DenS} {t : Lv} {A : AH} {D : EndsA} (h : ForL g b D (rngL lo c n) t A) : sForJ (wkR lo c n) g b t A D := forJ_of (fun i _ => by rw [rng_at]; rfl) h
/-- comprehensions -/
def LcL (tg : Tg) (tt : DenT) (e : Den) (t : Lv) (Q : List Val → AH → Prop) : List Val → List Val → AH → Prop
  | [], acc, A => Q acc A
  | v :: r, acc, A => ∃ t2, bindT tg v t = some t2 ∧ tt t2 A (fun b A3 => bI b (e t2 A3 (fun y A4 => acc.length < sizeLine ∧ LcL tg tt e t Q r (acc ++ [y]) A4) nox) (LcL tg tt e t Q r acc A3)) nox
theorem lcJ_of {J : Wk} {tg : Tg} {tt : DenT} {e : Den} {vs : List Nat} {xs : List Val} {t : Lv} {A : AH} {Q : VQ} (hJ : ∀ i A, J i A = some xs[i]?) (h : LcL tg tt e (wipeV t vs) (fun acc A => Q (.ref A.length) (A ++ [.lst acc])) xs [] A) : dLcJ J tg tt e vs t A Q := by
  unfold dLcJ
  refine ⟨fun i m acc A => i + m = xs.length ∧ LcL tg tt e (wipeV t vs) (fun acc A => Q (.ref A.length) (A ++ [.lst acc])) (xs.drop i) acc A, ⟨xs.length, by simp, by simpa using h⟩, fun i m acc A ⟨em, h⟩ => ?_⟩
  rw [hJ]
  cases q : xs[i]? with
  | none =>
    have : xs.length ≤ i := List.getElem?_eq_none_iff.mp q
    rw [List.drop_eq_nil_of_le this] at h
    exact .inl ⟨rfl, h⟩
  | some v =>
    obtain ⟨hi, hv⟩ := List.getElem?_eq_some_iff.mp q
    rw [List.drop_eq_getElem_cons hi, hv] at h
    obtain ⟨t2, e2, h⟩ := h
    rw [bI_eq] at h
    exact .inr ⟨v, t2, rfl, e2, fun acc A => LcL tg tt e (wipeV t vs) (fun acc A => Q (.ref A.length) (A ++ [.lst acc])) (xs.drop (i + 1)) acc A, fun t' A' h' => ⟨m - 1, by omega, by omega, h'⟩, h⟩
theorem lcJ_tup {xs : List Val} {tg : Tg} {tt : DenT} {e : Den} {vs : List Nat} {t : Lv} {A : AH} {Q : VQ} (h : LcL tg tt e (wipeV t vs) (fun acc A => Q (.ref A.length) (A ++ [.lst acc])) xs [] A) : dLcJ (wkT xs) tg tt e vs t A Q := lcJ_of (fun _ _ => rfl) h
theorem lcJ_rng {lo c : Int} {n : Nat} {tg : Tg} {tt : DenT} {e : Den} {vs : List Nat} {t : Lv} {A : AH} {Q : VQ} (h : LcL tg tt e (wipeV t vs) (fun acc A => Q (.ref A.length) (A ++ [.lst acc])) (rngL lo c n) [] A) : dLcJ (wkR lo c n) tg tt e vs t A Q := lcJ_of (fun i _ => by rw [rng_at]; rfl) h
/-- over a list of the heap -/
def LcH (n : Nat) (xs : List Val) (tg : Tg) (tt : DenT) (e : Den) (t : Lv) (Q : List Val → AH → Prop) : List Val → List Val → AH → Prop
  | [], acc, A => A[n]? = some (.lst xs) ∧ Q acc A
  | v :: r, acc, A => A[n]? = some (.lst xs) ∧ ∃ t2, bindT tg v t = some t2 ∧ tt t2 A (fun b A3 => bI b (e t2 A3 (fun y A4 => acc.length < sizeLine ∧ LcH n xs tg tt e t Q r (acc ++ [y]) A4) nox) (LcH n xs tg tt e t Q r acc A3)) nox
theorem LcH.at {n : Nat} {xs : List Val} {tg : Tg} {tt : DenT} {e : Den} {t : Lv} {Q : List Val → AH → Prop} {r acc : List Val} {A : AH} (h : LcH n xs tg tt e t Q r acc A) : A[n]? = some (.lst xs) := by
  cases r <;> exact h.1
theorem lcJ_ref {n : Nat} {xs : List Val} {tg : Tg} {tt : DenT} {e : Den} {vs : List Nat} {t : Lv} {A : AH} {Q : VQ} (h : LcH n xs tg tt e (wipeV t vs) (fun acc A => Q (.ref A.length) (A ++ [.lst acc])) xs [] A) : dLcJ (wkL n) tg tt e vs t A Q := by
  unfold dLcJ
  refine ⟨fun i m acc A => i + m = xs.length ∧ LcH n xs tg tt e (wipeV t vs) (fun acc A => Q (.ref A.length) (A ++ [.lst acc])) (xs.drop i) acc A, ⟨xs.length, by simp, by simpa using h⟩, fun i m acc A ⟨em, h⟩ => ?_⟩
  have hw : wkL n i A = some xs[i]? := by unfold wkL; rw [h.at]
  rw [hw]
  cases q : xs[i]? with
  | none =>
    have : xs.length ≤ i := List.getElem?_eq_none_iff.mp q
    rw [List.drop_eq_nil_of_le this] at h
    exact .inl ⟨rfl, h.2⟩
  | some v =>
    obtain ⟨hi, hv⟩ := List.getElem?_eq_some_iff.mp q
    rw [List.drop_eq_getElem_cons hi, hv] at h
    obtain ⟨_, t2, e2, h⟩ := h
    rw [bI_eq] at h
    exact .inr ⟨v, t2, rfl, e2, fun acc A => LcH n xs tg tt e (wipeV t vs) (fun acc A => Q (.ref A.length) (A ++ [.lst acc])) (xs.drop (i + 1)) acc A, fun t' A' h' => ⟨m - 1, by omega, by omega, h'⟩, h⟩

/-! ### pure tests and pure values -/
def EvT (tt : DenT) (t : Lv) (A : AH) (b : Bool) : Prop := ∀ (J : AH) (Q : Bool → AH → Prop) (E : XQ), (∀ J', Q b (A ++ J')) → tt t (A ++ J) Q E
def EvE (e : Den) (t : Lv) (A : AH) (v : Val) : Prop := ∀ (J : AH) (Q : VQ) (E : XQ), (∀ J', Q v (A ++ J')) → e t (A ++ J) Q E
theorem lcL_pure {tg : Tg} {tt : DenT} {e : Den} {t : Lv} {Q : List Val → AH → Prop} {A : AH} {f : Val → Bool} {y : Val → Val} : ∀ {xs acc : List Val} {J : AH},
    (∀ v ∈ xs, ∃ t2, bindT tg v t = some t2 ∧ EvT tt t2 A (f v) ∧ (f v = true → EvE e t2 A (y v))) → acc.length + xs.length ≤ sizeLine → (∀ J', Q (acc ++ (xs.filter f).map y) (A ++ J')) → LcL tg tt e t Q xs acc (A ++ J)
  | [], acc, J, _, _, h => by simpa [LcL] using h J
  | v :: xs, acc, J, hx, hl, h => by
    obtain ⟨t2, e2, ht, he⟩ := hx v List.mem_cons_self
    have hx' : ∀ w ∈ xs, _ := fun w hw => hx w (List.mem_cons_of_mem _ hw)
    simp only [List.length_cons] at hl
    unfold LcL
    refine ⟨t2, e2, ht _ _ _ fun J' => bI_in (fun hf => ?_) (fun hf => ?_)⟩
    · refine he hf _ _ _ fun J'' => ⟨by omega, lcL_pure hx' (by simp only [List.length_append, List.length_cons, List.length_nil]; omega) fun J3 => ?_⟩
      have := h J3
      rw [List.filter_cons_of_pos hf, List.map_cons] at this
      simpa using this
    · refine lcL_pure hx' (by omega) fun J3 => ?_
      have := h J3
      rw [List.filter_cons_of_neg (by simp [hf])] at this
      exact this
end EV

namespace EV
open PySem PySem.Spec PyProof.Rows L2 RZ RT

/-! ### equations at full arguments (printed by eqs.py) -/
theorem x_dVar (i : Nat) (t : Lv) (A : AH) (Q : VQ) (z1 : XQ) : dVar i t A Q z1 = (∃ v, t[i]? = some (some v) ∧ Q v A) := rfl
theorem x_dLit (v : Val) (z1 : Lv) (A : AH) (Q : VQ) (z2 : XQ) : dLit v z1 A Q z2 = (Q v A) := rfl
theorem x_dOp (o : Op2) (da db : Den) (t : Lv) (A : AH) (Q : VQ) (E : XQ) : dOp o da db t A Q E = (da t A (fun x A1 => db t A1 (fun y A2 => o x y A2 Q) E) E) := rfl
theorem x_dUn (o : Op1) (da : Den) (t : Lv) (A : AH) (Q : VQ) (E : XQ) : dUn o da t A Q E = (da t A (fun x A1 => o x A1 Q) E) := rfl
theorem x_aNil (z1 : Lv) (A : AH) (Q : (List Val → AH → Prop)) (z2 : XQ) : aNil  z1 A Q z2 = (Q [] A) := rfl
theorem x_aCons (d : Den) (r : DenA) (t : Lv) (A : AH) (Q : (List Val → AH → Prop)) (E : XQ) : aCons d r t A Q E = (d t A (fun x A1 => r t A1 (fun xs A2 => Q (x :: xs) A2) E) E) := rfl
theorem x_dTup (d : DenA) (t : Lv) (A : AH) (Q : VQ) (E : XQ) : dTup d t A Q E = (d t A (fun xs A1 => Q (.tup xs) A1) E) := rfl
theorem x_dLst (d : DenA) (t : Lv) (A : AH) (Q : VQ) (E : XQ) : dLst d t A Q E = (d t A (fun xs A1 => Q (.ref A1.length) (A1 ++ [.lst xs])) E) := rfl
theorem x_dCB (o : OpN) (d : DenA) (t : Lv) (A : AH) (Q : VQ) (E : XQ) : dCB o d t A Q E = (d t A (fun xs A1 => o xs A1 Q) E) := rfl
theorem x_dMe (o : Val → OpN) (ty : Val → AH → Prop) (d : Den) (a : DenA) (t : Lv) (A : AH) (Q : VQ) (E : XQ) : dMe o ty d a t A Q E = (d t A (fun x A1 => ty x A1 ∧ a t A1 (fun xs A2 => o x xs A2 Q) E) E) := rfl
theorem x_dCall (f : FDen) (d : DenA) (t : Lv) (A : AH) (Q : VQ) (E : XQ) : dCall f d t A Q E = (d t A (fun xs A1 => f xs A1 Q E) E) := rfl
theorem x_dIf (c : DenT) (a b : Den) (t : Lv) (A : AH) (Q : VQ) (E : XQ) : dIf c a b t A Q E = (c t A (fun k A1 => if k = true then a t A1 Q E else b t A1 Q E) E) := rfl
theorem x_tVal (d : Den) (t : Lv) (A : AH) (Q : (Bool → AH → Prop)) (E : XQ) : tVal d t A Q E = (d t A (fun v A1 => ∃ k, v = .bl k ∧ Q k A1) E) := rfl
theorem x_tNot (d : DenT) (t : Lv) (A : AH) (Q : (Bool → AH → Prop)) (E : XQ) : tNot d t A Q E = (d t A (fun k A1 => Q (!k) A1) E) := rfl
theorem x_tAnd (a b : DenT) (t : Lv) (A : AH) (Q : (Bool → AH → Prop)) (E : XQ) : tAnd a b t A Q E = (a t A (fun k A1 => if k = true then b t A1 Q E else Q false A1) E) := rfl
theorem x_tOr (a b : DenT) (t : Lv) (A : AH) (Q : (Bool → AH → Prop)) (E : XQ) : tOr a b t A Q E = (a t A (fun k A1 => if k = true then Q true A1 else b t A1 Q E) E) := rfl
theorem x_tTru (d : Den) (t : Lv) (A : AH) (Q : (Bool → AH → Prop)) (E : XQ) : tTru d t A Q E = (d t A (fun v A1 => tru v A1 Q) E) := rfl
theorem x_dAndV (a b : Den) (t : Lv) (A : AH) (Q : VQ) (E : XQ) : dAndV a b t A Q E = (a t A (fun x A1 => ∃ k, truB A1 x = some k ∧ if k = true then b t A1 Q E else Q x A1) E) := rfl
theorem x_dOrV (a b : Den) (t : Lv) (A : AH) (Q : VQ) (E : XQ) : dOrV a b t A Q E = (a t A (fun x A1 => ∃ k, truB A1 x = some k ∧ if k = true then Q x A1 else b t A1 Q E) E) := rfl
theorem x_dNotV (a : Den) (t : Lv) (A : AH) (Q : VQ) (E : XQ) : dNotV a t A Q E = (a t A (fun x A1 => ∃ k, truB A1 x = some k ∧ Q (.bl (!k)) A1) E) := rfl
theorem x_sSkip (t : Lv) (A : AH) (D : EndsA) : sSkip  t A D = (D.nx t A) := rfl
theorem x_sSeq (a b : DenS) (t : Lv) (A : AH) (D : EndsA) : sSeq a b t A D = (a t A ⟨fun t A => b t A D, D.rt, D.bk, D.ct, D.ex⟩) := rfl
theorem x_sExpr (d : Den) (t : Lv) (A : AH) (D : EndsA) : sExpr d t A D = (d t A (fun _ A1 => D.nx t A1) (fun e A1 => D.ex e t A1)) := rfl
theorem x_sRet (d : Den) (t : Lv) (A : AH) (D : EndsA) : sRet d t A D = (d t A D.rt (fun e A1 => D.ex e t A1)) := rfl
theorem x_sRetN (z1 : Lv) (A : AH) (D : EndsA) : sRetN  z1 A D = (D.rt .non A) := rfl
theorem x_sIf (c : DenT) (a b : DenS) (t : Lv) (A : AH) (D : EndsA) : sIf c a b t A D = (c t A (fun k A1 => if k = true then a t A1 D else b t A1 D) (fun e A1 => D.ex e t A1)) := rfl
theorem x_sBreak (t : Lv) (A : AH) (D : EndsA) : sBreak  t A D = (D.bk t A) := rfl
theorem x_sCont (t : Lv) (A : AH) (D : EndsA) : sCont  t A D = (D.ct t A) := rfl
theorem x_gName (i : Nat) (v : Val) (t : Lv) (A : AH) (Q : (Lv → AH → Prop)) : gName i v t A Q = (Q (t.set i (some v)) A) := rfl
theorem x_gsNil (vs : (List Val)) (t : Lv) (A : AH) (Q : (Lv → AH → Prop)) : gsNil  vs t A Q = (vs = [] ∧ Q t A) := rfl
theorem x_gsCons (g : DenG) (gs : DenGs) (vs : (List Val)) (t : Lv) (A : AH) (Q : (Lv → AH → Prop)) : gsCons g gs vs t A Q = (∃ v r, vs = v :: r ∧ g v t A (fun t1 A1 => gs r t1 A1 Q)) := rfl
theorem x_gTup (n : Nat) (gs : DenGs) (v : Val) (t : Lv) (A : AH) (Q : (Lv → AH → Prop)) : gTup n gs v t A Q = (∃ xs, (v = .tup xs ∨ v = .wt xs) ∧ xs.length = n ∧ gs xs t A Q) := rfl
theorem x_gSub (o i : Den) (st : OpSet) (v : Val) (t : Lv) (A : AH) (Q : (Lv → AH → Prop)) : gSub o i st v t A Q = (o t A (fun x A1 => i t A1 (fun y A2 => st x y v A2 (fun A3 => Q t A3)) nox) nox) := rfl
theorem x_sAsg (d : Den) (g : DenG) (t : Lv) (A : AH) (D : EndsA) : sAsg d g t A D = (d t A (fun v A1 => g v t A1 D.nx) (fun e A1 => D.ex e t A1)) := rfl
theorem x_sPar (i j : Nat) (d : DenA) (t : Lv) (A : AH) (D : EndsA) : sPar i j d t A D = (d t A (fun vs A1 => ∃ v w, vs = [v, w] ∧ D.nx ((t.set i (some v)).set j (some w)) A1) (fun e A1 => D.ex e t A1)) := rfl
theorem x_sAug (i : Nat) (o : Op2) (d : Den) (t : Lv) (A : AH) (D : EndsA) : sAug i o d t A D = (∃ x, t[i]? = some (some x) ∧ d t A (fun y A1 => o x y A1 (fun z A2 => D.nx (t.set i (some z)) A2)) (fun e A1 => D.ex e t A1)) := rfl
theorem x_iVal (d : Den) (t : Lv) (A : AH) (Q : (Wk → AH → Prop)) (E : XQ) : iVal d t A Q E = (d t A (fun v A1 => match v with
  | .tup vs => Q (wkT vs) A1
  | .wt vs => Q (wkT vs) A1
  | .ref n => (∃ xs, lstAt A1 n = some xs) ∧ Q (wkL n) A1
  | .str x => Q (wkS x) A1
  | _ => False) E) := rfl
theorem x_iRng1 (d : DenA) (t : Lv) (A : AH) (Q : (Wk → AH → Prop)) (E : XQ) : iRng1 d t A Q E = (d t A (fun vs A1 => ∃ j, vs = [.int j] ∧ sm62 j ∧ Q (wkR 0 1 j.toNat) A1) E) := rfl
theorem x_iRng2 (d : DenA) (t : Lv) (A : AH) (Q : (Wk → AH → Prop)) (E : XQ) : iRng2 d t A Q E = (d t A (fun vs A1 => ∃ i j, vs = [.int i, .int j] ∧ sm62 i ∧ sm62 j ∧ Q (wkR i 1 (j - i).toNat) A1) E) := rfl
theorem x_iRng3 (d : DenA) (t : Lv) (A : AH) (Q : (Wk → AH → Prop)) (E : XQ) : iRng3 d t A Q E = (d t A (fun vs A1 => ∃ i j, vs = [.int i, .int j, .int (-1)] ∧ sm62 i ∧ sm62 j ∧ Q (wkR i (-1) (i - j).toNat) A1) E) := rfl
theorem x_iRev (d : Den) (t : Lv) (A : AH) (Q : (Wk → AH → Prop)) (E : XQ) : iRev d t A Q E = (d t A (fun v A1 => match v with
  | .tup vs => Q (wkT vs.reverse) A1
  | .wt vs => Q (wkT vs.reverse) A1
  | .ref n => ∃ xs, lstAt A1 n = some xs ∧ Q (wkV n xs.length) A1
  | _ => False) E) := rfl
theorem x_iEnum (d : DenA) (t : Lv) (A : AH) (Q : (Wk → AH → Prop)) (E : XQ) : iEnum d t A Q E = (d t A (fun vs A1 => ∃ n xs, vs = [.ref n] ∧ lstAt A1 n = some xs ∧ Q (wkE (wkL n)) A1) E) := rfl
theorem x_iZip (d : DenA) (t : Lv) (A : AH) (Q : (Wk → AH → Prop)) (E : XQ) : iZip d t A Q E = (d t A (fun vs A1 => (∃ n m xs ys, vs = [.ref n, .ref m] ∧ lstAt A1 n = some xs ∧ lstAt A1 m = some ys ∧ Q (wkZ (wkL n) (wkL m)) A1) ∨ (∃ v w xs ys, vs = [v, w] ∧ (v = .tup xs ∨ v = .wt xs) ∧ (w = .tup ys ∨ w = .wt ys) ∧ Q (wkZ (wkT xs) (wkT ys)) A1)) E) := rfl
theorem x_tYesV (z1 : Lv) (A : AH) (Q : (Bool → AH → Prop)) (z2 : XQ) : tYesV  z1 A Q z2 = (Q true A) := rfl
theorem x_pNo (z1 : Lv) (A : AH) (Q : (Option Int → AH → Prop)) (z2 : XQ) : pNo  z1 A Q z2 = (Q none A) := rfl
theorem x_pSo (d : Den) (t : Lv) (A : AH) (Q : (Option Int → AH → Prop)) (E : XQ) : pSo d t A Q E = (d t A (fun v A1 => ∃ i, v = .int i ∧ Q (some i) A1) E) := rfl
theorem x_dSl (d : Den) (lo hi : DenO) (t : Lv) (A : AH) (Q : VQ) (E : XQ) : dSl d lo hi t A Q E = (d t A (fun x A1 => lo t A1 (fun l A2 => hi t A2 (fun u A3 => oSl x l u A3 Q) E) E) E) := rfl
theorem x_dNewK (z1 : Lv) (A : AH) (Q : VQ) (z2 : XQ) : dNewK  z1 A Q z2 = (Q (.ref A.length) (A ++ [.dk []])) := rfl
theorem x_dNewT (z1 : Lv) (A : AH) (Q : VQ) (z2 : XQ) : dNewT  z1 A Q z2 = (Q (.ref A.length) (A ++ [.dt []])) := rfl

/-! ### values of options, slots -/
def ex1 {α : Type} (o : Option α) (P : α → Prop) : Prop := match o with
  | some v => P v
  | none => False
theorem ex1_some {α : Type} (v : α) (P : α → Prop) : ex1 (some v) P = P v := rfl
theorem ex1_iff {α : Type} (o : Option α) (P : α → Prop) : ex1 o P ↔ ∃ v, o = some v ∧ P v := by
  cases o with
  | none => simp [ex1]
  | some v => simp [ex1]
theorem ex1_of {α : Type} {o : Option α} {P : α → Prop} {v : α} (h : o = some v) (q : P v) : ex1 o P := by subst h; exact q
def gv (t : Lv) (i : Nat) : Option Val := match t, i with
  | [], _ => none
  | x :: _, 0 => x
  | _ :: t, i + 1 => gv t i
theorem gv_eq : ∀ (t : Lv) (i : Nat), gv t i = (t[i]?).bind id
  | [], i => by simp [gv]
  | x :: t, 0 => by simp [gv]
  | x :: t, i + 1 => by simp [gv, gv_eq t i]
theorem gv0 (x : Option Val) (t : Lv) : gv (x :: t) 0 = x := rfl
theorem gvS (x : Option Val) (t : Lv) (i : Nat) : gv (x :: t) (i + 1) = gv t i := rfl
theorem gv_iff (t : Lv) (i : Nat) (P : Val → Prop) : (∃ v, t[i]? = some (some v) ∧ P v) = ex1 (gv t i) P := by
  rw [gv_eq]
  cases e : t[i]? with
  | none => simp [ex1]
  | some o =>
    cases o with
    | none => simp [ex1]
    | some v => simp [ex1]
theorem y_dVar (i : Nat) (t : Lv) (A : AH) (Q : VQ) (E : XQ) : dVar i t A Q E = ex1 (gv t i) (fun v => Q v A) := by rw [x_dVar, gv_iff]
theorem y_sAug (i : Nat) (o : Op2) (d : Den) (t : Lv) (A : AH) (D : EndsA) : sAug i o d t A D = ex1 (gv t i) fun x => d t A (fun y A1 => o x y A1 (fun z A2 => D.nx (t.set i (some z)) A2)) (fun e A1 => D.ex e t A1) := by rw [x_sAug, gv_iff]
theorem y_tVal (d : Den) (t : Lv) (A : AH) (Q : (Bool → AH → Prop)) (E : XQ) : tVal d t A Q E = (d t A (fun v A1 => ex1 (match v with | .bl k => some k | _ => none) fun k => Q k A1) E) := by
  rw [x_tVal]
  congr 1
  funext v A1
  cases v <;> simp [ex1]
theorem y_tTru (d : Den) (t : Lv) (A : AH) (Q : (Bool → AH → Prop)) (E : XQ) : tTru d t A Q E = (d t A (fun v A1 => ex1 (truB A1 v) fun k => Q k A1) E) := by
  rw [x_tTru]
  congr 1
  funext v A1
  rw [eq_iff_iff, ex1_iff]; rfl
theorem y_dAndV (a b : Den) (t : Lv) (A : AH) (Q : VQ) (E : XQ) : dAndV a b t A Q E = (a t A (fun x A1 => ex1 (truB A1 x) fun k => if k = true then b t A1 Q E else Q x A1) E) := by
  rw [x_dAndV]; congr 1; funext v A1; rw [eq_iff_iff, ex1_iff]
theorem y_dOrV (a b : Den) (t : Lv) (A : AH) (Q : VQ) (E : XQ) : dOrV a b t A Q E = (a t A (fun x A1 => ex1 (truB A1 x) fun k => if k = true then Q x A1 else b t A1 Q E) E) := by
  rw [x_dOrV]; congr 1; funext v A1; rw [eq_iff_iff, ex1_iff]
theorem y_dNotV (a : Den) (t : Lv) (A : AH) (Q : VQ) (E : XQ) : dNotV a t A Q E = (a t A (fun x A1 => ex1 (truB A1 x) fun k => Q (.bl (!k)) A1) E) := by
  rw [x_dNotV]; congr 1; funext v A1; rw [eq_iff_iff, ex1_iff]
theorem y_gsCons (g : DenG) (gs : DenGs) (v : Val) (vs : List Val) (t : Lv) (A : AH) (Q : (Lv → AH → Prop)) : gsCons g gs (v :: vs) t A Q = g v t A (fun t1 A1 => gs vs t1 A1 Q) := by
  rw [x_gsCons, eq_iff_iff]
  constructor
  · rintro ⟨v', r, e, h⟩; cases e; exact h
  · exact fun h => ⟨v, vs, rfl, h⟩
theorem y_gsNil (t : Lv) (A : AH) (Q : (Lv → AH → Prop)) : gsNil [] t A Q = Q t A := by simp [x_gsNil]
theorem y_gTup (n : Nat) (gs : DenGs) (vs : List Val) (t : Lv) (A : AH) (Q : (Lv → AH → Prop)) : gTup n gs (.tup vs) t A Q = (vs.length = n ∧ gs vs t A Q) := by
  rw [x_gTup, eq_iff_iff]
  constructor
  · rintro ⟨xs, e | e, h⟩ <;> cases e; exact h
  · exact fun h => ⟨vs, .inl rfl, h⟩
theorem y_pSo (d : Den) (t : Lv) (A : AH) (Q : Option Int → AH → Prop) (E : XQ) : pSo d t A Q E = d t A (fun v A1 => ex1 (match v with | .int i => some i | _ => none) fun i => Q (some i) A1) E := by
  rw [x_pSo]; congr 1; funext v A1; cases v <;> simp [ex1]

/-! ### operations -/
section
variable (A : AH) (Q : VQ)
theorem y_addI (i j : Int) : oAdd (.int i) (.int j) A Q = Q (.int (i + j)) A := rfl
theorem y_addT (xs ys : List Val) : oAdd (.tup xs) (.tup ys) A Q = (xs.length + ys.length ≤ sizeLine ∧ Q (.tup (xs ++ ys)) A) := rfl
theorem y_addS (x y : Str) : oAdd (.str x) (.str y) A Q = (x.length + y.length ≤ sizeLine ∧ Q (.str (x ++ y)) A) := rfl
theorem y_addL (n m : Nat) : oAdd (.ref n) (.ref m) A Q = ex1 (lstAt A n) fun xs => ex1 (lstAt A m) fun ys => xs.length + ys.length ≤ sizeLine ∧ Q (.ref A.length) (A ++ [.lst (xs ++ ys)]) := by
  show (∃ xs ys, A[n]? = some (.lst xs) ∧ A[m]? = some (.lst ys) ∧ xs.length + ys.length ≤ sizeLine ∧ Q (.ref A.length) (A ++ [.lst (xs ++ ys)])) = _
  rw [eq_iff_iff]
  unfold lstAt
  constructor
  · rintro ⟨xs, ys, e1, e2, h⟩
    rw [e1, e2]; exact h
  · intro h
    simp only [ex1_iff] at h
    obtain ⟨xs, e1, ys, e2, h⟩ := h
    split at e1 <;> cases e1
    split at e2 <;> cases e2
    exact ⟨_, _, ‹_›, ‹_›, h⟩
theorem y_int (f : Int → Int → Int) (i j : Int) : oInt f (.int i) (.int j) A Q = Q (.int (f i j)) A := rfl
theorem y_intC (C : Int → Int → Prop) (f : Int → Int → Int) (i j : Int) : oIntC C f (.int i) (.int j) A Q = (C i j ∧ Q (.int (f i j)) A) := rfl
theorem y_mulI (i j : Int) : oMul (.int i) (.int j) A Q = (CMul i j ∧ Q (.int (i * j)) A) := rfl
theorem y_mulL (n : Nat) (k : Int) : oMul (.ref n) (.int k) A Q = ex1 (lstAt A n) fun xs => (-(2 ^ 63) ≤ k ∧ k < 2 ^ 63) ∧ xs.length * k.toNat ≤ sizeLine ∧ Q (.ref A.length) (A ++ [.lst (List.replicate k.toNat xs).flatten]) := by
  show (∃ xs, A[n]? = some (.lst xs) ∧ -(2 ^ 63) ≤ k ∧ k < 2 ^ 63 ∧ xs.length * k.toNat ≤ sizeLine ∧ Q (.ref A.length) (A ++ [.lst (List.replicate k.toNat xs).flatten])) = _
  rw [eq_iff_iff]
  unfold lstAt
  constructor
  · rintro ⟨xs, e1, h1, h2, h⟩
    rw [e1]; exact ⟨⟨h1, h2⟩, h⟩
  · intro h
    simp only [ex1_iff] at h
    obtain ⟨xs, e1, h⟩ := h
    split at e1 <;> cases e1
    exact ⟨_, ‹_›, h.1.1, h.1.2, h.2⟩
theorem y_neg (i : Int) : oNeg (.int i) A Q = Q (.int (-i)) A := rfl
theorem y_ord (f : Int → Int → Bool) (i j : Int) : oOrd f (.int i) (.int j) A Q = Q (.bl (f i j)) A := rfl
theorem y_isN (neg : Bool) (x : Val) : oIs neg x .non A Q = Q (.bl (xor neg (isNonV x))) A := rfl
theorem y_ixT (xs : List Val) (i : Int) : oIx (.tup xs) (.int i) A Q = ex1 (atI xs i) fun v => Q v A := by
  show (∃ i' v, Val.int i = .int i' ∧ atI xs i' = some v ∧ Q v A) = _
  rw [eq_iff_iff, ex1_iff]
  constructor
  · rintro ⟨i', v, e, h⟩; cases e; exact ⟨v, h⟩
  · rintro ⟨v, h⟩; exact ⟨i, v, rfl, h⟩
theorem dAt_lst {n : Nat} {xs : List Val} {x : Val} (h : A[n]? = some (.lst xs)) : dAt A n x = none := by unfold dAt; rw [h]
theorem y_ixR (n : Nat) (i : Int) : oIx (.ref n) (.int i) A Q = ex1 A[n]? fun o => match o with
    | .lst xs => ex1 (atI xs i) fun v => Q v A
    | .dk kvs => ex1 (dOf kvs (.inl i)) fun v => Q v A
    | .dt _ => False := by
  show ((∃ xs i' v, lstAt A n = some xs ∧ Val.int i = .int i' ∧ atI xs i' = some v ∧ Q v A) ∨ (∃ v, dAt A n (.int i) = some (some v) ∧ Q v A)) = _
  rw [eq_iff_iff]
  unfold lstAt dAt
  cases e : A[n]? with
  | none => simp [ex1]
  | some o =>
    cases o with
    | lst xs =>
      rw [ex1_some]
      simp only [ex1_iff, Option.some.injEq, reduceCtorEq, false_and, exists_false, or_false, Val.int.injEq]
      constructor
      · rintro ⟨xs', i', v, rfl, rfl, h⟩; exact ⟨v, h⟩
      · rintro ⟨v, h⟩; exact ⟨_, _, v, rfl, rfl, h⟩
    | dk kvs => simp [ex1_some, ex1_iff, keyO]
    | dt kvs => simp [ex1_some]
theorem y_ixRS (n : Nat) (i : Str) : oIx (.ref n) (.str i) A Q = ex1 A[n]? fun o => match o with
    | .dk kvs => ex1 (dOf kvs (.inr i)) fun v => Q v A
    | _ => False := by
  show ((∃ xs i' v, lstAt A n = some xs ∧ Val.str i = .int i' ∧ atI xs i' = some v ∧ Q v A) ∨ (∃ v, dAt A n (.str i) = some (some v) ∧ Q v A)) = _
  rw [eq_iff_iff]
  unfold lstAt dAt
  cases e : A[n]? with
  | none => simp [ex1]
  | some o => cases o <;> simp [ex1_some, ex1_iff, keyO]
theorem y_ixRT (n : Nat) (ks : List Val) : oIx (.ref n) (.tup ks) A Q = ex1 A[n]? fun o => match o with
    | .dt kvs => ex1 (keysO ks) fun k => ex1 (dOf kvs k) fun v => Q v A
    | _ => False := by
  show ((∃ xs i' v, lstAt A n = some xs ∧ Val.tup ks = .int i' ∧ atI xs i' = some v ∧ Q v A) ∨ (∃ v, dAt A n (.tup ks) = some (some v) ∧ Q v A)) = _
  rw [eq_iff_iff]
  unfold lstAt dAt
  cases e : A[n]? with
  | none => simp [ex1]
  | some o =>
    cases o with
    | dt kvs =>
      rw [ex1_some]
      cases q : keysO ks <;> simp [ex1_iff, q]
    | _ => simp [ex1_some, ex1_iff, keyO]
theorem y_slT (xs : List Val) (lo hi : Option Int) : oSl (.tup xs) lo hi A Q = Q (.tup (cutL xs lo hi)) A := rfl
theorem y_slR (n : Nat) (lo hi : Option Int) : oSl (.ref n) lo hi A Q = ex1 (lstAt A n) fun xs => Q (.ref A.length) (A ++ [.lst (cutL xs lo hi)]) := by
  show (∃ xs, lstAt A n = some xs ∧ _) = _
  rw [eq_iff_iff, ex1_iff]
theorem y_setR (n : Nat) (k : Int) (v : Val) (Q : AH → Prop) : oSet (.ref n) (.int k) v A Q = ex1 A[n]? fun o => match o with
    | .lst xs => ex1 (ixN xs.length k) fun j => Q (A.set n (.lst (xs.set j v)))
    | .dk kvs => kvs.length < sizeLine ∧ Q (A.set n (.dk (dPut kvs (.inl k) v)))
    | .dt _ => False := by
  show ((∃ xs k' j, A[n]? = some (.lst xs) ∧ Val.int k = .int k' ∧ ixN xs.length k' = some j ∧ Q (A.set n (.lst (xs.set j v)))) ∨
    (∃ kvs k', A[n]? = some (.dk kvs) ∧ keyO (.int k) = some k' ∧ kvs.length < sizeLine ∧ Q (A.set n (.dk (dPut kvs k' v)))) ∨
    (∃ kvs ks k', A[n]? = some (.dt kvs) ∧ Val.int k = .tup ks ∧ keysO ks = some k' ∧ kvs.length < sizeLine ∧ Q (A.set n (.dt (dPut kvs k' v))))) = _
  rw [eq_iff_iff]
  cases e : A[n]? with
  | none => simp [ex1]
  | some o =>
    cases o with
    | lst xs =>
      rw [ex1_some]
      simp only [ex1_iff, Option.some.injEq, reduceCtorEq, false_and, exists_false, or_false, Val.int.injEq, Ob.lst.injEq]
      constructor
      · rintro ⟨xs', i', v, rfl, rfl, h⟩; exact ⟨v, h⟩
      · rintro ⟨v, h⟩; exact ⟨_, _, v, rfl, rfl, h⟩
    | dk kvs =>
      simp only [ex1_some, Option.some.injEq, reduceCtorEq, false_and, exists_false, or_false, false_or, keyO, Ob.dk.injEq]
      constructor
      · rintro ⟨kvs', k', rfl, rfl, h⟩; exact h
      · intro h; exact ⟨_, _, rfl, rfl, h⟩
    | dt kvs => simp [ex1_some]
theorem y_setRT (n : Nat) (ks : List Val) (v : Val) (Q : AH → Prop) : oSet (.ref n) (.tup ks) v A Q = ex1 A[n]? fun o => match o with
    | .dt kvs => ex1 (keysO ks) fun k => kvs.length < sizeLine ∧ Q (A.set n (.dt (dPut kvs k v)))
    | _ => False := by
  show ((∃ xs k' j, A[n]? = some (.lst xs) ∧ Val.tup ks = .int k' ∧ ixN xs.length k' = some j ∧ Q (A.set n (.lst (xs.set j v)))) ∨
    (∃ kvs k', A[n]? = some (.dk kvs) ∧ keyO (.tup ks) = some k' ∧ kvs.length < sizeLine ∧ Q (A.set n (.dk (dPut kvs k' v)))) ∨
    (∃ kvs ks' k', A[n]? = some (.dt kvs) ∧ Val.tup ks = .tup ks' ∧ keysO ks' = some k' ∧ kvs.length < sizeLine ∧ Q (A.set n (.dt (dPut kvs k' v))))) = _
  rw [eq_iff_iff]
  cases e : A[n]? with
  | none => simp [ex1]
  | some o =>
    cases o with
    | dt kvs =>
      rw [ex1_some]
      simp only [ex1_iff, Option.some.injEq, reduceCtorEq, false_and, exists_false, or_false, false_or, Val.tup.injEq, Ob.dt.injEq]
      constructor
      · rintro ⟨kvs', ks', k', rfl, rfl, h⟩; exact ⟨k', h⟩
      · rintro ⟨k', h⟩; exact ⟨_, _, k', rfl, rfl, h⟩
    | _ => simp [ex1_some, keyO]
theorem y_setRS (n : Nat) (k : Str) (v : Val) (Q : AH → Prop) : oSet (.ref n) (.str k) v A Q = ex1 A[n]? fun o => match o with
    | .dk kvs => kvs.length < sizeLine ∧ Q (A.set n (.dk (dPut kvs (.inr k) v)))
    | _ => False := by
  show ((∃ xs k' j, A[n]? = some (.lst xs) ∧ Val.str k = .int k' ∧ ixN xs.length k' = some j ∧ Q (A.set n (.lst (xs.set j v)))) ∨
    (∃ kvs k', A[n]? = some (.dk kvs) ∧ keyO (.str k) = some k' ∧ kvs.length < sizeLine ∧ Q (A.set n (.dk (dPut kvs k' v)))) ∨
    (∃ kvs ks k', A[n]? = some (.dt kvs) ∧ Val.str k = .tup ks ∧ keysO ks = some k' ∧ kvs.length < sizeLine ∧ Q (A.set n (.dt (dPut kvs k' v))))) = _
  rw [eq_iff_iff]
  cases e : A[n]? with
  | none => simp [ex1]
  | some o =>
    cases o with
    | dk kvs =>
      simp only [ex1_some, Option.some.injEq, reduceCtorEq, false_and, exists_false, or_false, false_or, keyO, Ob.dk.injEq]
      constructor
      · rintro ⟨kvs', k', rfl, rfl, h⟩; exact h
      · intro h; exact ⟨_, _, rfl, rfl, h⟩
    | _ => simp [ex1_some]
theorem y_len (v : Val) : oLen [v] A Q = ex1 (lenO A v) fun n => Q (.int n) A := by
  rw [eq_iff_iff, ex1_iff]
  constructor
  · rintro ⟨v', n, e, h⟩; cases e; exact ⟨n, h⟩
  · rintro ⟨n, h⟩; exact ⟨v, n, rfl, h⟩
theorem y_list (v : Val) : oList [v] A Q = ex1 (seqO A v) fun xs => Q (.ref A.length) (A ++ [.lst xs]) := by
  rw [eq_iff_iff, ex1_iff]
  constructor
  · rintro ⟨v', n, e, h⟩; cases e; exact ⟨n, h⟩
  · rintro ⟨n, h⟩; exact ⟨v, n, rfl, h⟩
theorem y_tupT (xs : List Val) : oTuple [.tup xs] A Q = Q (.tup xs) A := rfl
theorem y_tupR (n : Nat) : oTuple [.ref n] A Q = ex1 (lstAt A n) fun xs => Q (.tup xs) A := by
  show (∃ xs, lstAt A n = some xs ∧ Q (.tup xs) A) = _
  rw [eq_iff_iff, ex1_iff]
theorem y_intc (i : Int) : oIntC1 [.int i] A Q = Q (.int i) A := rfl
theorem y_sum (v : Val) : oSum [v] A Q = ex1 (lstInts A v) fun l => Q (.int l.sum) A := by
  rw [eq_iff_iff, ex1_iff]
  constructor
  · rintro ⟨v', n, e, h⟩; cases e; exact ⟨n, h⟩
  · rintro ⟨n, h⟩; exact ⟨v, n, rfl, h⟩
theorem y_max2 (i j : Int) : oMax [.int i, .int j] A Q = Q (.int (if j > i then j else i)) A := by
  rw [eq_iff_iff]
  constructor
  · rintro (⟨v, l, e, _⟩ | ⟨a, b, e, h⟩)
    · cases e
    · cases e; exact h
  · exact fun h => .inr ⟨i, j, rfl, h⟩
theorem y_min2 (i j : Int) : oMin [.int i, .int j] A Q = Q (.int (if j < i then j else i)) A := by
  rw [eq_iff_iff]
  constructor
  · rintro (⟨v, l, e, _⟩ | ⟨a, b, e, h⟩)
    · cases e
    · cases e; exact h
  · exact fun h => .inr ⟨i, j, rfl, h⟩
theorem y_isi (v : Val) (T : String) : oIsi [v, .ty T] A Q = ex1 (tyO A v) fun a => ex1 (isiB a T) fun k => Q (.bl k) A := by
  rw [eq_iff_iff]
  simp only [ex1_iff]
  constructor
  · rintro ⟨v', T', a, k, e, h1, h2, h⟩; cases e; exact ⟨a, h1, k, h2, h⟩
  · rintro ⟨a, h1, k, h2, h⟩; exact ⟨v, T, a, k, rfl, h1, h2, h⟩
theorem y_app (n : Nat) (v : Val) : mAppend (.ref n) [v] A Q = ex1 (lstAt A n) fun xs => xs.length < sizeLine ∧ Q .non (A.set n (.lst (xs ++ [v]))) := by
  rw [eq_iff_iff]
  unfold lstAt
  constructor
  · rintro ⟨n', xs, v', e1, e2, e3, h⟩
    cases e1; cases e2
    rw [e3]; exact h
  · intro h
    simp only [ex1_iff] at h
    obtain ⟨xs, e1, h⟩ := h
    split at e1 <;> cases e1
    exact ⟨n, _, v, rfl, rfl, ‹_›, h⟩
theorem tyL_iff (n : Nat) : tyL (.ref n) A = ((lstAt A n).isSome = true) := by
  rw [eq_iff_iff, Option.isSome_iff_exists]
  constructor
  · rintro ⟨n', xs, e, h⟩; cases e; exact ⟨xs, h⟩
  · rintro ⟨xs, h⟩; exact ⟨n, xs, rfl, h⟩
theorem x_lstAt (n : Nat) : lstAt A n = (A[n]?).bind fun o => match o with | .lst xs => some xs | _ => none := by
  unfold lstAt
  cases e : A[n]? with
  | none => rfl
  | some o => cases o <;> rfl
theorem oIn_ref (neg : Bool) (x : Val) (n : Nat) : oIn neg x (.ref n) A Q = ex1 A[n]? fun o => match o with
    | .lst ys => okV 60 x = true ∧ okVs 60 ys = true ∧ Q (.bl (xor neg (ys.any fun z => eqV z x))) A
    | .dk kvs => ex1 (keyO x) fun k => Q (.bl (xor neg (dOf kvs k).isSome)) A
    | .dt kvs => match x with
      | .tup ks => ex1 (keysO ks) fun k => Q (.bl (xor neg (dOf kvs k).isSome)) A
      | _ => False := by
  show ((∃ ys, lstAt A n = some ys ∧ okV 60 x = true ∧ okVs 60 ys = true ∧ Q (.bl (xor neg (ys.any fun z => eqV z x))) A) ∨ (∃ o, dAt A n x = some o ∧ Q (.bl (xor neg o.isSome)) A)) = _
  rw [eq_iff_iff]
  unfold lstAt dAt
  cases e : A[n]? with
  | none => simp [ex1]
  | some o =>
    cases o with
    | lst xs => simp [ex1_some]
    | dk kvs => cases q : keyO x <;> simp [ex1]
    | dt kvs =>
      cases x with
      | tup ks => cases q : keysO ks <;> simp [ex1, q]
      | _ => simp [ex1]
theorem y_inT (neg : Bool) (x : Val) (ys : List Val) : oIn neg x (.tup ys) A Q = (okV 60 x = true ∧ okVs 60 ys = true ∧ Q (.bl (xor neg (ys.any fun z => eqV z x))) A) := rfl
end

/-! ### steps -/
section
variable {A : AH} {Q : VQ}
theorem lstAt_of {n : Nat} {xs : List Val} (h : A[n]? = some (.lst xs)) : lstAt A n = some xs := by unfold lstAt; rw [h]
theorem s_kA {o : Ob} {n : Nat} {A' : AH} (hn : A.length = n) (hA : A ++ [o] = A') (q : Q (.ref n) A') : kA A o Q := by unfold kA; rw [hn, hA]; exact q
theorem s_kT {t t' : Lv} {P : Lv → Prop} (ht : t = t') (q : P t') : kT t P := by unfold kT; rw [ht]; exact q
theorem s_addI {i j : Int} (q : Q (.int (i + j)) A) : wO oAdd (.int i) (.int j) A Q := by rw [wO_eq]; exact q
theorem s_addT {xs ys : List Val} (h : xs.length + ys.length ≤ sizeLine) (q : Q (.tup (xs ++ ys)) A) : wO oAdd (.tup xs) (.tup ys) A Q := by rw [wO_eq]; exact ⟨h, q⟩
theorem s_addS {x y : Str} (h : x.length + y.length ≤ sizeLine) (q : Q (.str (x ++ y)) A) : wO oAdd (.str x) (.str y) A Q := by rw [wO_eq]; exact ⟨h, q⟩
theorem s_addL {n m : Nat} {xs ys : List Val} (h1 : A[n]? = some (.lst xs)) (h2 : A[m]? = some (.lst ys)) (h : xs.length + ys.length ≤ sizeLine) (q : kA A (.lst (xs ++ ys)) Q) : wO oAdd (.ref n) (.ref m) A Q := by unfold kA at q; rw [wO_eq]; exact ⟨xs, ys, h1, h2, h, q⟩
theorem s_int {f : Int → Int → Int} {i j : Int} (q : Q (.int (f i j)) A) : wO (oInt f) (.int i) (.int j) A Q := by rw [wO_eq]; exact q
theorem s_intC {C : Int → Int → Prop} {f : Int → Int → Int} {i j : Int} (h : C i j) (q : Q (.int (f i j)) A) : wO (oIntC C f) (.int i) (.int j) A Q := by rw [wO_eq]; exact ⟨h, q⟩
theorem s_mulI {i j : Int} (h : CMul i j) (q : Q (.int (i * j)) A) : wO oMul (.int i) (.int j) A Q := by rw [wO_eq]; exact ⟨h, q⟩
theorem s_mulL {n : Nat} {k : Int} {xs : List Val} (h1 : A[n]? = some (.lst xs)) (h2 : -(2 ^ 63) ≤ k ∧ k < 2 ^ 63 ∧ xs.length * k.toNat ≤ sizeLine) (q : kA A (.lst (List.replicate k.toNat xs).flatten) Q) : wO oMul (.ref n) (.int k) A Q := by unfold kA at q; rw [wO_eq]; exact ⟨xs, h1, h2.1, h2.2.1, h2.2.2, q⟩
theorem s_neg {i : Int} (q : Q (.int (-i)) A) : wU oNeg (.int i) A Q := by rw [wU_eq]; exact q
theorem s_ord {f : Int → Int → Bool} {i j : Int} (q : Q (.bl (f i j)) A) : wO (oOrd f) (.int i) (.int j) A Q := by rw [wO_eq]; exact q
theorem s_isN {neg : Bool} {x : Val} {r' : Bool} (hr : xor neg (isNonV x) = r') (q : Q (.bl r') A) : wO (oIs neg) x .non A Q := by subst hr; rw [wO_eq]; exact q
theorem s_isB {neg b c : Bool} {r' : Bool} (hr : xor neg (decide (b = c)) = r') (q : Q (.bl r') A) : wO (oIs neg) (.bl b) (.bl c) A Q := by subst hr; rw [wO_eq]; exact ⟨b, rfl, q⟩
theorem s_eqI {neg : Bool} {i j : Int} {r' : Bool} (hr : xor neg (decide (i = j)) = r') (q : Q (.bl r') A) : wO (oEq neg) (.int i) (.int j) A Q := by
  subst hr
  rw [wO_eq]; exact ⟨rfl, rfl, by simp only [eqV, Bool.beq_eq_decide_eq]; exact q⟩
theorem s_eqB {neg : Bool} {i j : Bool} {r' : Bool} (hr : xor neg (decide (i = j)) = r') (q : Q (.bl r') A) : wO (oEq neg) (.bl i) (.bl j) A Q := by
  subst hr
  rw [wO_eq]; exact ⟨rfl, rfl, by simp only [eqV, Bool.beq_eq_decide_eq]; exact q⟩
theorem s_eqS {neg : Bool} {i j : Str} {r' : Bool} (hr : xor neg (decide (i = j)) = r') (q : Q (.bl r') A) : wO (oEq neg) (.str i) (.str j) A Q := by subst hr; rw [wO_eq]; exact q
theorem s_eqT {neg : Bool} {xs ys : List Val} (h1 : okVs 59 xs = true) (h2 : okVs 59 ys = true) {r' : Bool} (hr : xor neg (eqVs xs ys) = r') (q : Q (.bl r') A) : wO (oEq neg) (.tup xs) (.tup ys) A Q := by
  subst hr
  rw [wO_eq]; exact ⟨by simp only [okV]; exact h1, by simp only [okV]; exact h2, by simp only [eqV]; exact q⟩
theorem s_eqL {neg : Bool} {n m : Nat} {xs ys : List Val} (e1 : A[n]? = some (.lst xs)) (e2 : A[m]? = some (.lst ys)) (h1 : okVs 60 xs = true) (h2 : okVs 60 ys = true) {r' : Bool} (hr : xor neg (eqVs xs ys) = r') (q : Q (.bl r') A) : wO (oEq neg) (.ref n) (.ref m) A Q := by
  subst hr
  rw [wO_eq]; exact ⟨xs, ys, lstAt_of e1, lstAt_of e2, h1, h2, q⟩
theorem s_ixT {xs : List Val} {i : Int} {v : Val} (h : atI xs i = some v) (q : Q v A) : wO oIx (.tup xs) (.int i) A Q := by rw [wO_eq]; exact ⟨i, v, rfl, h, q⟩
theorem s_ixL {n : Nat} {xs : List Val} {i : Int} {v : Val} (h1 : A[n]? = some (.lst xs)) (h : atI xs i = some v) (q : Q v A) : wO oIx (.ref n) (.int i) A Q := by rw [wO_eq, y_ixR, h1, ex1_some]; exact ex1_of h q
theorem s_ixK {n : Nat} {kvs : List (Key × Val)} {i : Int} {v : Val} (h1 : A[n]? = some (.dk kvs)) (h : dOf kvs (.inl i) = some v) (q : Q v A) : wO oIx (.ref n) (.int i) A Q := by rw [wO_eq, y_ixR, h1, ex1_some]; exact ex1_of h q
theorem s_ixS {n : Nat} {kvs : List (Key × Val)} {i : Str} {v : Val} (h1 : A[n]? = some (.dk kvs)) (h : dOf kvs (.inr i) = some v) (q : Q v A) : wO oIx (.ref n) (.str i) A Q := by rw [wO_eq, y_ixRS, h1, ex1_some]; exact ex1_of h q
theorem s_ixD {n : Nat} {kvs : List (List Key × Val)} {ks : List Val} {k : List Key} {v : Val} (h1 : A[n]? = some (.dt kvs)) (hk : keysO ks = some k) (h : dOf kvs k = some v) (q : Q v A) : wO oIx (.ref n) (.tup ks) A Q := by rw [wO_eq, y_ixRT, h1, ex1_some]; exact ex1_of hk (ex1_of h q)
theorem s_setL {n : Nat} {xs xs' : List Val} {k : Int} {j : Nat} {v : Val} {A' : AH} {Q : AH → Prop} (h1 : A[n]? = some (.lst xs)) (h : ixN xs.length k = some j) (hx : xs.set j v = xs') (hA : A.set n (.lst xs') = A') (q : Q A') : wT oSet (.ref n) (.int k) v A Q := by subst hx; subst hA; rw [wT_eq]; exact .inl ⟨xs, k, j, h1, rfl, h, q⟩
theorem s_setK {n : Nat} {kvs : List (Key × Val)} {x v : Val} {k : Key} {A' : AH} {Q : AH → Prop} (h1 : A[n]? = some (.dk kvs)) (hk : keyO x = some k) (h : kvs.length < sizeLine) (hA : A.set n (.dk (dPut kvs k v)) = A') (q : Q A') : wT oSet (.ref n) x v A Q := by subst hA; rw [wT_eq]; exact .inr (.inl ⟨kvs, k, h1, hk, h, q⟩)
theorem s_setD {n : Nat} {kvs : List (List Key × Val)} {ks : List Val} {v : Val} {k : List Key} {A' : AH} {Q : AH → Prop} (h1 : A[n]? = some (.dt kvs)) (hk : keysO ks = some k) (h : kvs.length < sizeLine) (hA : A.set n (.dt (dPut kvs k v)) = A') (q : Q A') : wT oSet (.ref n) (.tup ks) v A Q := by subst hA; rw [wT_eq]; exact .inr (.inr ⟨kvs, ks, k, h1, rfl, hk, h, q⟩)
theorem s_lenT {xs : List Val} (q : Q (.int xs.length) A) : wN oLen [.tup xs] A Q := by rw [wN_eq]; exact ⟨_, _, rfl, rfl, q⟩
theorem s_lenL {n : Nat} {xs : List Val} (h : A[n]? = some (.lst xs)) (q : Q (.int xs.length) A) : wN oLen [.ref n] A Q := by rw [wN_eq]; exact ⟨_, _, rfl, by simp only [lenO, h], q⟩
theorem s_lenK {n : Nat} {xs : List (Key × Val)} (h : A[n]? = some (.dk xs)) (q : Q (.int xs.length) A) : wN oLen [.ref n] A Q := by rw [wN_eq]; exact ⟨_, _, rfl, by simp only [lenO, h], q⟩
theorem s_list {v : Val} {xs : List Val} (h : seqO A v = some xs) (q : kA A (.lst xs) Q) : wN oList [v] A Q := by unfold kA at q; rw [wN_eq]; exact ⟨_, _, rfl, h, q⟩
theorem seqO_ref {n : Nat} {xs : List Val} (h : A[n]? = some (.lst xs)) : seqO A (.ref n) = some xs := by simp only [seqO, lstAt, h]
theorem s_tupT {xs : List Val} (q : Q (.tup xs) A) : wN oTuple [.tup xs] A Q := by rw [wN_eq]; exact q
theorem s_tupL {n : Nat} {xs : List Val} (h : A[n]? = some (.lst xs)) (q : Q (.tup xs) A) : wN oTuple [.ref n] A Q := by rw [wN_eq]; exact ⟨xs, lstAt_of h, q⟩
theorem s_intc {i : Int} (q : Q (.int i) A) : wN oIntC1 [.int i] A Q := by rw [wN_eq]; exact q
theorem s_sum {n : Nat} {l : List Int} (h : A[n]? = some (.lst (l.map .int))) (q : Q (.int l.sum) A) : wN oSum [.ref n] A Q := by rw [wN_eq]; exact ⟨_, l, rfl, by simp only [lstInts, lstAt_of h, Option.bind_some, intsOf_map], q⟩
theorem s_max2 {i j : Int} (q : Q (.int (if j > i then j else i)) A) : wN oMax [.int i, .int j] A Q := by rw [wN_eq]; exact .inr ⟨i, j, rfl, q⟩
theorem s_min2 {i j : Int} (q : Q (.int (if j < i then j else i)) A) : wN oMin [.int i, .int j] A Q := by rw [wN_eq]; exact .inr ⟨i, j, rfl, q⟩
theorem s_maxL {n : Nat} {l : List Int} (h : A[n]? = some (.lst (l.map .int))) (h0 : 0 < l.length) (q : ∀ m, m ∈ l → (∀ y, y ∈ l → y ≤ m) → Q (.int m) A) : wN oMax [.ref n] A Q := by rw [wN_eq]; exact .inl ⟨_, l, rfl, by simp only [lstInts, lstAt_of h, Option.bind_some, intsOf_map], h0, q⟩
theorem s_minL {n : Nat} {l : List Int} (h : A[n]? = some (.lst (l.map .int))) (h0 : 0 < l.length) (q : ∀ m, m ∈ l → (∀ y, y ∈ l → m ≤ y) → Q (.int m) A) : wN oMin [.ref n] A Q := by rw [wN_eq]; exact .inl ⟨_, l, rfl, by simp only [lstInts, lstAt_of h, Option.bind_some, intsOf_map], h0, q⟩
theorem s_sortI {n : Nat} {l : List Int} (h : A[n]? = some (.lst (l.map .int))) (q : ∀ l' : List Int, l'.Perm l → l'.Pairwise (· ≤ ·) → Q (.ref A.length) (A ++ [.lst (l'.map Val.int)])) : wN oSorted [.ref n] A Q := by rw [wN_eq]; exact ⟨_, l, rfl, by simp only [lstInts, lstAt_of h, Option.bind_some, intsOf_map], q⟩
theorem s_isi {v : Val} {T a : String} {k : Bool} (h1 : tyO A v = some a) (h2 : isiB a T = some k) (q : Q (.bl k) A) : wN oIsi [v, .ty T] A Q := by rw [wN_eq]; exact ⟨v, T, a, k, rfl, h1, h2, q⟩
theorem s_app {n : Nat} {v : Val} {xs : List Val} {A' : AH} (h : A[n]? = some (.lst xs)) (hs : xs.length < sizeLine) (hA : A.set n (.lst (xs ++ [v])) = A') (q : Q .non A') : wM mAppend (.ref n) [v] A Q := by subst hA; rw [wM_eq]; exact ⟨n, xs, v, rfl, rfl, h, hs, q⟩
theorem tyL_of {n : Nat} {xs : List Val} (h : A[n]? = some (.lst xs)) : tyL (.ref n) A := ⟨n, xs, rfl, lstAt_of h⟩
theorem s_inT {neg : Bool} {x : Val} {ys : List Val} (h1 : okV 60 x = true) (h2 : okVs 60 ys = true) {r' : Bool} (hr : xor neg (ys.any fun z => eqV z x) = r') (q : Q (.bl r') A) : wO (oIn neg) x (.tup ys) A Q := by subst hr; rw [wO_eq]; exact ⟨h1, h2, q⟩
theorem s_inL {neg : Bool} {x : Val} {n : Nat} {ys : List Val} (h : A[n]? = some (.lst ys)) (h1 : okV 60 x = true) (h2 : okVs 60 ys = true) {r' : Bool} (hr : xor neg (ys.any fun z => eqV z x) = r') (q : Q (.bl r') A) : wO (oIn neg) x (.ref n) A Q := by subst hr; rw [wO_eq]; exact .inl ⟨ys, lstAt_of h, h1, h2, q⟩
theorem s_inK {neg : Bool} {x : Val} {n : Nat} {kvs : List (Key × Val)} {k : Key} (h : A[n]? = some (.dk kvs)) (hk : keyO x = some k) {r' : Bool} (hr : xor neg (dOf kvs k).isSome = r') (q : Q (.bl r') A) : wO (oIn neg) x (.ref n) A Q := by
  subst hr
  rw [wO_eq, oIn_ref, h, ex1_some]; exact ex1_of hk q
theorem s_inD {neg : Bool} {ks : List Val} {n : Nat} {kvs : List (List Key × Val)} {k : List Key} (h : A[n]? = some (.dt kvs)) (hk : keysO ks = some k) {r' : Bool} (hr : xor neg (dOf kvs k).isSome = r') (q : Q (.bl r') A) : wO (oIn neg) (.tup ks) (.ref n) A Q := by
  subst hr
  rw [wO_eq, oIn_ref, h, ex1_some]; exact ex1_of hk q
theorem s_if {k : Bool} {a b : Prop} (h1 : k = true → a) (h2 : k = false → b) : if k = true then a else b := by
  cases k with
  | true => exact h1 rfl
  | false => exact h2 rfl
end
end EV

namespace EV
open PySem PySem.Spec PyProof.Rows L2 RZ RT

theorem bI_tt {k : Bool} {a b : Prop} (h : k = true) (q : a) : bI k a b := by subst h; rw [bI_t]; exact q
theorem bI_ff {k : Bool} {a b : Prop} (h : k = false) (q : b) : bI k a b := by subst h; rw [bI_f]; exact q
theorem bI_d {p : Prop} [Decidable p] {a b : Prop} (h1 : p → a) (h2 : ¬ p → b) : bI (decide p) a b := bI_in (fun h => h1 (of_decide_eq_true h)) (fun h => h2 (of_decide_eq_false h))
theorem bI_nd {p : Prop} [Decidable p] {a b : Prop} (h1 : ¬ p → a) (h2 : p → b) : bI (!decide p) a b := bI_in (fun h => h1 (by simpa using h)) (fun h => h2 (by simpa using h))
theorem truB_lst {A : AH} {n : Nat} {xs : List Val} (h : A[n]? = some (.lst xs)) : truB A (.ref n) = some (!xs.isEmpty) := by simp only [truB, h]
/-! ### heaps that grow behind A -/
theorem at_app {A L : AH} {k : Nat} : (A ++ L)[A.length + k]? = L[k]? := by rw [List.getElem?_append_right (by omega)]; congr 1; omega
theorem at_app0 {A L : AH} : (A ++ L)[A.length]? = L[0]? := at_app (k := 0)
theorem set_app {A L : AH} {k : Nat} {o : Ob} : (A ++ L).set (A.length + k) o = A ++ L.set k o := by
  rw [List.set_append_right _ _ (by omega)]; congr 2; omega
theorem set_app0 {A L : AH} {o : Ob} : (A ++ L).set A.length o = A ++ L.set 0 o := set_app (k := 0)
theorem at_old {A L : AH} {n : Nat} {o : Ob} (h : A[n]? = some o) : (A ++ L)[n]? = some o := by
  rw [List.getElem?_append_left (List.getElem?_eq_some_iff.mp h).1]; exact h
theorem set_old {A L : AH} {n : Nat} {o o' : Ob} (h : A[n]? = some o) : (A ++ L).set n o' = A.set n o' ++ L := by
  rw [List.set_append_left _ _ (List.getElem?_eq_some_iff.mp h).1]
theorem lt_of_at {A : AH} {n : Nat} {o : Ob} (h : A[n]? = some o) : n < A.length := (List.getElem?_eq_some_iff.mp h).1
theorem fd_in {nN np : Nat} {d : DenS} {vs : List Val} {t : Lv} {A : AH} {Q : VQ} {E : XQ} (h1 : vs.length = np) (ht : vs.map some ++ List.replicate (nN - np) none = t)
    (h : d t A (.fn Q E)) : fDen nN np d vs A Q E := by subst ht; exact ⟨h1, h⟩
/-- the draws' own list -/
structure Drw where
  xs : List Int
  i : Nat
  x : Int
  s : Int
  c : Int
def DS (s : Drw) : AH := [.lst (s.xs.map .int), .lst [.ref 0, .int s.i, .int s.x, .int s.s, .int s.c]]
theorem ds_len (s : Drw) : (DS s).length = 2 := rfl
theorem ds_at {s : Drw} {L : AH} {k : Nat} : (DS s ++ L)[2 + k]? = L[k]? := at_app (A := DS s)
theorem ds_at0 {s : Drw} {L : AH} : (DS s ++ L)[2]? = L[0]? := at_app0 (A := DS s)
theorem ds_set {s : Drw} {L : AH} {k : Nat} {o : Ob} : (DS s ++ L).set (2 + k) o = DS s ++ L.set k o := set_app (A := DS s)
theorem atI_nat' {α : Type} {xs : List α} {j : Nat} {v : α} (h : xs[j]? = some v) : atI xs (j : Int) = some v := by
  unfold atI ixN
  have := (List.getElem?_eq_some_iff.mp h).1
  rw [if_pos (by omega), if_pos (by omega)]
  simpa using h
end EV

namespace EV
open PySem PySem.Spec PyProof.Rows L2 RZ RT

/-! ### loops by an invariant -/
section
variable {g : DenG} {b : DenS} {t : Lv} {A : AH} {D : EndsA}
theorem for_of {J : Wk} {n : Nat} {I : Nat → Lv → AH → Prop} (h0 : I 0 t A)
    (hs : ∀ i t A, i < n → I i t A → ∃ v, J i A = some (some v) ∧ g v t A (fun t2 A2 => b t2 A2 (D.lp (I (i + 1)))))
    (he : ∀ t A, I n t A → J n A = some none ∧ D.nx t A) : sForJ J g b t A D := by
  unfold sForJ
  refine ⟨fun i m t A => i + m = n ∧ I i t A, ⟨n, by omega, h0⟩, fun i m t A ⟨e, h⟩ => ?_⟩
  by_cases hi : i < n
  · obtain ⟨v, ev, hv⟩ := hs i t A hi h
    exact .inr ⟨v, ev, I (i + 1), fun t' A' h' => ⟨m - 1, by omega, by omega, h'⟩, hv⟩
  · have : i = n := by omega
    subst this
    exact .inl (he t A h)
theorem for_ints {lo j : Int} {n : Nat} (I : Nat → Lv → AH → Prop) (hn : j = n) (h0 : I 0 t A)
    (hs : ∀ i t A, i < n → I i t A → g (.int (lo + (i : Int))) t A (fun t2 A2 => b t2 A2 (D.lp (I (i + 1)))))
    (he : ∀ t A, I n t A → D.nx t A) : sForJ (wkR lo 1 j.toNat) g b t A D := by
  subst hn
  refine for_of (n := n) (I := I) h0 (fun i t A hi h => ⟨_, ?_, hs i t A hi h⟩) (fun t A h => ⟨?_, he t A h⟩)
  · unfold wkR; rw [if_pos (by simpa using hi), Int.mul_one]
  · unfold wkR; rw [if_neg (by simp)]
theorem for_int0 {j : Int} {n : Nat} (I : Nat → Lv → AH → Prop) (hn : j = n) (h0 : I 0 t A)
    (hs : ∀ i t A, i < n → I i t A → g (.int (i : Int)) t A (fun t2 A2 => b t2 A2 (D.lp (I (i + 1)))))
    (he : ∀ t A, I n t A → D.nx t A) : sForJ (wkR 0 1 j.toNat) g b t A D :=
  for_ints I hn h0 (fun i t A hi h => by rw [Int.zero_add]; exact hs i t A hi h) he
theorem for_map {α : Type} {xs : List α} {f : α → Val} (I : List α → Lv → AH → Prop) (h0 : I [] t A)
    (hs : ∀ pre x post t A, xs = pre ++ x :: post → I pre t A → g (f x) t A (fun t2 A2 => b t2 A2 (D.lp (I (pre ++ [x])))))
    (he : ∀ t A, I xs t A → D.nx t A) : sForJ (wkT (xs.map f)) g b t A D := by
  refine for_of (n := xs.length) (I := fun i => I (xs.take i)) (by simpa using h0) (fun i t A hi h => ⟨f xs[i], ?_, ?_⟩) (fun t A h => ⟨?_, he t A (by simpa using h)⟩)
  · unfold wkT; rw [List.getElem?_map, List.getElem?_eq_getElem hi]; rfl
  · have e : xs.take (i + 1) = xs.take i ++ [xs[i]] := by rw [List.take_add_one, List.getElem?_eq_getElem hi]; rfl
    rw [e]
    exact hs (xs.take i) xs[i] (xs.drop (i + 1)) t A (by rw [← List.drop_eq_getElem_cons hi, List.take_append_drop]) h
  · unfold wkT; rw [List.getElem?_eq_none (by simp)]
theorem for_ref {α : Type} {n : Nat} {xs : List α} {f : α → Val} (I : List α → Lv → AH → Prop) (h0 : I [] t A)
    (hl : ∀ pre t A, I pre t A → A[n]? = some (.lst (xs.map f)))
    (hs : ∀ pre x post t A, xs = pre ++ x :: post → I pre t A → g (f x) t A (fun t2 A2 => b t2 A2 (D.lp (I (pre ++ [x])))))
    (he : ∀ t A, I xs t A → D.nx t A) : sForJ (wkL n) g b t A D := by
  refine for_of (n := xs.length) (I := fun i => I (xs.take i)) (by simpa using h0) (fun i t A hi h => ⟨f xs[i], ?_, ?_⟩) (fun t A h => ⟨?_, he t A (by simpa using h)⟩)
  · unfold wkL; rw [hl _ _ _ h]; dsimp only; rw [List.getElem?_map, List.getElem?_eq_getElem hi]; rfl
  · have e : xs.take (i + 1) = xs.take i ++ [xs[i]] := by rw [List.take_add_one, List.getElem?_eq_getElem hi]; rfl
    rw [e]
    exact hs (xs.take i) xs[i] (xs.drop (i + 1)) t A (by rw [← List.drop_eq_getElem_cons hi, List.take_append_drop]) h
  · unfold wkL; rw [hl _ _ _ h]; dsimp only; rw [List.getElem?_eq_none (by simp)]
end
section
variable {tg : Tg} {tt : DenT} {e : Den} {vs : List Nat} {t : Lv} {A : AH} {Q : VQ}
theorem lc_of {J : Wk} {n : Nat} {I : Nat → List Val → AH → Prop} (h0 : I 0 [] A)
    (hs : ∀ i acc A, i < n → I i acc A → ∃ v t2, J i A = some (some v) ∧ bindT tg v (wipeV t vs) = some t2 ∧ tt t2 A (fun b A3 => bI b (e t2 A3 (fun y A4 => acc.length < sizeLine ∧ I (i + 1) (acc ++ [y]) A4) nox) (I (i + 1) acc A3)) nox)
    (he : ∀ acc A, I n acc A → J n A = some none ∧ kA A (.lst acc) Q) : dLcJ J tg tt e vs t A Q := by
  unfold dLcJ
  refine ⟨fun i m acc A => i + m = n ∧ I i acc A, ⟨n, by omega, h0⟩, fun i m acc A ⟨em, h⟩ => ?_⟩
  by_cases hi : i < n
  · obtain ⟨v, t2, ev, eb, hv⟩ := hs i acc A hi h
    rw [bI_eq] at hv
    exact .inr ⟨v, t2, ev, eb, I (i + 1), fun t' A' h' => ⟨m - 1, by omega, by omega, h'⟩, hv⟩
  · have : i = n := by omega
    subst this
    have := he acc A h
    unfold kA at this
    exact .inl this
theorem lc_ints {lo j : Int} {n : Nat} (I : Nat → List Val → AH → Prop) (hn : j = n) (h0 : I 0 [] A)
    (hs : ∀ i acc A, i < n → I i acc A → ∃ t2, bindT tg (.int (lo + (i : Int))) (wipeV t vs) = some t2 ∧ tt t2 A (fun b A3 => bI b (e t2 A3 (fun y A4 => acc.length < sizeLine ∧ I (i + 1) (acc ++ [y]) A4) nox) (I (i + 1) acc A3)) nox)
    (he : ∀ acc A, I n acc A → kA A (.lst acc) Q) : dLcJ (wkR lo 1 j.toNat) tg tt e vs t A Q := by
  subst hn
  refine lc_of (n := n) (I := I) h0 (fun i acc A hi h => ?_) (fun acc A h => ⟨?_, he acc A h⟩)
  · obtain ⟨t2, e2, h2⟩ := hs i acc A hi h
    exact ⟨_, t2, by unfold wkR; rw [if_pos (by simpa using hi), Int.mul_one], e2, h2⟩
  · unfold wkR; rw [if_neg (by simp)]
theorem lc_int0 {j : Int} {n : Nat} (I : Nat → List Val → AH → Prop) (hn : j = n) (h0 : I 0 [] A)
    (hs : ∀ i acc A, i < n → I i acc A → ∃ t2, bindT tg (.int (i : Int)) (wipeV t vs) = some t2 ∧ tt t2 A (fun b A3 => bI b (e t2 A3 (fun y A4 => acc.length < sizeLine ∧ I (i + 1) (acc ++ [y]) A4) nox) (I (i + 1) acc A3)) nox)
    (he : ∀ acc A, I n acc A → kA A (.lst acc) Q) : dLcJ (wkR 0 1 j.toNat) tg tt e vs t A Q :=
  lc_ints I hn h0 (fun i acc A hi h => by rw [Int.zero_add]; exact hs i acc A hi h) he
theorem lc_map {α : Type} {xs : List α} {f : α → Val} (I : List α → List Val → AH → Prop) (h0 : I [] [] A)
    (hs : ∀ pre x post acc A, xs = pre ++ x :: post → I pre acc A → ∃ t2, bindT tg (f x) (wipeV t vs) = some t2 ∧ tt t2 A (fun b A3 => bI b (e t2 A3 (fun y A4 => acc.length < sizeLine ∧ I (pre ++ [x]) (acc ++ [y]) A4) nox) (I (pre ++ [x]) acc A3)) nox)
    (he : ∀ acc A, I xs acc A → kA A (.lst acc) Q) : dLcJ (wkT (xs.map f)) tg tt e vs t A Q := by
  refine lc_of (n := xs.length) (I := fun i => I (xs.take i)) (by simpa using h0) (fun i acc A hi h => ?_) (fun acc A h => ⟨?_, he acc A (by simpa using h)⟩)
  · have e : xs.take (i + 1) = xs.take i ++ [xs[i]] := by rw [List.take_add_one, List.getElem?_eq_getElem hi]; rfl
    rw [e]
    obtain ⟨t2, e2, h2⟩ := hs (xs.take i) xs[i] (xs.drop (i + 1)) acc A (by rw [← List.drop_eq_getElem_cons hi, List.take_append_drop]) h
    exact ⟨f xs[i], t2, by unfold wkT; rw [List.getElem?_map, List.getElem?_eq_getElem hi]; rfl, e2, h2⟩
  · unfold wkT; rw [List.getElem?_eq_none (by simp)]
theorem lc_ref {α : Type} {n : Nat} {xs : List α} {f : α → Val} (I : List α → List Val → AH → Prop) (h0 : I [] [] A)
    (hl : ∀ pre acc A, I pre acc A → A[n]? = some (.lst (xs.map f)))
    (hs : ∀ pre x post acc A, xs = pre ++ x :: post → I pre acc A → ∃ t2, bindT tg (f x) (wipeV t vs) = some t2 ∧ tt t2 A (fun b A3 => bI b (e t2 A3 (fun y A4 => acc.length < sizeLine ∧ I (pre ++ [x]) (acc ++ [y]) A4) nox) (I (pre ++ [x]) acc A3)) nox)
    (he : ∀ acc A, I xs acc A → kA A (.lst acc) Q) : dLcJ (wkL n) tg tt e vs t A Q := by
  refine lc_of (n := xs.length) (I := fun i => I (xs.take i)) (by simpa using h0) (fun i acc A hi h => ?_) (fun acc A h => ⟨?_, he acc A (by simpa using h)⟩)
  · have e : xs.take (i + 1) = xs.take i ++ [xs[i]] := by rw [List.take_add_one, List.getElem?_eq_getElem hi]; rfl
    rw [e]
    obtain ⟨t2, e2, h2⟩ := hs (xs.take i) xs[i] (xs.drop (i + 1)) acc A (by rw [← List.drop_eq_getElem_cons hi, List.take_append_drop]) h
    exact ⟨f xs[i], t2, by unfold wkL; rw [hl _ _ _ h]; dsimp only; rw [List.getElem?_map, List.getElem?_eq_getElem hi]; rfl, e2, h2⟩
  · unfold wkL; rw [hl _ _ _ h]; dsimp only; rw [List.getElem?_eq_none (by simp)]
end
/-! ### dicts, equal values -/
theorem dOf_put {κ : Type} [DecidableEq κ] (l : List (κ × Val)) (k k' : κ) (v : Val) : dOf (dPut l k v) k' = if k = k' then some v else dOf l k' := by
  unfold dPut dOf
  by_cases h : (l.any fun kv => decide (kv.1 = k)) = true
  · rw [if_pos h]
    induction l with
    | nil => simp at h
    | cons x l ih =>
      by_cases hx : x.1 = k
      · rw [List.map_cons, if_pos hx]
        by_cases hk : k = k'
        · rw [if_pos hk, List.find?_cons_of_pos (by simp [hx, hk])]; rfl
        · rw [if_neg hk, List.find?_cons_of_neg (by simp [hx, hk]), List.find?_cons_of_neg (by simp [hx, hk])]
          by_cases ha : (l.any fun kv => decide (kv.1 = k)) = true
          · have := ih ha; rw [if_neg hk] at this; exact this
          · have e : l.map (fun kv => if kv.1 = k then (kv.1, v) else kv) = l := by
              refine (List.map_congr_left fun y hy => ?_).trans (List.map_id l)
              rw [if_neg (fun z => ha (List.any_eq_true.mpr ⟨y, hy, by simpa using z⟩))]; rfl
            rw [e]
      · have ha : (l.any fun kv => decide (kv.1 = k)) = true := by simpa [hx] using h
        rw [List.map_cons, if_neg hx]
        by_cases hk : x.1 = k'
        · rw [List.find?_cons_of_pos (by simp [hk]), List.find?_cons_of_pos (by simp [hk]), if_neg (by rw [← hk]; exact fun z => hx z.symm)]
        · rw [List.find?_cons_of_neg (by simp [hk]), List.find?_cons_of_neg (by simp [hk])]
          exact ih ha
  · rw [if_neg h, List.find?_append]
    by_cases hk : k = k'
    · subst hk
      rw [if_pos rfl]
      have : l.find? (fun kv => decide (kv.1 = k)) = none := by
        rw [List.find?_eq_none]
        intro y hy z
        exact h (List.any_eq_true.mpr ⟨y, hy, z⟩)
      rw [this]; simp
    · rw [if_neg hk]
      have : [(k, v)].find? (fun kv => decide (kv.1 = k')) = none := by simp [hk]
      rw [this, Option.or_none]
theorem dPut_len {κ : Type} [DecidableEq κ] (l : List (κ × Val)) (k : κ) (v : Val) : (dPut l k v).length ≤ l.length + 1 := by
  unfold dPut
  split <;> simp
mutual
theorem eqV_refl : ∀ (n : Nat) (v : Val), okV n v = true → eqV v v = true
  | _, .non, _ => by simp [eqV]
  | _, .bl _, _ => by simp [eqV]
  | _, .int _, _ => by simp [eqV]
  | _, .str _, _ => by simp [eqV]
  | 0, .tup _, h => by simp [okV] at h
  | n + 1, .tup xs, h => by simp only [okV] at h; simp only [eqV]; exact eqVs_refl n xs h
  | n, .wt _, h => by cases n <;> simp [okV] at h
  | n, .ref _, h => by cases n <;> simp [okV] at h
  | n, .ty _, h => by cases n <;> simp [okV] at h
  | n, .wl _, h => by cases n <;> simp [okV] at h
theorem eqVs_refl : ∀ (n : Nat) (xs : List Val), okVs n xs = true → eqVs xs xs = true
  | _, [], _ => by simp [eqVs]
  | n, x :: xs, h => by
    simp only [okVs, Bool.and_eq_true] at h
    simp only [eqVs, Bool.and_eq_true]
    exact ⟨eqV_refl n x h.1, eqVs_refl n xs h.2⟩
end
theorem okVs_at : ∀ {n : Nat} {xs : List Val} {i : Nat} {v : Val}, okVs n xs = true → xs[i]? = some v → okV n v = true
  | n, x :: xs, 0, v, h, e => by
    simp only [okVs, Bool.and_eq_true] at h
    simp at e; subst e; exact h.1
  | n, x :: xs, i + 1, v, h, e => by
    simp only [okVs, Bool.and_eq_true] at h
    exact okVs_at h.2 (by simpa using e)
  | n, [], i, v, h, e => by simp at e
theorem okVs_map {α : Type} {n : Nat} {f : α → Val} : ∀ {xs : List α}, (∀ x ∈ xs, okV n (f x) = true) → okVs n (xs.map f) = true
  | [], _ => by simp [okVs]
  | x :: xs, h => by
    simp only [List.map_cons, okVs, Bool.and_eq_true]
    exact ⟨h x List.mem_cons_self, okVs_map fun y hy => h y (List.mem_cons_of_mem _ hy)⟩
mutual
/-- plain data for _law_exact: nested less than n deep, tuples not too long -/
def exV : Nat → Val → Bool
  | _, .non => true
  | _, .bl _ => true
  | _, .int _ => true
  | _, .str _ => true
  | n + 1, .tup xs => decide (xs.length < 1000000000) && exVs n xs
  | _, _ => false
def exVs : Nat → List Val → Bool
  | _, [] => true
  | n, x :: xs => exV n x && exVs n xs
end
theorem exVs_at : ∀ {n : Nat} {xs : List Val} {i : Nat} {v : Val}, exVs n xs = true → xs[i]? = some v → exV n v = true
  | n, x :: xs, 0, v, h, e => by
    simp only [exVs, Bool.and_eq_true] at h
    simp at e; subst e; exact h.1
  | n, x :: xs, i + 1, v, h, e => by
    simp only [exVs, Bool.and_eq_true] at h
    exact exVs_at h.2 (by simpa using e)
  | n, [], i, v, h, e => by simp at e
theorem exVs_map {α : Type} {n : Nat} {f : α → Val} : ∀ {xs : List α}, (∀ x ∈ xs, exV n (f x) = true) → exVs n (xs.map f) = true
  | [], _ => by simp [exVs]
  | x :: xs, h => by
    simp only [List.map_cons, exVs, Bool.and_eq_true]
    exact ⟨h x List.mem_cons_self, exVs_map fun y hy => h y (List.mem_cons_of_mem _ hy)⟩
theorem exV_tup {n : Nat} {xs : List Val} (h : exVs n xs = true) (hl : xs.length < 1000000000) : exV (n + 1) (.tup xs) = true := by
  simp only [exV, Bool.and_eq_true, decide_eq_true_eq]; exact ⟨hl, h⟩
/-- general = of plain values that are not both texts -/
theorem s_eqV {A : AH} {Q : VQ} {neg : Bool} {x y : Val} (h1 : okV 60 x = true) (h2 : okV 60 y = true) {r' : Bool} (hr : xor neg (eqV x y) = r') (q : Q (.bl r') A) : wO (oEq neg) x y A Q := by
  subst hr
  rw [wO_eq]
  unfold oEq
  split
  · simp only [eqV] at q
    rw [Bool.beq_eq_decide_eq] at q; exact q
  · simp [okV] at h1
  · exact ⟨h1, h2, q⟩
end EV

namespace K03
open PySem PySem.Spec PyProof.Rows L2 EV
def topS (i : Nat) : Stmt := PySem.Challenge.pw_veiledcircles_k03_whole_bounds_shut_out.main.body.getD i (.Pass ⟨0, 0, 0, 0⟩)
/-! _law_begin -/
def n__law_begin : List Str := ["script"]
theorem sc__law_begin : FnScope n__law_begin ["script"] (defScope (topS 5)) := ⟨rfl, rfl, rfl, by decide +kernel, rfl, by decide +kernel, by decide +kernel⟩
noncomputable def d__law_begin : DenS :=
  sSeqB (sRet (dLstB (aCons (dCB (wN oList) (aCons (dVar 0) aNil)) (aCons (dLit (.int 0)) (aCons (dLit (.int 0)) (aCons (dLit (.int 7)) (aCons (dLit (.int 0)) aNil))))))) <|
  sSkip
@[irreducible] noncomputable def fn__law_begin : FDen := fDen 1 1 d__law_begin
theorem e__law_begin : fn__law_begin = fDen 1 1 d__law_begin := by rw [fn__law_begin]
theorem c__law_begin : compSs 60 ⟨n__law_begin, defScope (topS 5), [], []⟩ (defBody (topS 5)) = some d__law_begin := by rfl
/-! _law_draw -/
def n__law_draw : List Str := ["d", "many", "cell", "found"]
theorem sc__law_draw : FnScope n__law_draw ["d", "many"] (defScope (topS 6)) := ⟨rfl, rfl, rfl, by decide +kernel, rfl, by decide +kernel, by decide +kernel⟩
noncomputable def d__law_draw : DenS :=
  sSeqB (sIfB (tVal (dOp (wO (oOrd (fun i j => decide (i < j)))) (dVar 1) (dLit (.int 2))))
  (sSeqB (sRet (dLit (.int 0))) <|
    sSkip)
  (sSkip)) <|
  sSeqB (sAsg (dOp (wO oAdd) (dOp (wO oMul) (dOp (wO oIx) (dVar 0) (dLit (.int 4))) (dLit (.int 977))) (dLit (.int 3))) (gNameB 2)) <|
  sSeqB (sIfB (tAndB (tVal (dOp (wO (oEq false)) (dOp (wO oIx) (dVar 0) (dLit (.int 2))) (dLit (.int 0)))) (tVal (dOp (wO (oOrd (fun i j => decide (i < j)))) (dOp (wO oIx) (dVar 0) (dLit (.int 1))) (dCB (wN oLen) (aCons (dOp (wO oIx) (dVar 0) (dLit (.int 0))) aNil)))))
  (sSeqB (sAsg (dOp (wO oIx) (dOp (wO oIx) (dVar 0) (dLit (.int 0))) (dOp (wO oIx) (dVar 0) (dLit (.int 1)))) (gNameB 2)) <|
    sSeqB (sAsg (dOp (wO oAdd) (dOp (wO oIx) (dVar 0) (dLit (.int 1))) (dLit (.int 1))) (gSub (dVar 0) (dLit (.int 1)) (wT oSet))) <|
    sSeqB (sIfB (tVal (dOp (wO (oOrd (fun i j => decide (i < j)))) (dVar 2) (dLit (.int 0))))
    (sSeqB (sAsg (dOp (wO (oInt (· - ·))) (dLit (.int 5)) (dOp (wO oMul) (dLit (.int 3)) (dVar 2))) (gNameB 2)) <|
      sSkip)
    (sSkip)) <|
    sSeqB (sIfB (tVal (dOp (wO (oOrd (fun i j => decide (j ≤ i)))) (dVar 2) (dLit (.int 1000000000000000000))))
    (sSeqB (sAsg (dOp (wO (oInt Builtin.bitAnd)) (dVar 2) (dOp (wO (oInt (· - ·))) (dOp (wO (oIntC CPow (fun i j => i * 2 ^ j.toNat))) (dLit (.int 1)) (dLit (.int 1400))) (dLit (.int 1)))) (gNameB 2)) <|
      sSeqB (sAsg (dVar 2) (gSub (dVar 0) (dLit (.int 2)) (wT oSet))) <|
      sSkip)
    (sSkip)) <|
    sSkip)
  (sSkip)) <|
  sSeqB (sIfB (tVal (dOp (wO (oOrd (fun i j => decide (j < i)))) (dOp (wO oIx) (dVar 0) (dLit (.int 2))) (dLit (.int 0))))
  (sSeqB (sAsg (dOp (wO (oIntC (fun _ j => 0 < j) (· % ·))) (dCB (wN oIntC1) (aCons (dOp (wO oIx) (dVar 0) (dLit (.int 2))) aNil)) (dVar 1)) (gNameB 3)) <|
    sSeqB (sAsg (dOp (wO (oIntC CDiv (· / ·))) (dOp (wO oIx) (dVar 0) (dLit (.int 2))) (dVar 1)) (gSub (dVar 0) (dLit (.int 2)) (wT oSet))) <|
    sSeqB (sRet (dVar 3)) <|
    sSkip)
  (sSkip)) <|
  sSeqB (sAsg (dOp (wO oAdd) (dOp (wO oIx) (dVar 0) (dLit (.int 4))) (dLit (.int 1))) (gSub (dVar 0) (dLit (.int 4)) (wT oSet))) <|
  sSeqB (sAsg (dOp (wO (oIntC (fun _ j => 0 < j) (· % ·))) (dCB (wN oIntC1) (aCons (dOp (wO oAdd) (dOp (wO oAdd) (dOp (wO oMul) (dOp (wO oIx) (dVar 0) (dLit (.int 3))) (dLit (.int 48271))) (dOp (wO oMul) (dVar 2) (dLit (.int 69621)))) (dOp (wO oMul) (dOp (wO oIx) (dVar 0) (dLit (.int 4))) (dLit (.int 7919)))) aNil)) (dLit (.int 2147483647))) (gSub (dVar 0) (dLit (.int 3)) (wT oSet))) <|
  sSeqB (sRet (dOp (wO (oIntC (fun _ j => 0 < j) (· % ·))) (dCB (wN oIntC1) (aCons (dOp (wO (oIntC (fun _ j => 0 < j) (· % ·))) (dCB (wN oIntC1) (aCons (dOp (wO oAdd) (dOp (wO oAdd) (dOp (wO oMul) (dOp (wO oIx) (dVar 0) (dLit (.int 3))) (dLit (.int 40692))) (dOp (wO oMul) (dOp (wO oIx) (dVar 0) (dLit (.int 4))) (dLit (.int 101)))) (dLit (.int 12345))) aNil)) (dLit (.int 2147483399))) aNil)) (dVar 1))) <|
  sSkip
@[irreducible] noncomputable def fn__law_draw : FDen := fDen 4 2 d__law_draw
theorem e__law_draw : fn__law_draw = fDen 4 2 d__law_draw := by rw [fn__law_draw]
theorem c__law_draw : compSs 60 ⟨n__law_draw, defScope (topS 6), [], []⟩ (defBody (topS 6)) = some d__law_draw := by rfl
/-! _law_net -/
def n__law_net : List Str := ["d", "many", "arcs", "tail", "head"]
theorem sc__law_net : FnScope n__law_net ["d"] (defScope (topS 8)) := ⟨rfl, rfl, rfl, by decide +kernel, rfl, by decide +kernel, by decide +kernel⟩
noncomputable def d__law_net : DenS :=
  sSeqB (sAsg (dOp (wO oAdd) (dLit (.int 1)) (dCall fn__law_draw (aCons (dVar 0) (aCons (dLit (.int 7)) aNil)))) (gNameB 1)) <|
  sSeqB (sAsg (dLstB aNil) (gNameB 2)) <|
  sSeqB (sForB (iRng1 (aCons (dVar 1) aNil)) (gNameB 3)
  (sSeqB (sForB (iRng2 (aCons (dOp (wO oAdd) (dVar 3) (dLit (.int 1))) (aCons (dVar 1) aNil))) (gNameB 4)
    (sSeqB (sIfB (tVal (dOp (wO (oOrd (fun i j => decide (j < i)))) (dCall fn__law_draw (aCons (dVar 0) (aCons (dLit (.int 4)) aNil))) (dLit (.int 0))))
      (sSeqB (sExpr (dMe (wM mAppend) tyL (dVar 2) (aCons (dTup (aCons (dVar 3) (aCons (dVar 4) (aCons (dCall fn__law_draw (aCons (dVar 0) (aCons (dLit (.int 6)) aNil))) aNil)))) aNil))) <|
        sSkip)
      (sSkip)) <|
      sSkip)) <|
    sSkip)) <|
  sSeqB (sRet (dTup (aCons (dVar 1) (aCons (dCB (wN oTuple) (aCons (dVar 2) aNil)) aNil)))) <|
  sSkip
@[irreducible] noncomputable def fn__law_net : FDen := fDen 5 1 d__law_net
theorem e__law_net : fn__law_net = fDen 5 1 d__law_net := by rw [fn__law_net]
theorem c__law_net : compSs 60 ⟨n__law_net, defScope (topS 8), [⟨"_law_draw", 1, fn__law_draw⟩], []⟩ (defBody (topS 8)) = some d__law_net := by rfl
/-! _law_totals -/
def n__law_totals : List Str := ["net", "last", "costs", "tail", "head", "cost", "found", "mask", "nodes", "k", "total"]
theorem sc__law_totals : FnScope n__law_totals ["net", "last"] (defScope (topS 9)) := ⟨rfl, rfl, rfl, by decide +kernel, rfl, by decide +kernel, by decide +kernel⟩
noncomputable def d__law_totals : DenS :=
  sSeqB (sAsg dNewTB (gNameB 2)) <|
  sSeqB (sForB (iVal (dOp (wO oIx) (dVar 0) (dLit (.int 1)))) (gTup 3 (gsCons (gNameB 3) (gsCons (gNameB 4) (gsCons (gNameB 5) gsNil))))
  (sSeqB (sAsg (dVar 5) (gSub (dVar 2) (dTup (aCons (dVar 3) (aCons (dVar 4) aNil))) (wT oSet))) <|
    sSkip)) <|
  sSeqB (sIfB (tVal (dOp (wO (oEq false)) (dVar 1) (dLit (.int 0))))
  (sSeqB (sRet (dLstB (aCons (dLit (.int 0)) aNil))) <|
    sSkip)
  (sSkip)) <|
  sSeqB (sAsg (dLstB aNil) (gNameB 6)) <|
  sSeqB (sForB (iRng1 (aCons (dOp (wO (oIntC CPow (fun i j => i * 2 ^ j.toNat))) (dLit (.int 1)) (dOp (wO (oInt (· - ·))) (dVar 1) (dLit (.int 1)))) aNil)) (gNameB 7)
  (sSeqB (sAsg (dOp (wO oAdd) (dOp (wO oAdd) (dLstB (aCons (dLit (.int 0)) aNil)) (dLcB (iRng2 (aCons (dLit (.int 1)) (aCons (dVar 1) aNil))) (.one 9) (tVal (dOp (wO (oEq false)) (dOp (wO (oInt Builtin.bitAnd)) (dOp (wO (oIntC (fun _ j => 0 ≤ j) (fun i j => i / 2 ^ j.toNat))) (dVar 7) (dOp (wO (oInt (· - ·))) (dVar 9) (dLit (.int 1)))) (dLit (.int 1))) (dLit (.int 1)))) (dVar 9) [9])) (dLstB (aCons (dVar 1) aNil))) (gNameB 8)) <|
    sSeqB (sAsg (dLit (.int 0)) (gNameB 10)) <|
    sSeqB (sForB (iRng1 (aCons (dOp (wO (oInt (· - ·))) (dCB (wN oLen) (aCons (dVar 8) aNil)) (dLit (.int 1))) aNil)) (gNameB 9)
    (sSeqB (sIfB (tAndB (tVal (dOp (wO (oIs true)) (dVar 10) (dLit .non))) (tVal (dOp (wO (oIn false)) (dTup (aCons (dOp (wO oIx) (dVar 8) (dVar 9)) (aCons (dOp (wO oIx) (dVar 8) (dOp (wO oAdd) (dVar 9) (dLit (.int 1)))) aNil))) (dVar 2))))
      (sSeqB (sAsg (dOp (wO oAdd) (dVar 10) (dOp (wO oIx) (dVar 2) (dTup (aCons (dOp (wO oIx) (dVar 8) (dVar 9)) (aCons (dOp (wO oIx) (dVar 8) (dOp (wO oAdd) (dVar 9) (dLit (.int 1)))) aNil))))) (gNameB 10)) <|
        sSkip)
      (sSeqB (sAsg (dLit .non) (gNameB 10)) <|
        sSkip)) <|
      sSkip)) <|
    sSeqB (sIfB (tVal (dOp (wO (oIs true)) (dVar 10) (dLit .non)))
    (sSeqB (sExpr (dMe (wM mAppend) tyL (dVar 6) (aCons (dVar 10) aNil))) <|
      sSkip)
    (sSkip)) <|
    sSkip)) <|
  sSeqB (sRet (dVar 6)) <|
  sSkip
@[irreducible] noncomputable def fn__law_totals : FDen := fDen 11 2 d__law_totals
theorem e__law_totals : fn__law_totals = fDen 11 2 d__law_totals := by rw [fn__law_totals]
theorem c__law_totals : compSs 60 ⟨n__law_totals, defScope (topS 9), [], [(72, 12)]⟩ (defBody (topS 9)) = some d__law_totals := by rfl
/-! _law_exact -/
def n__law_exact : List Str := ["told", "due", "k"]
theorem sc__law_exact : FnScope n__law_exact ["told", "due"] (defScope (topS 7)) := ⟨rfl, rfl, rfl, by decide +kernel, rfl, by decide +kernel, by decide +kernel⟩
noncomputable def d__law_exact (self : FDen) : DenS :=
  sSeqB (sIfB (tTru (dCB (wN oIsi) (aCons (dVar 1) (aCons (dLit (.ty "tuple")) aNil))))
  (sSeqB (sIfB (tOrB (tNot (tTru (dCB (wN oIsi) (aCons (dVar 0) (aCons (dLit (.ty "tuple")) aNil))))) (tVal (dOp (wO (oEq true)) (dCB (wN oLen) (aCons (dVar 0) aNil)) (dCB (wN oLen) (aCons (dVar 1) aNil)))))
    (sSeqB (sRet (dLit (.bl false))) <|
      sSkip)
    (sSkip)) <|
    sSeqB (sForB (iRng1 (aCons (dCB (wN oLen) (aCons (dVar 1) aNil)) aNil)) (gNameB 2)
    (sSeqB (sIfB (tNot (tTru (dCall self (aCons (dOp (wO oIx) (dVar 0) (dVar 2)) (aCons (dOp (wO oIx) (dVar 1) (dVar 2)) aNil)))))
      (sSeqB (sRet (dLit (.bl false))) <|
        sSkip)
      (sSkip)) <|
      sSkip)) <|
    sSeqB (sRet (dLit (.bl true))) <|
    sSkip)
  (sSkip)) <|
  sSeqB (sIfB (tVal (dOp (wO (oIs false)) (dVar 1) (dLit .non)))
  (sSeqB (sRet (dOp (wO (oIs false)) (dVar 0) (dLit .non))) <|
    sSkip)
  (sSkip)) <|
  sSeqB (sIfB (tTru (dCB (wN oIsi) (aCons (dVar 1) (aCons (dLit (.ty "bool")) aNil))))
  (sSeqB (sRet (dAndB (dCB (wN oIsi) (aCons (dVar 0) (aCons (dLit (.ty "bool")) aNil))) (dOp (wO (oEq false)) (dVar 0) (dVar 1)))) <|
    sSkip)
  (sSkip)) <|
  sSeqB (sIfB (tTru (dCB (wN oIsi) (aCons (dVar 1) (aCons (dLit (.ty "int")) aNil))))
  (sSeqB (sRet (dAndB (dCB (wN oIsi) (aCons (dVar 0) (aCons (dLit (.ty "int")) aNil))) (dAndB (dNotV (dCB (wN oIsi) (aCons (dVar 0) (aCons (dLit (.ty "bool")) aNil)))) (dOp (wO (oEq false)) (dVar 0) (dVar 1))))) <|
    sSkip)
  (sSkip)) <|
  sSeqB (sRet (dAndB (dCB (wN oIsi) (aCons (dVar 0) (aCons (dLit (.ty "str")) aNil))) (dOp (wO (oEq false)) (dVar 0) (dVar 1)))) <|
  sSkip
noncomputable def fn__law_exactN (n : Nat) : FDen := Nat.rec (fun _ _ _ _ => False) (fun _ ih => fDen 3 2 (d__law_exact ih)) n
theorem e__law_exact (n : Nat) : fn__law_exactN (n + 1) = fDen 3 2 (d__law_exact (fn__law_exactN n)) := rfl
@[irreducible] noncomputable def fn__law_exact : FDen := fn__law_exactN 12
theorem c__law_exact (l : Nat) (self : FDen) : compSs 60 ⟨n__law_exact, defScope (topS 7), [⟨"_law_exact", l, self⟩], []⟩ (defBody (topS 7)) = some (d__law_exact self) := by rfl
/-! reached -/
def n_reached : List Str := ["net", "many", "arcs", "found", "tail", "head", "cost", "total", "old"]
theorem sc_reached : FnScope n_reached ["net"] (defScope (topS 1)) := ⟨rfl, rfl, rfl, by decide +kernel, rfl, by decide +kernel, by decide +kernel⟩
noncomputable def d_reached : DenS :=
  sSeqB (sAsg (dVar 0) (gTup 2 (gsCons (gNameB 1) (gsCons (gNameB 2) gsNil)))) <|
  sSeqB (sAsg (dOp (wO oMul) (dLstB (aCons (dLit .non) aNil)) (dVar 1)) (gNameB 3)) <|
  sSeqB (sAsg (dTup (aCons (dLit (.int 0)) (aCons (dLit .non) aNil))) (gSub (dVar 3) (dLit (.int 0)) (wT oSet))) <|
  sSeqB (sForB (iVal (dVar 2)) (gTup 3 (gsCons (gNameB 4) (gsCons (gNameB 5) (gsCons (gNameB 6) gsNil))))
  (sSeqB (sIfB (tVal (dOp (wO (oIs false)) (dOp (wO oIx) (dVar 3) (dVar 4)) (dLit .non)))
    (sSeqB (sCont) <|
      sSkip)
    (sSkip)) <|
    sSeqB (sAsg (dOp (wO oAdd) (dOp (wO oIx) (dOp (wO oIx) (dVar 3) (dVar 4)) (dLit (.int 0))) (dVar 6)) (gNameB 7)) <|
    sSeqB (sAsg (dOp (wO oIx) (dVar 3) (dVar 5)) (gNameB 8)) <|
    sSeqB (sIfB (tOrB (tVal (dOp (wO (oIs false)) (dVar 8) (dLit .non))) (tVal (dOp (wO (oOrd (fun i j => decide (i < j)))) (dVar 7) (dOp (wO oIx) (dVar 8) (dLit (.int 0))))))
    (sSeqB (sAsg (dTup (aCons (dVar 7) (aCons (dVar 4) aNil))) (gSub (dVar 3) (dVar 5) (wT oSet))) <|
      sSkip)
    (sSkip)) <|
    sSkip)) <|
  sSeqB (sRet (dVar 3)) <|
  sSkip
@[irreducible] noncomputable def fn_reached : FDen := fDen 9 1 d_reached
theorem e_reached : fn_reached = fDen 9 1 d_reached := by rw [fn_reached]
theorem c_reached : compSs 60 ⟨n_reached, defScope (topS 1), [], []⟩ (defBody (topS 1)) = some d_reached := by rfl
/-! bounds_of -/
def n_bounds_of : List Str := ["net", "one"]
theorem sc_bounds_of : FnScope n_bounds_of ["net"] (defScope (topS 2)) := ⟨rfl, rfl, rfl, by decide +kernel, rfl, by decide +kernel, by decide +kernel⟩
noncomputable def d_bounds_of : DenS :=
  sSeqB (sRet (dCB (wN oTuple) (aCons (dLcB (iVal (dCall fn_reached (aCons (dVar 0) aNil))) (.one 1) tYesV (dIfB (tVal (dOp (wO (oIs false)) (dVar 1) (dLit .non))) (dLit .non) (dOp (wO oIx) (dVar 1) (dLit (.int 0)))) [1]) aNil))) <|
  sSkip
@[irreducible] noncomputable def fn_bounds_of : FDen := fDen 2 1 d_bounds_of
theorem e_bounds_of : fn_bounds_of = fDen 2 1 d_bounds_of := by rw [fn_bounds_of]
theorem c_bounds_of : compSs 60 ⟨n_bounds_of, defScope (topS 2), [⟨"reached", 1, fn_reached⟩], []⟩ (defBody (topS 2)) = some d_bounds_of := by rfl
/-! judge_bounds -/
def n_judge_bounds : List Str := ["net", "total", "bounds", "many", "arcs", "tail", "head", "cost"]
theorem sc_judge_bounds : FnScope n_judge_bounds ["net", "total", "bounds"] (defScope (topS 3)) := ⟨rfl, rfl, rfl, by decide +kernel, rfl, by decide +kernel, by decide +kernel⟩
noncomputable def d_judge_bounds : DenS :=
  sSeqB (sAsg (dVar 0) (gTup 2 (gsCons (gNameB 3) (gsCons (gNameB 4) gsNil)))) <|
  sSeqB (sIfB (tOrB (tVal (dOp (wO (oEq true)) (dCB (wN oLen) (aCons (dVar 2) aNil)) (dVar 3))) (tOrB (tVal (dOp (wO (oEq true)) (dOp (wO oIx) (dVar 2) (dLit (.int 0))) (dLit (.int 0)))) (tVal (dOp (wO (oEq true)) (dOp (wO oIx) (dVar 2) (dOp (wO (oInt (· - ·))) (dVar 3) (dLit (.int 1)))) (dVar 1)))))
  (sSeqB (sRet (dLit (.bl false))) <|
    sSkip)
  (sSkip)) <|
  sSeqB (sForB (iVal (dVar 4)) (gTup 3 (gsCons (gNameB 5) (gsCons (gNameB 6) (gsCons (gNameB 7) gsNil))))
  (sSeqB (sIfB (tVal (dOp (wO (oIs false)) (dOp (wO oIx) (dVar 2) (dVar 5)) (dLit .non)))
    (sSeqB (sCont) <|
      sSkip)
    (sSkip)) <|
    sSeqB (sIfB (tOrB (tVal (dOp (wO (oIs false)) (dOp (wO oIx) (dVar 2) (dVar 6)) (dLit .non))) (tVal (dOp (wO (oOrd (fun i j => decide (j < i)))) (dOp (wO oIx) (dVar 2) (dVar 6)) (dOp (wO oAdd) (dOp (wO oIx) (dVar 2) (dVar 5)) (dVar 7)))))
    (sSeqB (sRet (dLit (.bl false))) <|
      sSkip)
    (sSkip)) <|
    sSkip)) <|
  sSeqB (sRet (dLit (.bl true))) <|
  sSkip
@[irreducible] noncomputable def fn_judge_bounds : FDen := fDen 8 3 d_judge_bounds
theorem e_judge_bounds : fn_judge_bounds = fDen 8 3 d_judge_bounds := by rw [fn_judge_bounds]
theorem c_judge_bounds : compSs 60 ⟨n_judge_bounds, defScope (topS 3), [], []⟩ (defBody (topS 3)) = some d_judge_bounds := by rfl
/-! law -/
def n_law : List Str := ["script", "d", "net", "due", "node", "totals", "turn", "paper", "low", "claim"]
theorem sc_law : FnScope n_law ["script"] (defScope (topS 10)) := ⟨rfl, rfl, rfl, by decide +kernel, rfl, by decide +kernel, by decide +kernel⟩
noncomputable def d_law : DenS :=
  sSeqB (sAsg (dCall fn__law_begin (aCons (dVar 0) aNil)) (gNameB 1)) <|
  sSeqB (sAsg (dCall fn__law_net (aCons (dVar 1) aNil)) (gNameB 2)) <|
  sSeqB (sAsg (dLstB aNil) (gNameB 3)) <|
  sSeqB (sForB (iRng1 (aCons (dOp (wO oIx) (dVar 2) (dLit (.int 0))) aNil)) (gNameB 4)
  (sSeqB (sAsg (dCall fn__law_totals (aCons (dVar 2) (aCons (dVar 4) aNil))) (gNameB 5)) <|
    sSeqB (sExpr (dMe (wM mAppend) tyL (dVar 3) (aCons (dIfB (tTru (dVar 5)) (dCB (wN oMin) (aCons (dVar 5) aNil)) (dLit .non)) aNil))) <|
    sSkip)) <|
  sSeqB (sIfB (tNot (tTru (dCall fn__law_exact (aCons (dCall fn_bounds_of (aCons (dVar 2) aNil)) (aCons (dCB (wN oTuple) (aCons (dVar 3) aNil)) aNil)))))
  (sSeqB (sRet (dLit (.bl false))) <|
    sSkip)
  (sSkip)) <|
  sSeqB (sIfB (tVal (dOp (wO (oIs true)) (dCall fn_judge_bounds (aCons (dVar 2) (aCons (dOp (wO oIx) (dVar 3) (dOp (wO (oInt (· - ·))) (dOp (wO oIx) (dVar 2) (dLit (.int 0))) (dLit (.int 1)))) (aCons (dCall fn_bounds_of (aCons (dVar 2) aNil)) aNil)))) (dLit (.bl true))))
  (sSeqB (sRet (dLit (.bl false))) <|
    sSkip)
  (sSkip)) <|
  sSeqB (sAsg (dCall fn__law_totals (aCons (dVar 2) (aCons (dOp (wO (oInt (· - ·))) (dOp (wO oIx) (dVar 2) (dLit (.int 0))) (dLit (.int 1))) aNil))) (gNameB 5)) <|
  sSeqB (sForB (iRng1 (aCons (dLit (.int 6)) aNil)) (gNameB 6)
  (sSeqB (sAsg (dLstB aNil) (gNameB 7)) <|
    sSeqB (sForB (iRng1 (aCons (dOp (wO oIx) (dVar 2) (dLit (.int 0))) aNil)) (gNameB 4)
    (sSeqB (sAsg (dOp (wO oIx) (dVar 3) (dVar 4)) (gNameB 8)) <|
      sSeqB (sIfB (tAndB (tVal (dOp (wO (oIs true)) (dVar 8) (dLit .non))) (tVal (dOp (wO (oOrd (fun i j => decide (j < i)))) (dVar 4) (dLit (.int 0)))))
      (sSeqB (sAsg (dOp (wO (oInt (· - ·))) (dVar 8) (dCall fn__law_draw (aCons (dVar 1) (aCons (dLit (.int 3)) aNil)))) (gNameB 8)) <|
        sSkip)
      (sSkip)) <|
      sSeqB (sIfB (tVal (dOp (wO (oEq false)) (dCall fn__law_draw (aCons (dVar 1) (aCons (dLit (.int 8)) aNil))) (dLit (.int 5))))
      (sSeqB (sAsg (dLit .non) (gNameB 8)) <|
        sSkip)
      (sSkip)) <|
      sSeqB (sExpr (dMe (wM mAppend) tyL (dVar 7) (aCons (dVar 8) aNil))) <|
      sSkip)) <|
    sSeqB (sAsg (dOp (wO oIx) (dVar 7) (dOp (wO (oInt (· - ·))) (dOp (wO oIx) (dVar 2) (dLit (.int 0))) (dLit (.int 1)))) (gNameB 9)) <|
    sSeqB (sIfB (tTru (dCall fn_judge_bounds (aCons (dVar 2) (aCons (dVar 9) (aCons (dCB (wN oTuple) (aCons (dVar 7) aNil)) aNil)))))
    (sSeqB (sIfB (tAndB (tVal (dOp (wO (oIs false)) (dVar 9) (dLit .non))) (tTru (dVar 5)))
      (sSeqB (sRet (dLit (.bl false))) <|
        sSkip)
      (sSkip)) <|
      sSeqB (sIfB (tAndB (tVal (dOp (wO (oIs true)) (dVar 9) (dLit .non))) (tAndB (tTru (dVar 5)) (tVal (dOp (wO (oOrd (fun i j => decide (i < j)))) (dCB (wN oMin) (aCons (dVar 5) aNil)) (dVar 9)))))
      (sSeqB (sRet (dLit (.bl false))) <|
        sSkip)
      (sSkip)) <|
      sSkip)
    (sSkip)) <|
    sSkip)) <|
  sSeqB (sRet (dLit (.bl true))) <|
  sSkip
@[irreducible] noncomputable def fn_law : FDen := fDen 10 1 d_law
theorem e_law : fn_law = fDen 10 1 d_law := by rw [fn_law]
theorem c_law : compSs 60 ⟨n_law, defScope (topS 10), [⟨"_law_begin", 1, fn__law_begin⟩, ⟨"_law_net", 2, fn__law_net⟩, ⟨"_law_totals", 1, fn__law_totals⟩, ⟨"_law_exact", 12, fn__law_exact⟩, ⟨"bounds_of", 2, fn_bounds_of⟩, ⟨"judge_bounds", 1, fn_judge_bounds⟩, ⟨"_law_draw", 1, fn__law_draw⟩], []⟩ (defBody (topS 10)) = some d_law := by rfl
section
variable {P : Program} {w : World} {G : Gc} {mg : Str → Option Value} {base : Heap}
theorem ok__law_begin  (F : Has G.K mg "_law_begin" (topS 5) ["script"]) (hb : ∀ y ∈ bltNames, mg y = none) : FOkM P w G mg base ⟨"_law_begin", 1, fn__law_begin⟩ := by
  rw [e__law_begin]; exact fok (n := 60) (C := ⟨n__law_begin, defScope (topS 5), [], []⟩) (lev := 0) F sc__law_begin rfl rfl (by decide) (fun fi h => by cases h) hb ⟨rfl, by decide, by decide⟩ c__law_begin
theorem ok__law_draw  (F : Has G.K mg "_law_draw" (topS 6) ["d", "many"]) (hb : ∀ y ∈ bltNames, mg y = none) : FOkM P w G mg base ⟨"_law_draw", 1, fn__law_draw⟩ := by
  rw [e__law_draw]; exact fok (n := 60) (C := ⟨n__law_draw, defScope (topS 6), [], []⟩) (lev := 0) F sc__law_draw rfl rfl (by decide) (fun fi h => by cases h) hb ⟨rfl, by decide, by decide⟩ c__law_draw
theorem ok__law_net (h__law_draw : FOkM P w G mg base ⟨"_law_draw", 1, fn__law_draw⟩) (F : Has G.K mg "_law_net" (topS 8) ["d"]) (hb : ∀ y ∈ bltNames, mg y = none) : FOkM P w G mg base ⟨"_law_net", 2, fn__law_net⟩ := by
  rw [e__law_net]; exact fok (n := 60) (C := ⟨n__law_net, defScope (topS 8), [⟨"_law_draw", 1, fn__law_draw⟩], []⟩) (lev := 1) F sc__law_net rfl rfl (by decide) (fun fi h => by simp only [List.mem_cons, List.not_mem_nil, or_false] at h; rcases h with rfl <;> assumption) hb ⟨rfl, by decide, by decide⟩ c__law_net
theorem ok__law_totals  (F : Has G.K mg "_law_totals" (topS 9) ["net", "last"]) (hb : ∀ y ∈ bltNames, mg y = none) : FOkM P w G mg base ⟨"_law_totals", 1, fn__law_totals⟩ := by
  rw [e__law_totals]; exact fok (n := 60) (C := ⟨n__law_totals, defScope (topS 9), [], [(72, 12)]⟩) (lev := 0) F sc__law_totals rfl rfl (by decide) (fun fi h => by cases h) hb ⟨rfl, by decide, by decide⟩ c__law_totals
theorem okN__law_exact  (F : Has G.K mg "_law_exact" (topS 7) ["told", "due"]) (hb : ∀ y ∈ bltNames, mg y = none) : ∀ n : Nat, n ≤ 12 → FOkM P w G mg base ⟨"_law_exact", 0 + n, fn__law_exactN n⟩
  | 0, _ => F.none
  | n + 1, hn => by
    have ih := okN__law_exact  F hb n (by omega)
    rw [e__law_exact]
    exact fok (n := 60) (C := ⟨n__law_exact, defScope (topS 7), [⟨"_law_exact", 0 + n, fn__law_exactN n⟩], []⟩) (lev := 0 + n) F sc__law_exact rfl rfl (fun fi h => by simp only [List.mem_cons, List.not_mem_nil, or_false] at h; rcases h with rfl <;> (dsimp only; omega)) (fun fi h => by simp only [List.mem_cons, List.not_mem_nil, or_false] at h; rcases h with rfl <;> assumption) hb (Room.mono (k := 200) ⟨rfl, by decide, by decide⟩ (by omega)) (c__law_exact _ _)
theorem ok__law_exact  (F : Has G.K mg "_law_exact" (topS 7) ["told", "due"]) (hb : ∀ y ∈ bltNames, mg y = none) : FOkM P w G mg base ⟨"_law_exact", 12, fn__law_exact⟩ := by rw [fn__law_exact]; exact okN__law_exact  F hb 12 (Nat.le_refl _)
theorem ok_reached  (F : Has G.K mg "reached" (topS 1) ["net"]) (hb : ∀ y ∈ bltNames, mg y = none) : FOkM P w G mg base ⟨"reached", 1, fn_reached⟩ := by
  rw [e_reached]; exact fok (n := 60) (C := ⟨n_reached, defScope (topS 1), [], []⟩) (lev := 0) F sc_reached rfl rfl (by decide) (fun fi h => by cases h) hb ⟨rfl, by decide, by decide⟩ c_reached
theorem ok_bounds_of (h_reached : FOkM P w G mg base ⟨"reached", 1, fn_reached⟩) (F : Has G.K mg "bounds_of" (topS 2) ["net"]) (hb : ∀ y ∈ bltNames, mg y = none) : FOkM P w G mg base ⟨"bounds_of", 2, fn_bounds_of⟩ := by
  rw [e_bounds_of]; exact fok (n := 60) (C := ⟨n_bounds_of, defScope (topS 2), [⟨"reached", 1, fn_reached⟩], []⟩) (lev := 1) F sc_bounds_of rfl rfl (by decide) (fun fi h => by simp only [List.mem_cons, List.not_mem_nil, or_false] at h; rcases h with rfl <;> assumption) hb ⟨rfl, by decide, by decide⟩ c_bounds_of
theorem ok_judge_bounds  (F : Has G.K mg "judge_bounds" (topS 3) ["net", "total", "bounds"]) (hb : ∀ y ∈ bltNames, mg y = none) : FOkM P w G mg base ⟨"judge_bounds", 1, fn_judge_bounds⟩ := by
  rw [e_judge_bounds]; exact fok (n := 60) (C := ⟨n_judge_bounds, defScope (topS 3), [], []⟩) (lev := 0) F sc_judge_bounds rfl rfl (by decide) (fun fi h => by cases h) hb ⟨rfl, by decide, by decide⟩ c_judge_bounds
theorem ok_law (F__law_begin : Has G.K mg "_law_begin" (topS 5) ["script"]) (F__law_draw : Has G.K mg "_law_draw" (topS 6) ["d", "many"]) (F__law_net : Has G.K mg "_law_net" (topS 8) ["d"]) (F__law_totals : Has G.K mg "_law_totals" (topS 9) ["net", "last"]) (F__law_exact : Has G.K mg "_law_exact" (topS 7) ["told", "due"]) (F_reached : Has G.K mg "reached" (topS 1) ["net"]) (F_bounds_of : Has G.K mg "bounds_of" (topS 2) ["net"]) (F_judge_bounds : Has G.K mg "judge_bounds" (topS 3) ["net", "total", "bounds"]) {fa : Addr} {fd : FuncData} (F : Fun G.K "law" "law" (topS 10) fa fd) (hb : ∀ y ∈ bltNames, mg y = none) : FnOk P w G.K mg base (L2.CX P w) 13 fa fd ["script"] (SpF G fn_law) ∧ MonoF fn_law := by
  have h__law_begin : FOkM P w G mg base ⟨"_law_begin", 1, fn__law_begin⟩ := ok__law_begin  F__law_begin hb
  have h__law_draw : FOkM P w G mg base ⟨"_law_draw", 1, fn__law_draw⟩ := ok__law_draw  F__law_draw hb
  have h__law_net : FOkM P w G mg base ⟨"_law_net", 2, fn__law_net⟩ := ok__law_net h__law_draw F__law_net hb
  have h__law_totals : FOkM P w G mg base ⟨"_law_totals", 1, fn__law_totals⟩ := ok__law_totals  F__law_totals hb
  have h__law_exact : FOkM P w G mg base ⟨"_law_exact", 12, fn__law_exact⟩ := ok__law_exact  F__law_exact hb
  have h_reached : FOkM P w G mg base ⟨"reached", 1, fn_reached⟩ := ok_reached  F_reached hb
  have h_bounds_of : FOkM P w G mg base ⟨"bounds_of", 2, fn_bounds_of⟩ := ok_bounds_of h_reached F_bounds_of hb
  have h_judge_bounds : FOkM P w G mg base ⟨"judge_bounds", 1, fn_judge_bounds⟩ := ok_judge_bounds  F_judge_bounds hb
  rw [e_law]
  exact fok_fn (n := 60) (C := ⟨n_law, defScope (topS 10), [⟨"_law_begin", 1, fn__law_begin⟩, ⟨"_law_net", 2, fn__law_net⟩, ⟨"_law_totals", 1, fn__law_totals⟩, ⟨"_law_exact", 12, fn__law_exact⟩, ⟨"bounds_of", 2, fn_bounds_of⟩, ⟨"judge_bounds", 1, fn_judge_bounds⟩, ⟨"_law_draw", 1, fn__law_draw⟩], []⟩) (lev := 12) F sc_law rfl rfl (by decide) (fun fi h => by simp only [List.mem_cons, List.not_mem_nil, or_false] at h; rcases h with rfl | rfl | rfl | rfl | rfl | rfl | rfl <;> assumption) hb ⟨rfl, by decide, by decide⟩ c_law
end
theorem all_mk {l : PySem.W.OpenLaw} {w : World} {K : PySem.W.Frag} {cn : Str → Value → Prop} {h : Heap} {mg : Str → Option Value} {fa : Addr} (X : K.In h) (GG : h.Ns mainGlobals mg) (hfa : mg "law" = some (.ref fa))
    {f0 : Addr} {od0 an0 : Option Addr} {sl0 : Array (Option Value)} {oc0 kV0 dc0 pm0 cd0 ct0 : Value}
    {f1 : Addr} {od1 an1 : Option Addr} {sl1 : Array (Option Value)} {oc1 kV1 dc1 pm1 cd1 ct1 : Value}
    {f2 : Addr} {od2 an2 : Option Addr} {sl2 : Array (Option Value)} {oc2 kV2 dc2 pm2 cd2 ct2 : Value}
    {f3 : Addr} {od3 an3 : Option Addr} {sl3 : Array (Option Value)} {oc3 kV3 dc3 pm3 cd3 ct3 : Value}
    {f4 : Addr} {od4 an4 : Option Addr} {sl4 : Array (Option Value)} {oc4 kV4 dc4 pm4 cd4 ct4 : Value}
    {f5 : Addr} {od5 an5 : Option Addr} {sl5 : Array (Option Value)} {oc5 kV5 dc5 pm5 cd5 ct5 : Value}
    {f6 : Addr} {od6 an6 : Option Addr} {sl6 : Array (Option Value)} {oc6 kV6 dc6 pm6 cd6 ct6 : Value}
    {f7 : Addr} {od7 an7 : Option Addr} {sl7 : Array (Option Value)} {oc7 kV7 dc7 pm7 cd7 ct7 : Value}
    {fL : Addr} {odL anL : Option Addr} {slL : Array (Option Value)} {ocL kVL dcL pmL cdL ctL : Value}
    (a0 : PySem.W.nsIn K mainGlobals "_law_begin" = some (some (.ref f0))) (l0 : K.lookup f0 = some ⟨oc0, od0, .func (PySem.W.fnOf "_law_begin" "_law_begin" (defArgs (topS 5)) (defBody (topS 5)) (defScope (topS 5)) .none kV0 dc0 pm0 an0 cd0 ct0), sl0⟩) (c0 : PySem.W.codeIn K cd0 "_law_begin" = true) (k0 : PySem.W.keepIn K (.ref f0) = true)
    (a1 : PySem.W.nsIn K mainGlobals "_law_draw" = some (some (.ref f1))) (l1 : K.lookup f1 = some ⟨oc1, od1, .func (PySem.W.fnOf "_law_draw" "_law_draw" (defArgs (topS 6)) (defBody (topS 6)) (defScope (topS 6)) .none kV1 dc1 pm1 an1 cd1 ct1), sl1⟩) (c1 : PySem.W.codeIn K cd1 "_law_draw" = true) (k1 : PySem.W.keepIn K (.ref f1) = true)
    (a2 : PySem.W.nsIn K mainGlobals "_law_net" = some (some (.ref f2))) (l2 : K.lookup f2 = some ⟨oc2, od2, .func (PySem.W.fnOf "_law_net" "_law_net" (defArgs (topS 8)) (defBody (topS 8)) (defScope (topS 8)) .none kV2 dc2 pm2 an2 cd2 ct2), sl2⟩) (c2 : PySem.W.codeIn K cd2 "_law_net" = true) (k2 : PySem.W.keepIn K (.ref f2) = true)
    (a3 : PySem.W.nsIn K mainGlobals "_law_totals" = some (some (.ref f3))) (l3 : K.lookup f3 = some ⟨oc3, od3, .func (PySem.W.fnOf "_law_totals" "_law_totals" (defArgs (topS 9)) (defBody (topS 9)) (defScope (topS 9)) .none kV3 dc3 pm3 an3 cd3 ct3), sl3⟩) (c3 : PySem.W.codeIn K cd3 "_law_totals" = true) (k3 : PySem.W.keepIn K (.ref f3) = true)
    (a4 : PySem.W.nsIn K mainGlobals "_law_exact" = some (some (.ref f4))) (l4 : K.lookup f4 = some ⟨oc4, od4, .func (PySem.W.fnOf "_law_exact" "_law_exact" (defArgs (topS 7)) (defBody (topS 7)) (defScope (topS 7)) .none kV4 dc4 pm4 an4 cd4 ct4), sl4⟩) (c4 : PySem.W.codeIn K cd4 "_law_exact" = true) (k4 : PySem.W.keepIn K (.ref f4) = true)
    (a5 : PySem.W.nsIn K mainGlobals "reached" = some (some (.ref f5))) (l5 : K.lookup f5 = some ⟨oc5, od5, .func (PySem.W.fnOf "reached" "reached" (defArgs (topS 1)) (defBody (topS 1)) (defScope (topS 1)) .none kV5 dc5 pm5 an5 cd5 ct5), sl5⟩) (c5 : PySem.W.codeIn K cd5 "reached" = true) (k5 : PySem.W.keepIn K (.ref f5) = true)
    (a6 : PySem.W.nsIn K mainGlobals "bounds_of" = some (some (.ref f6))) (l6 : K.lookup f6 = some ⟨oc6, od6, .func (PySem.W.fnOf "bounds_of" "bounds_of" (defArgs (topS 2)) (defBody (topS 2)) (defScope (topS 2)) .none kV6 dc6 pm6 an6 cd6 ct6), sl6⟩) (c6 : PySem.W.codeIn K cd6 "bounds_of" = true) (k6 : PySem.W.keepIn K (.ref f6) = true)
    (a7 : PySem.W.nsIn K mainGlobals "judge_bounds" = some (some (.ref f7))) (l7 : K.lookup f7 = some ⟨oc7, od7, .func (PySem.W.fnOf "judge_bounds" "judge_bounds" (defArgs (topS 3)) (defBody (topS 3)) (defScope (topS 3)) .none kV7 dc7 pm7 an7 cd7 ct7), sl7⟩) (c7 : PySem.W.codeIn K cd7 "judge_bounds" = true) (k7 : PySem.W.keepIn K (.ref f7) = true)
    (aL : PySem.W.nsIn K mainGlobals "law" = some (some (.ref fL))) (lL : K.lookup fL = some ⟨ocL, odL, .func (PySem.W.fnOf "law" "law" (defArgs (topS 10)) (defBody (topS 10)) (defScope (topS 10)) .none kVL dcL pmL anL cdL ctL), slL⟩) (cL : PySem.W.codeIn K cdL "law" = true) (kL : PySem.W.keepIn K (.ref fL) = true)
    (z0 : PySem.W.nsIn K mainGlobals "len" = some none)
    (z1 : PySem.W.nsIn K mainGlobals "list" = some none)
    (z2 : PySem.W.nsIn K mainGlobals "tuple" = some none)
    (z3 : PySem.W.nsIn K mainGlobals "int" = some none)
    (z4 : PySem.W.nsIn K mainGlobals "sum" = some none)
    (z5 : PySem.W.nsIn K mainGlobals "max" = some none)
    (z6 : PySem.W.nsIn K mainGlobals "min" = some none)
    (z7 : PySem.W.nsIn K mainGlobals "sorted" = some none)
    (z8 : PySem.W.nsIn K mainGlobals "isinstance" = some none)
    (z9 : PySem.W.nsIn K mainGlobals "range" = some none)
    (z10 : PySem.W.nsIn K mainGlobals "enumerate" = some none)
    (z11 : PySem.W.nsIn K mainGlobals "zip" = some none)
    (z12 : PySem.W.nsIn K mainGlobals "reversed" = some none)
    (z13 : PySem.W.nsIn K mainGlobals "str" = some none)
    (z14 : PySem.W.nsIn K mainGlobals "bool" = some none)
    : ∃ fd : FuncData, (∀ (s : Shared) (v : Value), BindsTo s fd ⟨[v], []⟩ [("script", v)]) ∧ ∀ base : Heap, K.In base → base.Ns mainGlobals mg → FnOk l.prog w K mg base (L2.CX l.prog w) 13 fa fd ["script"] (SpF ⟨K, cn⟩ fn_law) ∧ MonoF fn_law := by
  have e := hfa.symm.trans (PySem.W.mg_of X GG aL)
  cases e
  have F0 : Has K mg "_law_begin" (topS 5) ["script"] := has_mk (PySem.W.mg_of X GG a0) l0 c0 k0 fun _ _ _ _ _ _ us hl => match us, hl with | [_], _ => rfl
  have F1 : Has K mg "_law_draw" (topS 6) ["d", "many"] := has_mk (PySem.W.mg_of X GG a1) l1 c1 k1 fun _ _ _ _ _ _ us hl => match us, hl with | [_, _], _ => rfl
  have F2 : Has K mg "_law_net" (topS 8) ["d"] := has_mk (PySem.W.mg_of X GG a2) l2 c2 k2 fun _ _ _ _ _ _ us hl => match us, hl with | [_], _ => rfl
  have F3 : Has K mg "_law_totals" (topS 9) ["net", "last"] := has_mk (PySem.W.mg_of X GG a3) l3 c3 k3 fun _ _ _ _ _ _ us hl => match us, hl with | [_, _], _ => rfl
  have F4 : Has K mg "_law_exact" (topS 7) ["told", "due"] := has_mk (PySem.W.mg_of X GG a4) l4 c4 k4 fun _ _ _ _ _ _ us hl => match us, hl with | [_, _], _ => rfl
  have F5 : Has K mg "reached" (topS 1) ["net"] := has_mk (PySem.W.mg_of X GG a5) l5 c5 k5 fun _ _ _ _ _ _ us hl => match us, hl with | [_], _ => rfl
  have F6 : Has K mg "bounds_of" (topS 2) ["net"] := has_mk (PySem.W.mg_of X GG a6) l6 c6 k6 fun _ _ _ _ _ _ us hl => match us, hl with | [_], _ => rfl
  have F7 : Has K mg "judge_bounds" (topS 3) ["net", "total", "bounds"] := has_mk (PySem.W.mg_of X GG a7) l7 c7 k7 fun _ _ _ _ _ _ us hl => match us, hl with | [_, _, _], _ => rfl
  have FL := fun_mk (st := topS 10) lL cL kL
  have hb : ∀ y ∈ bltNames, mg y = none := fun y hy => by
    simp only [bltNames, List.mem_cons, List.not_mem_nil, or_false] at hy
    rcases hy with rfl | rfl | rfl | rfl | rfl | rfl | rfl | rfl | rfl | rfl | rfl | rfl | rfl | rfl | rfl
    · exact PySem.W.mg_none_of X GG z0
    · exact PySem.W.mg_none_of X GG z1
    · exact PySem.W.mg_none_of X GG z2
    · exact PySem.W.mg_none_of X GG z3
    · exact PySem.W.mg_none_of X GG z4
    · exact PySem.W.mg_none_of X GG z5
    · exact PySem.W.mg_none_of X GG z6
    · exact PySem.W.mg_none_of X GG z7
    · exact PySem.W.mg_none_of X GG z8
    · exact PySem.W.mg_none_of X GG z9
    · exact PySem.W.mg_none_of X GG z10
    · exact PySem.W.mg_none_of X GG z11
    · exact PySem.W.mg_none_of X GG z12
    · exact PySem.W.mg_none_of X GG z13
    · exact PySem.W.mg_none_of X GG z14
  exact ⟨_, fun s v => .of_eq rfl, fun base _ _ => ok_law (G := ⟨K, cn⟩) F0 F1 F2 F3 F4 F5 F6 F7 FL hb⟩
end K03
open PySem PySem.Spec PyProof.Rows L2 EV
local macro_rules
  | `(tactic| sizeOf_list_dec) => `(tactic| first | (simp only [ds_set, ds_len, set_app, set_app0, List.append_assoc, List.cons_append, List.nil_append, List.set_cons_zero, List.set_cons_succ, List.length_append, List.length_cons, List.length_nil, Nat.zero_add, Nat.reduceAdd, Int.reduceToNat]; first | done | rfl) | rfl)
local macro_rules
  | `(tactic| array_mem_dec) => `(tactic| first | rfl | assumption | (refine at_old ?_; assumption) | (simp only [ds_at, ds_at0, at_app, at_app0, List.append_assoc, List.cons_append, List.nil_append, List.getElem?_cons_zero, List.getElem?_cons_succ, List.length_append, List.length_cons, List.length_nil]; first | done | rfl | assumption | (refine at_old ?_; assumption)))
local macro_rules
  | `(tactic| decreasing_trivial_pre_omega) => `(tactic| first | omega | assumption | (unfold CMul; omega) | (unfold CDiv; omega) | (dsimp only; omega) | exact ⟨by decide, by decide, by decide⟩ | exact ⟨by omega, by omega, by decide⟩ | (simp only [List.length_map, List.length_append, List.length_cons, List.length_nil, List.length_range, List.length_replicate, List.length_set, sizeLine_eq]; omega))
local macro_rules
  | `(tactic| trivial) => `(tactic| first | (simp only [isNonV, Bool.false_xor, Bool.true_xor, Bool.xor_false, Bool.not_true, Bool.not_false, decide_true, decide_false, Int.reduceEq, reduceCtorEq]; first | done | rfl) | rfl)
local macro_rules
  | `(tactic| array_get_dec) => `(tactic| (first
    | ((with_reducible apply s_kT); sizeOf_list_dec) | ((with_reducible apply s_kA); sizeOf_list_dec; sizeOf_list_dec)
    | (with_reducible apply s_addI) | (with_reducible apply s_int) | ((with_reducible apply s_intC); decreasing_trivial_pre_omega) | ((with_reducible apply s_mulI); decreasing_trivial_pre_omega) | (with_reducible apply s_ord) | ((with_reducible apply s_eqI); trivial) | ((with_reducible apply s_isN); trivial) | ((with_reducible apply s_ixT); first | rfl | assumption)
    | ((with_reducible apply s_ixL); array_mem_dec; first | rfl | assumption)
    | ((with_reducible apply s_setL); array_mem_dec; rfl; sizeOf_list_dec; sizeOf_list_dec) | (with_reducible apply s_lenT) | ((with_reducible apply s_lenL); array_mem_dec) | (with_reducible apply s_intc) | ((with_reducible apply s_list); rfl) | (with_reducible apply s_tupT) | ((with_reducible apply s_tupL); array_mem_dec)
    | ((with_reducible apply s_eqS); trivial) | ((with_reducible apply s_eqB); trivial) | ((with_reducible apply s_isB); trivial) | (with_reducible apply s_max2) | (with_reducible apply s_min2) | ((with_reducible apply s_isi); rfl; rfl) | (with_reducible apply s_neg) | ((with_reducible apply s_inD); array_mem_dec; rfl; trivial) | ((with_reducible apply s_ixD); array_mem_dec; rfl; first | rfl | assumption) | ((with_reducible apply s_setD); array_mem_dec; rfl; decreasing_trivial_pre_omega; sizeOf_list_dec) | ((with_reducible apply s_mulL); array_mem_dec; decreasing_trivial_pre_omega) | ((with_reducible apply s_addL); array_mem_dec; array_mem_dec; decreasing_trivial_pre_omega)
    | ((with_reducible apply s_app); array_mem_dec; decreasing_trivial_pre_omega; sizeOf_list_dec)
    | ((with_reducible apply bI_tt); rfl) | ((with_reducible apply bI_ff); rfl)
    | refine ⟨_, rfl, ?_⟩ | refine ⟨_, _, rfl, ?_⟩ | refine ⟨_, Or.inl rfl, rfl, ?_⟩ | refine ⟨rfl, ?_⟩ | refine ⟨tyL_of (by array_mem_dec), ?_⟩ | refine ⟨by unfold sm62; omega, ?_⟩ | refine ⟨_, truB_lst (by array_mem_dec), ?_⟩ | refine ⟨⟨_, lstAt_of (by array_mem_dec)⟩, ?_⟩); try (conv => whnf))
namespace K03
structure Arc where
  t : Nat
  h : Nat
  c : Int
def cst (as : List Arc) (a b : Nat) : Option Int := (as.find? fun x => decide (x.t = a ∧ x.h = b)).map (·.c)
inductive Pth (as : List Arc) : Nat → Int → Prop
  | zero : Pth as 0 0
  | step {a : Nat} {d : Int} {x : Arc} : Pth as a d → x ∈ as → x.t = a → Pth as x.h (d + x.c)
def lex (x y : Arc) : Prop := x.t < y.t ∨ (x.t = y.t ∧ x.h < y.h)
structure NetOk (many : Nat) (as : List Arc) : Prop where
  pos : 1 ≤ many
  le : many ≤ 7
  arc : ∀ x ∈ as, x.t < x.h ∧ x.h < many ∧ 0 ≤ x.c
  ord : as.Pairwise lex
  len : as.length ≤ 60
def Best (as : List Arc) (k : Nat) (o : Option Int) : Prop := (∀ d, o = some d → Pth as k d) ∧ (∀ d, Pth as k d → ∃ e, e ≤ d ∧ o = some e)
theorem Best.uniq {as : List Arc} {k : Nat} {o o' : Option Int} (h : Best as k o) (h' : Best as k o') : o = o' := by
  cases o with
  | none =>
    cases o' with
    | none => rfl
    | some d =>
      obtain ⟨e, _, z⟩ := h.2 d (h'.1 d rfl)
      cases z
  | some d =>
    obtain ⟨e, he, z⟩ := h'.2 d (h.1 d rfl)
    subst z
    obtain ⟨f, hf, z⟩ := h.2 e (h'.1 e rfl)
    cases z
    congr 1; omega
theorem pth0 {many : Nat} {as : List Arc} (N : NetOk many as) {k : Nat} {d : Int} (p : Pth as k d) : k = 0 → d = 0 := by
  cases p with
  | zero => exact fun _ => rfl
  | step p hx ht => intro z; have := N.arc _ hx; omega
theorem pth_lt {many : Nat} {as : List Arc} (N : NetOk many as) {k : Nat} {d : Int} (p : Pth as k d) : k < many := by
  cases p with
  | zero => exact N.pos
  | step p hx ht => exact (N.arc _ hx).2.1
/-! the walk over the arcs -/
abbrev Fd := List (Option (Int × Nat))
def dist (F : Fd) (k : Nat) : Option Int := (F[k]?.bind id).map (·.1)
def relax (F : Fd) (x : Arc) : Fd := match dist F x.t with
  | none => F
  | some d => match dist F x.h with
    | none => F.set x.h (some (d + x.c, x.t))
    | some e => if d + x.c < e then F.set x.h (some (d + x.c, x.t)) else F
theorem dist_set {F : Fd} {h k : Nat} {v : Int × Nat} : dist (F.set h (some v)) k = if h = k ∧ h < F.length then some v.1 else dist F k := by
  unfold dist
  by_cases e : h = k
  · subst e
    by_cases l : h < F.length
    · rw [if_pos ⟨rfl, l⟩, List.getElem?_set_self l]; rfl
    · rw [if_neg (fun z => l z.2), List.set_eq_of_length_le (by omega)]
  · rw [if_neg (fun z => e z.1), List.getElem?_set_ne e]
theorem relax_len (F : Fd) (x : Arc) : (relax F x).length = F.length := by
  unfold relax
  split
  · rfl
  · split
    · simp
    · split <;> simp
theorem relax_mono {F : Fd} {x : Arc} {k : Nat} {e : Int} (h : dist F k = some e) : ∃ e', e' ≤ e ∧ dist (relax F x) k = some e' := by
  unfold relax
  split
  · exact ⟨e, by omega, h⟩
  · rename_i d hd
    split
    · rename_i hn
      rw [dist_set]
      by_cases q : x.h = k
      · subst q; rw [hn] at h; cases h
      · rw [if_neg (fun z => q z.1)]; exact ⟨e, by omega, h⟩
    · rename_i f hf
      split
      · rename_i lt
        rw [dist_set]
        split
        · rename_i q
          rw [← q.1, hf] at h; cases h
          exact ⟨_, by omega, rfl⟩
        · exact ⟨e, by omega, h⟩
      · exact ⟨e, by omega, h⟩
theorem relax_at {F : Fd} {x : Arc} {d : Int} (h : dist F x.t = some d) (hl : x.h < F.length) : ∃ e', e' ≤ d + x.c ∧ dist (relax F x) x.h = some e' := by
  unfold relax
  rw [h]
  dsimp only
  split
  · rw [dist_set, if_pos ⟨rfl, hl⟩]; exact ⟨_, Int.le_refl _, rfl⟩
  · rename_i f hf
    split
    · rw [dist_set, if_pos ⟨rfl, hl⟩]; exact ⟨_, Int.le_refl _, rfl⟩
    · exact ⟨f, by omega, hf⟩
theorem relax_sound {as : List Arc} {F : Fd} {x : Arc} (hx : x ∈ as) (h : ∀ k d, dist F k = some d → Pth as k d) : ∀ k d, dist (relax F x) k = some d → Pth as k d := by
  intro k d
  unfold relax
  split
  · exact h k d
  · rename_i d0 hd
    have key : dist (F.set x.h (some (d0 + x.c, x.t))) k = some d → Pth as k d := by
      rw [dist_set]
      split
      · rename_i q
        intro z; cases z
        rw [← q.1]
        exact .step (h _ _ hd) hx rfl
      · exact h k d
    split
    · exact key
    · split
      · exact key
      · exact h k d
theorem pth_snoc {pre : List Arc} {x : Arc} (hx : x.t < x.h) (hp : ∀ y ∈ pre, y.t ≤ x.t) {k : Nat} {d : Int} (p : Pth (pre ++ [x]) k d) : Pth pre k d ∨ (k = x.h ∧ ∃ d0, Pth pre x.t d0 ∧ d = d0 + x.c) := by
  induction p with
  | zero => exact .inl .zero
  | @step a d y p hy ht ih =>
    rcases List.mem_append.mp hy with hy | hy
    · rcases ih with ih | ⟨e, _⟩
      · exact .inl (.step ih hy ht)
      · have := hp y hy; omega
    · simp only [List.mem_cons, List.not_mem_nil, or_false] at hy
      subst hy
      rcases ih with ih | ⟨e, _⟩
      · exact .inr ⟨rfl, d, by rw [ht]; exact ih, rfl⟩
      · omega
def F0 (many : Nat) : Fd := (List.replicate many none).set 0 (some (0, 0))
theorem dp_ok {many : Nat} {as : List Arc} (N : NetOk many as) : ∀ (post pre : List Arc) (F : Fd), as = pre ++ post → F.length = many → (∀ k d, dist F k = some d → Pth as k d) → (∀ k d, Pth pre k d → ∃ e, e ≤ d ∧ dist F k = some e) →
    ∀ k, Best as k (dist (post.foldl relax F) k)
  | [], pre, F, e, hl, h1, h2, k => by
    rw [List.append_nil] at e; subst e
    exact ⟨h1 k, h2 k⟩
  | x :: post, pre, F, e, hl, h1, h2, k => by
    have hx : x ∈ as := by rw [e]; simp
    have hxo := N.arc x hx
    refine dp_ok N post (pre ++ [x]) (relax F x) (by rw [e]; simp) (by rw [relax_len, hl]) (relax_sound hx h1) (fun k d p => ?_) k
    have ho := N.ord
    rw [e] at ho
    have hp : ∀ y ∈ pre, y.t ≤ x.t := fun y hy => by
      have := (List.pairwise_append.mp ho).2.2 y hy x List.mem_cons_self
      unfold lex at this; omega
    rcases pth_snoc hxo.1 hp p with p1 | ⟨rfl, d0, p1, rfl⟩
    · obtain ⟨e1, l1, q1⟩ := h2 k d p1
      obtain ⟨e2, l2, q2⟩ := relax_mono (x := x) q1
      exact ⟨e2, by omega, q2⟩
    · obtain ⟨e1, l1, q1⟩ := h2 _ _ p1
      obtain ⟨e2, l2, q2⟩ := relax_at q1 (by omega)
      exact ⟨e2, by omega, q2⟩
theorem F0_dist {many : Nat} (h : 1 ≤ many) (k : Nat) : dist (F0 many) k = if k = 0 then some 0 else none := by
  unfold F0
  rw [dist_set]
  by_cases e : k = 0
  · subst e; rw [if_pos ⟨rfl, by rw [List.length_replicate]; omega⟩, if_pos rfl]
  · rw [if_neg (fun z => e z.1.symm), if_neg e]
    unfold dist
    rw [List.getElem?_replicate]
    split <;> rfl
theorem dp_best {many : Nat} {as : List Arc} (N : NetOk many as) (k : Nat) : Best as k (dist (as.foldl relax (F0 many)) k) := by
  refine dp_ok N as [] (F0 many) rfl (by simp [F0]) (fun k d h => ?_) (fun k d p => ?_) k
  · rw [F0_dist N.pos] at h
    split at h
    · rename_i e; cases h; subst e; exact .zero
    · cases h
  · have : k = 0 ∧ d = 0 := by
      cases p with
      | zero => exact ⟨rfl, rfl⟩
      | step p hx => cases hx
    obtain ⟨rfl, rfl⟩ := this
    exact ⟨0, Int.le_refl _, by rw [F0_dist N.pos, if_pos rfl]⟩
/-! the judge -/
def okArc (B : List (Option Int)) (x : Arc) : Bool := match B[x.t]?.bind id with
  | none => true
  | some b => match B[x.h]?.bind id with
    | none => false
    | some e => decide (e ≤ b + x.c)
theorem judge_low {as : List Arc} {B : List (Option Int)} (h0 : B[0]?.bind id = some 0) (ha : ∀ x ∈ as, okArc B x = true) {k : Nat} {d : Int} (p : Pth as k d) : ∃ e, e ≤ d ∧ B[k]?.bind id = some e := by
  induction p with
  | zero => exact ⟨0, Int.le_refl _, h0⟩
  | @step a d x p hx ht ih =>
    obtain ⟨e, le, q⟩ := ih
    have := ha x hx
    unfold okArc at this
    rw [ht, q] at this
    dsimp only at this
    split at this
    · cases this
    · rename_i f hf
      have := of_decide_eq_true this
      exact ⟨f, by omega, hf⟩
/-! the sums over all ways -/
def addO (a b : Option Int) : Option Int := match a, b with
  | some x, some y => some (x + y)
  | _, _ => none
def run (cs : Nat → Nat → Option Int) : Option Int → List Nat → Option Int
  | acc, a :: b :: r => run cs (addO acc (cs a b)) (b :: r)
  | acc, [_] => acc
  | acc, [] => acc
theorem run_none (cs : Nat → Nat → Option Int) : ∀ l, run cs none l = none
  | [] => rfl
  | [_] => rfl
  | a :: b :: r => by unfold run; exact run_none cs (b :: r)
theorem run_snoc (cs : Nat → Nat → Option Int) (a b : Nat) : ∀ (l : List Nat) (acc : Option Int), run cs acc (l ++ [a, b]) = addO (run cs acc (l ++ [a])) (cs a b)
  | [], acc => by simp [run]
  | [x], acc => by simp [run]
  | x :: y :: l, acc => by
    have := run_snoc cs a b (y :: l) (addO acc (cs x y))
    simpa [run] using this
theorem run_sound {as : List Arc} (hc : ∀ a b c, cst as a b = some c → ∃ x ∈ as, x.t = a ∧ x.h = b ∧ x.c = c) : ∀ (l : List Nat) (a z : Nat) (d c : Int), Pth as a d → (a :: l).getLast? = some z → run (cst as) (some d) (a :: l) = some c → Pth as z c
  | [], a, z, d, c, p, hz, h => by
    simp at hz; simp [run] at h; subst hz; subst h; exact p
  | b :: l, a, z, d, c, p, hz, h => by
    unfold run at h
    cases q : cst as a b with
    | none =>
      rw [q] at h
      have : addO (some d) none = none := rfl
      rw [this, run_none] at h; cases h
    | some w =>
      rw [q] at h
      obtain ⟨x, hx, h1, h2, h3⟩ := hc a b w q
      have p' : Pth as b (d + w) := by rw [← h2, ← h3]; exact .step p hx h1
      exact run_sound hc l b z (d + w) c p' (by simpa using hz) h
theorem cst_mem {as : List Arc} (a b : Nat) (c : Int) (h : cst as a b = some c) : ∃ x ∈ as, x.t = a ∧ x.h = b ∧ x.c = c := by
  unfold cst at h
  rw [Option.map_eq_some_iff] at h
  obtain ⟨x, hx, rfl⟩ := h
  have := List.find?_some hx
  simp only [decide_eq_true_eq] at this
  exact ⟨x, List.mem_of_find?_eq_some hx, this.1, this.2, rfl⟩
theorem cst_of : ∀ {as : List Arc}, as.Pairwise lex → ∀ x ∈ as, cst as x.t x.h = some x.c
  | [], _, x, h => by cases h
  | y :: as, ho, x, h => by
    unfold cst
    rw [List.pairwise_cons] at ho
    rcases List.mem_cons.mp h with e | h
    · subst e; simp
    · have : lex y x := ho.1 x h
      rw [List.find?_cons_of_neg (by simp only [decide_eq_true_eq]; unfold lex at this; omega)]
      exact cst_of ho.2 x h
def bits (m last : Nat) : List Nat := (List.range' 1 (last - 1)).filter fun k => m.testBit (k - 1)
def nodes (m last : Nat) : List Nat := 0 :: (bits m last ++ [last])
theorem bits_add {m a last : Nat} (h0 : 0 < a) (hm : m < 2 ^ (a - 1)) (hl : a < last) : bits (2 ^ (a - 1) + m) last = bits m a ++ [a] := by
  unfold bits
  have e : last - 1 = (a - 1) + (1 + (last - 1 - a)) := by omega
  rw [e, ← List.range'_append_1, List.filter_append, ← List.range'_append_1, List.filter_append]
  have h1 : (List.range' 1 (a - 1)).filter (fun k => (2 ^ (a - 1) + m).testBit (k - 1)) = (List.range' 1 (a - 1)).filter fun k => m.testBit (k - 1) := by
    refine List.filter_congr fun k hk => ?_
    rw [List.mem_range'_1] at hk
    exact Nat.testBit_two_pow_add_gt (by omega) m
  rw [h1]
  congr 1
  have h2 : (List.range' (1 + (a - 1)) 1).filter (fun k => (2 ^ (a - 1) + m).testBit (k - 1)) = [a] := by
    have : 1 + (a - 1) = a := by omega
    rw [this]
    have : (2 ^ (a - 1) + m).testBit (a - 1) = true := by
      rw [Nat.testBit_two_pow_add_eq, Nat.testBit_lt_two_pow hm]; rfl
    simp [List.range', this]
  rw [h2]
  have h3 : (List.range' (1 + (a - 1) + 1) (last - 1 - a)).filter (fun k => (2 ^ (a - 1) + m).testBit (k - 1)) = [] := by
    rw [List.filter_eq_nil_iff]
    intro k hk
    rw [List.mem_range'_1] at hk
    have : (2 ^ (a - 1) + m).testBit (k - 1) = false := by
      refine Nat.testBit_lt_two_pow (Nat.lt_of_lt_of_le (show 2 ^ (a - 1) + m < 2 ^ a from ?_) (Nat.pow_le_pow_right (by omega) (by omega)))
      have : 2 ^ a = 2 ^ (a - 1) + 2 ^ (a - 1) := by
        have : a = (a - 1) + 1 := by omega
        rw [this, Nat.pow_succ]; simp; omega
      omega
    simp [this]
  rw [h3]; rfl
theorem ways_all {many : Nat} {as : List Arc} (N : NetOk many as) {k : Nat} {d : Int} (p : Pth as k d) : 0 < k → ∃ m, m < 2 ^ (k - 1) ∧ run (cst as) (some 0) (nodes m k) = some d := by
  induction p with
  | zero => intro z; omega
  | @step a d x p hx ht ih =>
    intro _
    have ho := N.arc x hx
    have hc := cst_of N.ord x hx
    by_cases h0 : a = 0
    · have hd : d = 0 := pth0 N p h0
      refine ⟨0, Nat.two_pow_pos _, ?_⟩
      have hb : bits 0 x.h = [] := by
        unfold bits
        rw [List.filter_eq_nil_iff]
        intro k _; simp
      unfold nodes
      rw [hb]
      have : x.t = 0 := by omega
      rw [this] at hc
      simp [run, hc, hd, addO]
    · obtain ⟨m, hm, q⟩ := ih (by omega)
      refine ⟨2 ^ (a - 1) + m, ?_, ?_⟩
      · have h2 : 2 ^ a = 2 ^ (a - 1) + 2 ^ (a - 1) := by
          have : a = (a - 1) + 1 := by omega
          rw [this, Nat.pow_succ]; simp; omega
        have := Nat.pow_le_pow_right (show 2 > 0 by omega) (show a ≤ x.h - 1 by omega)
        omega
      · unfold nodes at q ⊢
        rw [bits_add (by omega) hm (by omega)]
        have : 0 :: (bits m a ++ [a] ++ [x.h]) = (0 :: bits m a) ++ [a, x.h] := by simp
        rw [this, run_snoc]
        have e : (0 :: bits m a) ++ [a] = 0 :: (bits m a ++ [a]) := rfl
        rw [e, q, ← ht, hc]; rfl
theorem ways_sound {many : Nat} {as : List Arc} (N : NetOk many as) {k m : Nat} {d : Int} (h : run (cst as) (some 0) (nodes m k) = some d) : Pth as k d :=
  run_sound cst_mem (bits m k ++ [k]) 0 k 0 d .zero (show ((0 :: bits m k) ++ [k]).getLast? = some k from List.getLast?_concat) h
end K03

open PySem PySem.Spec PyProof.Rows L2 EV
namespace K03
theorem s_begin {ns : List Int} {Q : VQ} {E : XQ} (h : ∀ s, Q (.ref 1) (DS s)) : fn__law_begin [.wl (ns.map .int)] [] Q E := by
  rw [e__law_begin]
  refine fd_in rfl (by dsimp only [List.map, List.replicate, List.append_eq, List.cons_append, List.nil_append, Nat.reduceSub]) ?_; (conv => whnf)
  repeat array_get_dec
  exact h ⟨ns, 0, 0, 7, 0⟩
theorem s_draw {many : Int} {s : Drw} {R : AH} {Q : VQ} {E : XQ} (hm : many < 2 ^ 30) (h : ∀ s' v, 0 ≤ v → v < max many 1 → Q (.int v) (DS s' ++ R)) : fn__law_draw [.ref 1, .int many] (DS s ++ R) Q E := by
  obtain ⟨xs, i, x, s, c⟩ := s
  rw [e__law_draw]
  show fDen _ _ _ _ (Ob.lst (xs.map Val.int) :: Ob.lst [.ref 0, .int i, .int x, .int s, .int c] :: R) _ _
  refine fd_in rfl (by dsimp only [List.map, List.replicate, List.append_eq, List.cons_append, List.nil_append, Nat.reduceSub]) ?_; (conv => whnf)
  repeat array_get_dec
  refine bI_in (fun e => ?_) (fun e => ?_)
  · (conv => whnf)
    exact h ⟨xs, i, x, s, c⟩ 0 (by omega) (by omega)
  · (conv => whnf)
    have e : ¬ many < 2 := by simpa using e
    have h' : ∀ (xs : List Int) (i : Nat) (x s c z : Int), Q (.int (z % many)) (Ob.lst (xs.map Val.int) :: Ob.lst [.ref 0, .int i, .int x, .int s, .int c] :: R) := fun xs i x s c z =>
      h ⟨xs, i, x, s, c⟩ _ (Int.emod_nonneg _ (by omega)) (by have := Int.emod_lt_of_pos z (show 0 < many by omega); omega)
    repeat array_get_dec
    refine bI_in (fun e1 => ?_) (fun e1 => ?_)
    · (conv => whnf)
      repeat array_get_dec
      refine bI_in (fun e2 => ?_) (fun e2 => ?_)
      · (conv => whnf)
        repeat array_get_dec
        have hi : i < xs.length := by simpa using e2
        refine s_ixL (xs := xs.map Val.int) (v := .int xs[i]) rfl (atI_nat' (by simp [hi])) ?_
        (conv => whnf)
        repeat array_get_dec
        refine bI_in (fun e4 => ?_) (fun e4 => ?_)
        all_goals (conv => whnf)
        all_goals (repeat array_get_dec)
        all_goals refine bI_in (fun e5 => ?_) (fun e5 => ?_)
        all_goals (conv => whnf)
        all_goals (repeat array_get_dec)
        all_goals refine bI_in (fun e6 => ?_) (fun e6 => ?_)
        all_goals (conv => whnf)
        all_goals (repeat array_get_dec)
        all_goals exact h' xs (i + 1) _ _ _ _
      · (conv => whnf)
        repeat array_get_dec
        refine bI_in (fun e3 => ?_) (fun e3 => ?_)
        · (conv => whnf)
          repeat array_get_dec
          exact h' xs i _ s c _
        · (conv => whnf)
          repeat array_get_dec
          exact h' xs i x _ _ _
    · (conv => whnf)
      repeat array_get_dec
      refine bI_in (fun e3 => ?_) (fun e3 => ?_)
      · (conv => whnf)
        repeat array_get_dec
        exact h' xs i _ s c _
      · (conv => whnf)
        repeat array_get_dec
        exact h' xs i x _ _ _

@[reducible] def arcV (x : Arc) : Val := .tup [.int x.t, .int x.h, .int x.c]
@[reducible] def netV (many : Nat) (as : List Arc) : Val := .tup [.int many, .tup (as.map arcV)]
structure AInv (many : Nat) (as : List Arc) (T H : Nat) : Prop where
  arc : ∀ x ∈ as, x.t < x.h ∧ x.h < many ∧ 0 ≤ x.c ∧ (x.t < T ∨ (x.t = T ∧ x.h < H))
  ord : as.Pairwise lex
  len : as.length ≤ many * T + H
theorem AInv.add {many : Nat} {as : List Arc} {T H : Nat} (h : AInv many as T H) {c : Int} (hc : 0 ≤ c) (h1 : T < H) (h2 : H < many) : AInv many (as ++ [⟨T, H, c⟩]) T (H + 1) := by
  refine ⟨fun x hx => ?_, ?_, ?_⟩
  · rcases List.mem_append.mp hx with hx | hx
    · have := h.arc x hx; omega
    · simp only [List.mem_cons, List.not_mem_nil, or_false] at hx; subst hx; dsimp only; omega
  · rw [List.pairwise_append]
    refine ⟨h.ord, by simp, fun x hx y hy => ?_⟩
    simp only [List.mem_cons, List.not_mem_nil, or_false] at hy; subst hy
    have := h.arc x hx; unfold lex; dsimp only; omega
  · have := h.len; simp; omega
theorem AInv.wk {many : Nat} {as : List Arc} {T H T' H' : Nat} (h : AInv many as T H) (hT : T < T' ∨ (T = T' ∧ H ≤ H')) (hl : many * T + H ≤ many * T' + H') : AInv many as T' H' :=
  ⟨fun x hx => by have := h.arc x hx; omega, h.ord, by have := h.len; omega⟩
theorem s_net {s : Drw} {R : AH} {Q : VQ} {E : XQ} (h : ∀ s' many as J, NetOk many as → Q (netV many as) (DS s' ++ (R ++ J))) : fn__law_net [.ref 1] (DS s ++ R) Q E := by
  rw [e__law_net]
  refine fd_in rfl (by dsimp only [List.map, List.replicate, List.append_eq, List.cons_append, List.nil_append, Nat.reduceSub]) ?_; (conv => whnf); (repeat array_get_dec)
  refine s_draw (by omega) (fun s1 v h0 h1 => ?_)
  (conv => whnf); (repeat array_get_dec)
  obtain ⟨m, rfl⟩ : ∃ m : Nat, v = m := ⟨v.toNat, by omega⟩
  have hm : m < 7 := by omega
  refine for_int0 (n := 1 + m) (fun i t A => ∃ s as x3 x4, AInv (1 + m) as i 0 ∧ t = [some (.ref 1), some (.int (1 + m)), some (.ref (2 + R.length)), x3, x4] ∧ A = DS s ++ (R ++ [.lst (as.map arcV)])) (by omega)
    ⟨s1, [], none, none, ⟨fun x hx => (by cases hx), .nil, Nat.zero_le _⟩, rfl, rfl⟩ (fun i t A hi hI => ?_) (fun t A hI => ?_)
  · obtain ⟨s2, as, x3, x4, hA, rfl, rfl⟩ := hI
    (conv => whnf); (repeat array_get_dec)
    refine for_ints (n := m - i) (fun j t A => ∃ s as x4, AInv (1 + m) as i (i + 1 + j) ∧ t = [some (.ref 1), some (.int (1 + m)), some (.ref (2 + R.length)), some (.int i), x4] ∧ A = DS s ++ (R ++ [.lst (as.map arcV)])) (by omega)
      ⟨s2, as, x4, hA.wk (.inr ⟨rfl, by omega⟩) (by omega), rfl, rfl⟩ (fun j t A hj hI => ?_) (fun t A hI => ?_)
    · obtain ⟨s3, as, x4, hA, rfl, rfl⟩ := hI
      (conv => whnf); (repeat array_get_dec)
      refine s_draw (by omega) (fun s4 v h0 h1 => ?_)
      (conv => whnf); (repeat array_get_dec)
      refine bI_in (fun e => ?_) (fun e => ?_)
      · (conv => whnf); (repeat array_get_dec)
        refine s_draw (by omega) (fun s5 c h0 h1 => ?_)
        (conv => whnf)
        have hl := hA.len
        have : (1 + m) * i ≤ 7 * 7 := Nat.mul_le_mul (by omega) (by omega)
        (repeat array_get_dec)
        exact ⟨s5, as ++ [⟨i, i + 1 + j, c⟩], _, hA.add h0 (by omega) (by omega), rfl, by simp [arcV]⟩
      · (conv => whnf)
        exact ⟨s4, as, _, hA.wk (.inr ⟨rfl, by omega⟩) (by omega), rfl, rfl⟩
    · obtain ⟨s3, as, x4, hA, rfl, rfl⟩ := hI
      (conv => whnf)
      exact ⟨s3, as, _, _, hA.wk (.inl (by omega)) (by rw [Nat.mul_add]; omega), rfl, rfl⟩
  · obtain ⟨s2, as, x3, x4, hA, rfl, rfl⟩ := hI
    (conv => whnf); (repeat array_get_dec)
    have := h s2 (1 + m) as [.lst (as.map arcV)] ⟨by omega, by omega, fun x hx => by have := hA.arc x hx; omega, hA.ord, by have := hA.len; have : (1 + m) * (1 + m) ≤ 7 * 7 := Nat.mul_le_mul (by omega) (by omega); omega⟩
    simpa [netV] using this
theorem atI_map {α : Type} {f : α → Val} {xs : List α} {i : Nat} {x : α} (h : xs[i]? = some x) : atI (xs.map f) (i : Int) = some (f x) := atI_nat' (by rw [List.getElem?_map, h]; rfl)
theorem ixN_nat {n i : Nat} (h : i < n) : ixN n (i : Int) = some i := by
  unfold ixN; rw [if_pos (by omega), if_pos (by omega)]; simp
def RV (o : Option Int) (v : Val) : Prop := (o = none ∧ v = .non) ∨ ∃ d w, o = some d ∧ v = .tup [.int d, w]
structure VS (many : Nat) (F : Fd) (vs : List Val) : Prop where
  len : vs.length = many
  flen : F.length = many
  at' : ∀ k, k < many → ∃ v, vs[k]? = some v ∧ RV (dist F k) v
theorem VS.set {many : Nat} {F : Fd} {vs : List Val} (h : VS many F vs) {k : Nat} {d : Int} {p : Nat} {w : Val} : VS many (F.set k (some (d, p))) (vs.set k (.tup [.int d, w])) := by
  refine ⟨by simp [h.len], by simp [h.flen], fun j hj => ?_⟩
  by_cases e : k = j
  · subst e
    exact ⟨_, List.getElem?_set_self (by rw [h.len]; exact hj), .inr ⟨d, w, by rw [dist_set, if_pos ⟨rfl, by rw [h.flen]; exact hj⟩], rfl⟩⟩
  · obtain ⟨v, e1, e2⟩ := h.at' j hj
    refine ⟨v, by rw [List.getElem?_set_ne e]; exact e1, ?_⟩
    rw [dist_set, if_neg (fun z => e z.1)]
    exact e2
theorem relax_n {F : Fd} {x : Arc} (h : dist F x.t = none) : relax F x = F := by unfold relax; rw [h]
theorem relax_u {F : Fd} {x : Arc} {d : Int} (h : dist F x.t = some d) (h2 : dist F x.h = none) : relax F x = F.set x.h (some (d + x.c, x.t)) := by unfold relax; rw [h]; dsimp only; rw [h2]
theorem relax_l {F : Fd} {x : Arc} {d f : Int} (h : dist F x.t = some d) (h2 : dist F x.h = some f) (l : d + x.c < f) : relax F x = F.set x.h (some (d + x.c, x.t)) := by unfold relax; rw [h]; dsimp only; rw [h2]; dsimp only; rw [if_pos l]
theorem relax_g {F : Fd} {x : Arc} {d f : Int} (h : dist F x.t = some d) (h2 : dist F x.h = some f) (l : ¬ d + x.c < f) : relax F x = F := by unfold relax; rw [h]; dsimp only; rw [h2]; dsimp only; rw [if_neg l]
theorem s_reached {many : Nat} {as : List Arc} (N : NetOk many as) {A : AH} {Q : VQ} {E : XQ} (h : ∀ o vs, VS many (as.foldl relax (F0 many)) vs → Q (.ref (A.length + 1)) (A ++ [o, .lst vs])) : fn_reached [netV many as] A Q E := by
  rw [e_reached]
  unfold netV
  have hp := N.pos
  have hle := N.le
  refine fd_in rfl (by dsimp only [List.map, List.replicate, List.append_eq, List.cons_append, List.nil_append, Nat.reduceSub]) ?_; (conv => whnf); (repeat array_get_dec)
  rw [Int.toNat_natCast, List.flatten_replicate_singleton]
  refine s_setL (by array_mem_dec) (j := 0) (by rw [List.length_replicate]; exact ixN_nat (i := 0) (by omega)) rfl (by sizeOf_list_dec) ?_
  (conv => whnf); (repeat array_get_dec)
  refine for_map (fun pre t A' => ∃ x4 x5 x6 x7 x8 vs, VS many (pre.foldl relax (F0 many)) vs ∧ t = [some (.tup [.int many, .tup (as.map arcV)]), some (.int many), some (.tup (as.map arcV)), some (.ref (A.length + 1)), x4, x5, x6, x7, x8] ∧ A' = A ++ [.lst [.non], .lst vs])
    ⟨none, none, none, none, none, _, ?_, rfl, rfl⟩ (fun pre x post t A' e hI => ?_) (fun t A' hI => ?_)
  · show VS many (F0 many) _
    unfold F0
    refine VS.set ⟨by simp, by simp, fun k hk => ⟨.non, by simp [hk], .inl ⟨?_, rfl⟩⟩⟩
    unfold dist; simp [List.getElem?_replicate, hk]
  · obtain ⟨x4, x5, x6, x7, x8, vs, hV, rfl, rfl⟩ := hI
    have hx := N.arc x (by rw [e]; simp)
    unfold arcV
    (conv => whnf); (repeat array_get_dec)
    obtain ⟨v, e1, r1⟩ := hV.at' x.t (by omega)
    obtain ⟨u, e2, r2⟩ := hV.at' x.h (by omega)
    have hstep : ∀ vs', VS many (relax (pre.foldl relax (F0 many)) x) vs' → VS many ((pre ++ [x]).foldl relax (F0 many)) vs' := fun vs' h => by rw [List.foldl_append]; exact h
    have i1 := atI_nat' e1
    have i2 := atI_nat' e2
    try (refine s_ixL (by array_mem_dec) i1 ?_; (conv => whnf); (repeat array_get_dec))
    rcases r1 with ⟨d1, rfl⟩ | ⟨d, w, d1, rfl⟩
    · (repeat array_get_dec)
      exact ⟨_, _, _, _, _, vs, hstep _ (by rw [relax_n d1]; exact hV), rfl, rfl⟩
    · (repeat array_get_dec)
      try (refine s_ixL (by array_mem_dec) i1 ?_; (conv => whnf); (repeat array_get_dec))
      try (refine s_ixL (by array_mem_dec) i2 ?_; (conv => whnf); (repeat array_get_dec))
      rcases r2 with ⟨d2, rfl⟩ | ⟨f, w2, d2, rfl⟩
      · (repeat array_get_dec)
        refine s_setL (by array_mem_dec) (ixN_nat (by rw [hV.len]; omega)) rfl (by sizeOf_list_dec) ?_
        (conv => whnf); (repeat array_get_dec)
        exact ⟨_, _, _, _, _, _, hstep _ (by rw [relax_u d1 d2]; exact hV.set), rfl, rfl⟩
      · (repeat array_get_dec)
        refine bI_in (fun e => ?_) (fun e => ?_)
        · (conv => whnf); (repeat array_get_dec)
          refine s_setL (by array_mem_dec) (ixN_nat (by rw [hV.len]; omega)) rfl (by sizeOf_list_dec) ?_
          (conv => whnf); (repeat array_get_dec)
          exact ⟨_, _, _, _, _, _, hstep _ (by rw [relax_l d1 d2 (of_decide_eq_true e)]; exact hV.set), rfl, rfl⟩
        · (conv => whnf); (repeat array_get_dec)
          exact ⟨_, _, _, _, _, _, hstep _ (by rw [relax_g d1 d2 (of_decide_eq_false e)]; exact hV), rfl, rfl⟩
  · obtain ⟨x4, x5, x6, x7, x8, vs, hV, rfl, rfl⟩ := hI
    (conv => whnf); (repeat array_get_dec)
    exact h _ _ hV
@[reducible] def optV : Option Int → Val
  | none => .non
  | some d => .int d
def bestL (many : Nat) (as : List Arc) : List (Option Int) := (List.range many).map fun k => dist (as.foldl relax (F0 many)) k
theorem s_bounds {many : Nat} {as : List Arc} (N : NetOk many as) {A : AH} {Q : VQ} {E : XQ} (h : ∀ J, Q (.tup ((bestL many as).map optV)) (A ++ J)) : fn_bounds_of [netV many as] A Q E := by
  rw [e_bounds_of]
  have hle := N.le
  refine fd_in rfl (by dsimp only [List.map, List.replicate, List.append_eq, List.cons_append, List.nil_append, Nat.reduceSub]) ?_; (conv => whnf); (repeat array_get_dec)
  refine s_reached N (fun o vs hV => ?_)
  (conv => whnf); (repeat array_get_dec)
  refine lc_ref (xs := vs) (f := fun v => v) (fun pre acc A' => acc = (List.range pre.length).map (fun k => optV (dist (as.foldl relax (F0 many)) k)) ∧ A' = A ++ [o, .lst vs]) ⟨rfl, rfl⟩ (fun pre acc A' hI => ?_) (fun pre x post acc A' e hI => ?_) (fun acc A' hI => ?_)
  · obtain ⟨rfl, rfl⟩ := hI
    rw [List.map_id']; array_mem_dec
  · obtain ⟨rfl, rfl⟩ := hI
    refine ⟨_, rfl, ?_⟩
    have hk : pre.length < many := by rw [← hV.len, e]; simp
    obtain ⟨v, e1, r⟩ := hV.at' _ hk
    have : x = v := by rw [e] at e1; simpa using e1
    subst this
    rcases r with ⟨d1, rfl⟩ | ⟨d, w, d1, rfl⟩
    · (conv => whnf); (repeat array_get_dec)
      refine ⟨by simp [sizeLine_eq]; omega, ?_, rfl⟩
      rw [List.length_append, List.length_singleton, List.range_succ, List.map_append, List.map_singleton, d1]; try rfl
    · (conv => whnf); (repeat array_get_dec)
      refine ⟨by simp [sizeLine_eq]; omega, ?_, rfl⟩
      rw [List.length_append, List.length_singleton, List.range_succ, List.map_append, List.map_singleton, d1]; try rfl
  · obtain ⟨rfl, rfl⟩ := hI
    (repeat array_get_dec)
    have := h [o, .lst vs, .lst ((List.range vs.length).map (fun k => optV (dist (as.foldl relax (F0 many)) k)))]
    rw [hV.len] at this ⊢
    rw [bestL, List.map_map] at this
    exact this
theorem okO (o : Option Int) (n : Nat) : okV n (optV o) = true := by cases o <;> cases n <;> rfl
theorem eqO (a b : Option Int) : EV.eqV (optV a) (optV b) = decide (a = b) := by
  cases a <;> cases b <;> simp [optV, EV.eqV, Bool.beq_eq_decide_eq]
def judge (many : Nat) (as : List Arc) (B : List (Option Int)) (T : Option Int) : Bool :=
  decide (B.length = many) && (decide (B[0]?.bind id = some 0) && (decide (B[many - 1]?.bind id = T) && as.all (okArc B)))
theorem at_bind {α : Type} {B : List (Option α)} {k : Nat} {o : Option α} (h : B[k]? = some o) : B[k]?.bind id = o := by rw [h]; rfl
theorem s_judge {many : Nat} {as : List Arc} (N : NetOk many as) (B : List (Option Int)) (T : Option Int) (hB : B.length = many) {A : AH} {Q : VQ} {E : XQ} (h : Q (.bl (judge many as B T)) A) :
    fn_judge_bounds [netV many as, optV T, .tup (B.map optV)] A Q E := by
  rw [e_judge_bounds]
  unfold netV
  have hp := N.pos
  have hle := N.le
  refine fd_in rfl (by dsimp only [List.map, List.replicate, List.append_eq, List.cons_append, List.nil_append, Nat.reduceSub]) ?_; (conv => whnf); (repeat array_get_dec)
  have hat : ∀ k, k < many → ∃ b, B[k]? = some b := fun k hk => ⟨_, List.getElem?_eq_getElem (by omega)⟩
  obtain ⟨b0, e0⟩ := hat 0 (by omega)
  obtain ⟨bm, em⟩ := hat (many - 1) (by omega)
  have hj : judge many as B T = (decide (b0 = some 0) && (decide (bm = T) && as.all (okArc B))) := by
    unfold judge; rw [at_bind e0, at_bind em, decide_eq_true hB, Bool.true_and]
  rw [hj] at h
  refine bI_ff (by simp [hB]) ?_
  (conv => whnf); (repeat array_get_dec)
  try (refine s_ixT (atI_map (i := 0) e0) ?_; (conv => whnf); (repeat array_get_dec))
  refine s_eqV (okO b0 60) (okO (some 0) 60) (show _ = !decide (b0 = some 0) by rw [show Val.int 0 = optV (some 0) from rfl, eqO, Bool.true_xor]) ?_
  (conv => whnf); (repeat array_get_dec)
  refine bI_in (fun c0 => ?_) (fun c0 => ?_)
  · have : decide (b0 = some 0) = false := by simpa using c0
    rw [this, Bool.false_and] at h
    (conv => whnf); (repeat array_get_dec); exact h
  have c0 : decide (b0 = some 0) = true := by simpa using c0
  rw [c0, Bool.true_and] at h
  (conv => whnf); (repeat array_get_dec)
  try (refine s_ixT (show atI (B.map optV) ((many : Int) - 1) = some (optV bm) by rw [show (many : Int) - 1 = ((many - 1 : Nat) : Int) by omega]; exact atI_map em) ?_; (conv => whnf); (repeat array_get_dec))
  refine s_eqV (okO bm 60) (okO T 60) (show _ = !decide (bm = T) by rw [eqO, Bool.true_xor]) ?_
  (conv => whnf); (repeat array_get_dec)
  refine bI_in (fun c1 => ?_) (fun c1 => ?_)
  · have : decide (bm = T) = false := by simpa using c1
    rw [this, Bool.false_and] at h
    (conv => whnf); (repeat array_get_dec); exact h
  have c1 : decide (bm = T) = true := by simpa using c1
  rw [c1, Bool.true_and] at h
  (conv => whnf); (repeat array_get_dec)
  refine for_map (fun pre t A' => ∃ x5 x6 x7, pre.all (okArc B) = true ∧ t = [some (.tup [.int many, .tup (as.map arcV)]), some (optV T), some (.tup (B.map optV)), some (.int many), some (.tup (as.map arcV)), x5, x6, x7] ∧ A' = A)
    ⟨none, none, none, rfl, rfl, rfl⟩ (fun pre x post t A' e hI => ?_) (fun t A' hI => ?_)
  · obtain ⟨x5, x6, x7, hp, rfl, rfl⟩ := hI
    have hx := N.arc x (by rw [e]; simp)
    obtain ⟨bt, et⟩ := hat x.t (by omega)
    obtain ⟨bh, eh⟩ := hat x.h (by omega)
    have hok : okArc B x = true → (pre ++ [x]).all (okArc B) = true := fun z => by rw [List.all_append, hp]; simp [z]
    have hno : okArc B x = false → Q (.bl false) A' := fun z => by
      have : as.all (okArc B) = false := by rw [e, List.all_append, List.all_cons, z]; simp
      rw [this] at h; exact h
    unfold okArc at hok hno
    rw [at_bind et, at_bind eh] at hok hno
    unfold arcV
    (conv => whnf); (repeat array_get_dec)
    try (refine s_ixT (atI_map et) ?_; (conv => whnf); (repeat array_get_dec))
    cases bt with
    | none =>
      (repeat array_get_dec)
      exact ⟨_, _, _, hok rfl, rfl, rfl⟩
    | some b =>
      (repeat array_get_dec)
      try (refine s_ixT (atI_map eh) ?_; (conv => whnf); (repeat array_get_dec))
      cases bh with
      | none => (repeat array_get_dec); exact hno rfl
      | some c =>
        (repeat array_get_dec)
        try (refine s_ixT (v := .int c) (atI_map eh) ?_; (conv => whnf); (repeat array_get_dec))
        try (refine s_ixT (v := .int b) (atI_map et) ?_; (conv => whnf); (repeat array_get_dec))
        refine bI_in (fun c2 => ?_) (fun c2 => ?_)
        · (conv => whnf); (repeat array_get_dec)
          have := of_decide_eq_true c2
          exact hno (decide_eq_false (by omega))
        · (conv => whnf); (repeat array_get_dec)
          have := of_decide_eq_false c2
          exact ⟨_, _, _, hok (decide_eq_true (by omega)), rfl, rfl⟩
  · obtain ⟨x5, x6, x7, hp, rfl, rfl⟩ := hI
    rw [hp] at h
    (conv => whnf); (repeat array_get_dec); exact h
end K03

open PySem PySem.Spec PyProof.Rows L2 EV
namespace K03
theorem bit_test (m i : Nat) : decide (Builtin.bitAnd ((m : Int) / 2 ^ ((1 : Int) + (i : Int) - 1).toNat) 1 = 1) = m.testBit i := by
  rw [Nat.testBit_eq_decide_div_mod_eq, bitAnd_m1]
  have : ((1 : Int) + (i : Int) - 1).toNat = i := by omega
  rw [this]
  have e : (m : Int) / 2 ^ i % 2 = ((m / 2 ^ i % 2 : Nat) : Int) := by push_cast; rfl
  rw [e]
  congr 1
  exact propext ⟨fun h => by omega, fun h => by omega⟩
theorem cst_snoc {pre : List Arc} {x : Arc} (h : ∀ y ∈ pre, lex y x) (a b : Nat) : cst (pre ++ [x]) a b = if x.t = a ∧ x.h = b then some x.c else cst pre a b := by
  unfold cst
  rw [List.find?_append]
  by_cases e : x.t = a ∧ x.h = b
  · rw [if_pos e]
    have : pre.find? (fun x => decide (x.t = a ∧ x.h = b)) = none := by
      rw [List.find?_eq_none]
      intro y hy z
      have := h y hy
      simp only [decide_eq_true_eq] at z
      unfold lex at this; omega
    rw [this]; simp [e]
  · rw [if_neg e]
    have : [x].find? (fun x => decide (x.t = a ∧ x.h = b)) = none := by simp only [List.find?_cons, decide_eq_false e, List.find?_nil]
    rw [this, Option.or_none]
structure KV (pre : List Arc) (kvs : List (List Key × Val)) : Prop where
  at' : ∀ a b : Nat, dOf kvs [.inl (a : Int), .inl (b : Int)] = (cst pre a b).map Val.int
  len : kvs.length ≤ pre.length
theorem KV.add {pre : List Arc} {kvs : List (List Key × Val)} {x : Arc} (h : KV pre kvs) (hp : ∀ y ∈ pre, lex y x) : KV (pre ++ [x]) (dPut kvs [.inl (x.t : Int), .inl (x.h : Int)] (.int x.c)) := by
  refine ⟨fun a b => ?_, ?_⟩
  · rw [dOf_put, cst_snoc hp, h.at']
    by_cases e : x.t = a ∧ x.h = b
    · rw [if_pos e, if_pos (by rw [e.1, e.2])]; rfl
    · rw [if_neg e, if_neg (fun z => e ?_)]
      simp only [List.cons.injEq, Sum.inl.injEq] at z
      omega
  · have := dPut_len kvs [.inl (x.t : Int), .inl (x.h : Int)] (.int x.c)
    have := h.len
    rw [List.length_append, List.length_singleton]; omega
def tot (as : List Arc) (last m : Nat) : List Int := (List.range m).filterMap fun i => run (cst as) (some 0) (nodes i last)
theorem tot_succ (as : List Arc) (last m : Nat) : tot as last (m + 1) = tot as last m ++ (run (cst as) (some 0) (nodes m last)).toList := by
  unfold tot
  rw [List.range_succ, List.filterMap_append]
  cases h : run (cst as) (some 0) (nodes m last) <;> simp [h]
theorem tot_len (as : List Arc) (last m : Nat) : (tot as last m).length ≤ m := by
  have := List.length_filterMap_le (fun i => run (cst as) (some 0) (nodes i last)) (List.range m)
  rw [List.length_range] at this
  exact this
theorem s_totals {many : Nat} {as : List Arc} (N : NetOk many as) {last : Nat} (hl : last < many) {A : AH} {Q : VQ} {E : XQ} (h : ∀ o T J, (∀ c, c ∈ T ↔ Pth as last c) → List.length T ≤ 64 → Q (.ref (A.length + 1)) (A ++ o :: .lst (T.map Val.int) :: J)) :
    fn__law_totals [netV many as, .int last] A Q E := by
  rw [e__law_totals]
  unfold netV
  have hle := N.le
  refine fd_in rfl (by dsimp only [List.map, List.replicate, List.append_eq, List.cons_append, List.nil_append, Nat.reduceSub]) ?_; (conv => whnf); (repeat array_get_dec)
  refine for_map (fun pre t A' => ∃ x3 x4 x5 kvs, KV pre kvs ∧ t = [some (.tup [.int many, .tup (as.map arcV)]), some (.int last), some (.ref A.length), x3, x4, x5, none, none, none, none, none] ∧ A' = A ++ [.dt kvs])
    ⟨none, none, none, [], ⟨fun a b => rfl, Nat.le_refl _⟩, rfl, rfl⟩ (fun pre x post t A' e hI => ?_) (fun t A' hI => ?_)
  · obtain ⟨x3, x4, x5, kvs, hK, rfl, rfl⟩ := hI
    have hpl : pre.length ≤ 60 := by have := N.len; rw [e] at this; simp at this; omega
    have hkl := hK.len
    have hlex : ∀ y ∈ pre, lex y x := fun y hy => by
      have := N.ord; rw [e] at this
      exact (List.pairwise_append.mp this).2.2 y hy x List.mem_cons_self
    unfold arcV
    (conv => whnf); (repeat array_get_dec)
    exact ⟨_, _, _, _, hK.add hlex, rfl, rfl⟩
  · obtain ⟨x3, x4, x5, kvs, hK, rfl, rfl⟩ := hI
    (conv => whnf); (repeat array_get_dec)
    refine bI_d (fun c0 => ?_) (fun c0 => ?_)
    · (conv => whnf); (repeat array_get_dec)
      have : last = 0 := by omega
      subst this
      refine h _ [0] [] (fun c => ?_) (by simp)
      constructor
      · intro hc; simp at hc; subst hc; exact .zero
      · intro p; simp [pth0 N p rfl]
    · have h0 : last ≠ 0 := by omega
      (conv => whnf); (repeat array_get_dec)
      have hpw : (1 : Int) * 2 ^ ((last : Int) - 1).toNat = ((2 ^ (last - 1) : Nat) : Int) := by
        have : ((last : Int) - 1).toNat = last - 1 := by omega
        rw [this, Int.one_mul]; push_cast; rfl
      have hpb : 2 ^ (last - 1) ≤ 2 ^ 6 := Nat.pow_le_pow_right (by omega) (by omega)
      rw [hpw]
      generalize hP : 2 ^ (last - 1) = P at hpb ⊢
      (repeat array_get_dec)
      refine for_int0 (n := P) (fun m t A' => ∃ x7 x8 x9 x10 J, t = [some (.tup [.int many, .tup (as.map arcV)]), some (.int last), some (.ref A.length), x3, x4, x5, some (.ref (A.length + 1)), x7, x8, x9, x10] ∧
          A' = A ++ .dt kvs :: .lst ((tot as last m).map Val.int) :: J) rfl
        ⟨none, none, none, none, [], rfl, rfl⟩ (fun m t A' hm hI => ?_) (fun t A' hI => ?_)
      · obtain ⟨x7, x8, x9, x10, J, rfl, rfl⟩ := hI
        (conv => whnf); (repeat array_get_dec)
        refine lc_ints (n := last - 1) (fun i acc A' => acc = ((List.range' 1 i).filter fun k => m.testBit (k - 1)).map (fun k : Nat => Val.int k) ∧ A' = A ++ .dt kvs :: .lst ((tot as last m).map Val.int) :: (J ++ [.lst [.int 0]])) (by omega) ⟨rfl, rfl⟩ (fun i acc A' hi hI => ?_) (fun acc A' hI => ?_)
        · obtain ⟨rfl, rfl⟩ := hI
          refine ⟨_, rfl, ?_⟩
          (conv => whnf); (repeat array_get_dec)
          rw [bit_test]
          have hr : List.range' 1 (i + 1) = List.range' 1 i ++ [1 + i] := List.range'_1_concat
          have hl1 : ((List.range' 1 i).filter fun k => m.testBit (k - 1)).length ≤ i := by
            have := List.length_filter_le (fun k => m.testBit (k - 1)) (List.range' 1 i)
            rw [List.length_range'] at this; exact this
          refine bI_in (fun c => ?_) (fun c => ?_)
          · (conv => whnf); (repeat array_get_dec)
            refine ⟨by rw [List.length_map, sizeLine_eq]; omega, ?_, rfl⟩
            rw [hr, List.filter_append, List.map_append]
            simp [c]
          · (conv => whnf)
            refine ⟨?_, rfl⟩
            rw [hr, List.filter_append, List.map_append]
            simp [c]
        · obtain ⟨rfl, rfl⟩ := hI
          have hl1 : ((List.range' 1 (last - 1)).filter fun k => m.testBit (k - 1)).length ≤ last - 1 := by
            have := List.length_filter_le (fun k => m.testBit (k - 1)) (List.range' 1 (last - 1))
            rw [List.length_range'] at this; exact this
          (repeat array_get_dec)
          have hn : Val.int 0 :: (((List.range' 1 (last - 1)).filter fun k => m.testBit (k - 1)).map (fun k : Nat => Val.int k) ++ [Val.int last]) = (nodes m last).map (fun k : Nat => Val.int k) := by simp [nodes, bits]
          have hnl : (nodes m last).length = ((List.range' 1 (last - 1)).filter fun k => m.testBit (k - 1)).length + 2 := by simp [nodes, bits]
          rw [hn]
          refine ⟨by unfold sm62; rw [List.length_map]; omega, ?_⟩
          (conv => whnf)
          have hw : (A ++ .dt kvs :: .lst ((tot as last m).map Val.int) :: (J ++ [.lst [.int 0], .lst (((List.range' 1 (last - 1)).filter fun k => m.testBit (k - 1)).map (fun k : Nat => Val.int k)), .lst (.int 0 :: ((List.range' 1 (last - 1)).filter fun k => m.testBit (k - 1)).map (fun k : Nat => Val.int k)), .lst [.int last], .lst ((nodes m last).map (fun k : Nat => Val.int k))]))[A.length + (J.length + 4 + 1 + 1)]? = some (.lst ((nodes m last).map (fun k : Nat => Val.int k))) := by array_mem_dec
          generalize (J ++ [Ob.lst [.int 0], .lst (((List.range' 1 (last - 1)).filter fun k => m.testBit (k - 1)).map (fun k : Nat => Val.int k)), .lst (.int 0 :: ((List.range' 1 (last - 1)).filter fun k => m.testBit (k - 1)).map (fun k : Nat => Val.int k)), .lst [.int last], .lst ((nodes m last).map (fun k : Nat => Val.int k))]) = J2 at hw ⊢
          generalize A.length + (J.length + 4 + 1 + 1) = w at hw ⊢
          refine for_int0 (n := (nodes m last).length - 1) (fun k t A' => ∃ x9 acc, run (cst as) acc ((nodes m last).drop k) = run (cst as) (some 0) (nodes m last) ∧ t = [some (.tup [.int many, .tup (as.map arcV)]), some (.int last), some (.ref A.length), x3, x4, x5, some (.ref (A.length + 1)), some (.int m), some (.ref w), x9, some (optV acc)] ∧
            A' = A ++ .dt kvs :: .lst ((tot as last m).map Val.int) :: J2) (by rw [List.length_map]; omega) ⟨x9, some 0, rfl, rfl, rfl⟩ (fun k t A' hk hI => ?_) (fun t A' hI => ?_)
          · obtain ⟨x9, acc, hr, rfl, rfl⟩ := hI
            have h1 : k < (nodes m last).length := by omega
            have h2 : k + 1 < (nodes m last).length := by omega
            have g1 := List.getElem?_eq_getElem h1
            have g2 := List.getElem?_eq_getElem h2
            rw [List.drop_eq_getElem_cons h1, List.drop_eq_getElem_cons h2] at hr
            generalize (nodes m last)[k] = a at g1 hr
            generalize (nodes m last)[k + 1] = b at g2 hr
            have i1 : atI ((nodes m last).map (fun k : Nat => Val.int k)) (k : Int) = some (.int a) := atI_map g1
            have i2 : atI ((nodes m last).map (fun k : Nat => Val.int k)) ((k : Int) + 1) = some (.int b) := by
              have : (k : Int) + 1 = ((k + 1 : Nat) : Int) := by omega
              rw [this]; exact atI_map g2
            have hd := hK.at' a b
            have hr' : run (cst as) (addO acc (cst as a b)) ((nodes m last).drop (k + 1)) = run (cst as) (some 0) (nodes m last) := by
              rw [List.drop_eq_getElem_cons h2]
              have : (nodes m last)[k + 1] = b := by rw [List.getElem?_eq_getElem h2] at g2; exact Option.some.inj g2
              rw [this, ← hr]; rfl
            cases acc with
            | none =>
              dsimp only [optV]
              (conv => whnf); (repeat array_get_dec)
              exact ⟨_, none, hr', rfl, rfl⟩
            | some d =>
              dsimp only [optV]
              (conv => whnf); (repeat array_get_dec)
              rw [hd]
              cases hc : cst as a b with
              | none =>
                rw [hc] at hr'
                (repeat array_get_dec)
                exact ⟨_, none, hr', rfl, rfl⟩
              | some c =>
                rw [hc] at hd hr'
                (repeat array_get_dec)
                exact ⟨_, some (d + c), hr', rfl, rfl⟩
          · obtain ⟨x9, acc, hr, rfl, rfl⟩ := hI
            have hT := tot_len as last m
            have hrl : run (cst as) acc ((nodes m last).drop ((nodes m last).length - 1)) = acc := by
              have : (nodes m last).drop ((nodes m last).length - 1) = [last] := by
                have : nodes m last = (0 :: bits m last) ++ [last] := rfl
                rw [this, List.length_append, List.length_singleton, Nat.add_sub_cancel, List.drop_left]
              rw [this]; cases acc <;> rfl
            rw [hrl] at hr
            have hts := tot_succ as last m
            rw [← hr] at hts
            cases acc with
            | none =>
              dsimp only [optV]
              (conv => whnf); (repeat array_get_dec)
              exact ⟨_, _, _, _, J2, rfl, by rw [hts]; simp⟩
            | some d =>
              dsimp only [optV]
              (conv => whnf); (repeat array_get_dec)
              exact ⟨_, _, _, _, J2, rfl, by rw [hts]; simp⟩
      · obtain ⟨x7, x8, x9, x10, J, rfl, rfl⟩ := hI
        (conv => whnf); (repeat array_get_dec)
        refine h _ _ J (fun c => ?_) ?_
        · unfold tot
          rw [List.mem_filterMap]
          constructor
          · rintro ⟨m, _, hr⟩; exact ways_sound N hr
          · intro p
            obtain ⟨m, hm, hr⟩ := ways_all N p (by omega)
            exact ⟨m, List.mem_range.mpr (hP ▸ hm), hr⟩
        · have := tot_len as last P
          omega
end K03

open PySem PySem.Spec PyProof.Rows L2 EV
namespace K03
theorem s_exactN : ∀ (n : Nat) (v : Val), exV n v = true → n < 60 → ∀ (A : AH) (Q : VQ) (E : XQ), Q (.bl true) A → fn__law_exactN (n + 1) [v, v] A Q E := by
  intro n
  induction n with
  | zero =>
    intro v hv _ A Q E h
    rw [e__law_exact]
    cases v with
    | non => refine fd_in rfl (by dsimp only [List.map, List.replicate, List.append_eq, List.cons_append, List.nil_append, Nat.reduceSub]) ?_; (conv => whnf); (repeat array_get_dec); exact h
    | bl b => refine fd_in rfl (by dsimp only [List.map, List.replicate, List.append_eq, List.cons_append, List.nil_append, Nat.reduceSub]) ?_; (conv => whnf); (repeat array_get_dec); exact h
    | int b => refine fd_in rfl (by dsimp only [List.map, List.replicate, List.append_eq, List.cons_append, List.nil_append, Nat.reduceSub]) ?_; (conv => whnf); (repeat array_get_dec); exact h
    | str b => refine fd_in rfl (by dsimp only [List.map, List.replicate, List.append_eq, List.cons_append, List.nil_append, Nat.reduceSub]) ?_; (conv => whnf); (repeat array_get_dec); exact h
    | _ => simp [exV] at hv
  | succ n ih =>
    intro v hv hn A Q E h
    rw [e__law_exact]
    cases v with
    | non => refine fd_in rfl (by dsimp only [List.map, List.replicate, List.append_eq, List.cons_append, List.nil_append, Nat.reduceSub]) ?_; (conv => whnf); (repeat array_get_dec); exact h
    | bl b => refine fd_in rfl (by dsimp only [List.map, List.replicate, List.append_eq, List.cons_append, List.nil_append, Nat.reduceSub]) ?_; (conv => whnf); (repeat array_get_dec); exact h
    | int b => refine fd_in rfl (by dsimp only [List.map, List.replicate, List.append_eq, List.cons_append, List.nil_append, Nat.reduceSub]) ?_; (conv => whnf); (repeat array_get_dec); exact h
    | str b => refine fd_in rfl (by dsimp only [List.map, List.replicate, List.append_eq, List.cons_append, List.nil_append, Nat.reduceSub]) ?_; (conv => whnf); (repeat array_get_dec); exact h
    | tup xs =>
      refine fd_in rfl (by dsimp only [List.map, List.replicate, List.append_eq, List.cons_append, List.nil_append, Nat.reduceSub]) ?_; (conv => whnf); (repeat array_get_dec)
      have hv' : xs.length < 1000000000 ∧ exVs n xs = true := by simpa [exV] using hv
      refine ⟨by unfold sm62; omega, ?_⟩; (conv => whnf)
      refine for_ints (fun i t A' => ∃ x, t = [some (.tup xs), some (.tup xs), x] ∧ A' = A) rfl ⟨_, rfl, rfl⟩ (fun i t A' hi hI => ?_) (fun t A' hI => ?_)
      · obtain ⟨x, rfl, rfl⟩ := hI
        (conv => whnf); (repeat array_get_dec)
        have hx : xs[i]? = some xs[i] := List.getElem?_eq_getElem hi
        refine s_ixT (by rw [Int.zero_add]; exact atI_nat' hx) ?_
        (conv => whnf); (repeat array_get_dec)
        refine s_ixT (by rw [Int.zero_add]; exact atI_nat' hx) ?_
        (conv => whnf)
        refine ih _ (exVs_at hv'.2 hx) (by omega) _ _ _ ?_
        (conv => whnf); (repeat array_get_dec)
      · obtain ⟨x, rfl, rfl⟩ := hI
        (conv => whnf); (repeat array_get_dec); exact h
    | _ => simp [exV] at hv
theorem s_exact {v : Val} (hv : exV 11 v = true) {A : AH} {Q : VQ} {E : XQ} (h : Q (.bl true) A) : fn__law_exact [v, v] A Q E := by
  unfold fn__law_exact
  exact s_exactN 11 v hv (by omega) A Q E h

theorem bestL_len (many : Nat) (as : List Arc) : (bestL many as).length = many := by simp [bestL]
theorem bestL_succ (i : Nat) (as : List Arc) (many : Nat) : (List.range (i + 1)).map (fun k => dist (as.foldl relax (F0 many)) k) = (List.range i).map (fun k => dist (as.foldl relax (F0 many)) k) ++ [dist (as.foldl relax (F0 many)) i] := by
  rw [List.range_succ, List.map_append, List.map_singleton]
theorem bestL_at {many : Nat} (as : List Arc) {k : Nat} (h : k < many) : (bestL many as)[k]? = some (dist (as.foldl relax (F0 many)) k) := by
  unfold bestL
  rw [List.getElem?_map, List.getElem?_range h]; rfl
theorem judge_best {many : Nat} {as : List Arc} (N : NetOk many as) : judge many as (bestL many as) (dist (as.foldl relax (F0 many)) (many - 1)) = true := by
  have hp := N.pos
  unfold judge
  rw [at_bind (bestL_at as (by omega)), at_bind (bestL_at as (by omega)), decide_eq_true (bestL_len many as), decide_eq_true rfl]
  have b0 : Best as 0 (some 0) := ⟨fun d h => by cases h; exact .zero, fun d p => ⟨0, by have := pth0 N p rfl; omega, rfl⟩⟩
  rw [decide_eq_true ((dp_best N 0).uniq b0)]
  simp only [Bool.true_and, List.all_eq_true]
  intro x hx
  have hxo := N.arc x hx
  unfold okArc
  rw [at_bind (bestL_at as (by omega)), at_bind (bestL_at as (by omega))]
  cases q : dist (as.foldl relax (F0 many)) x.t with
  | none => rfl
  | some b =>
    have p := (dp_best N x.t).1 b q
    obtain ⟨e, he, q2⟩ := (dp_best N x.h).2 _ (.step p hx rfl)
    rw [q2]
    exact decide_eq_true he
theorem judge_end {many : Nat} {as : List Arc} {B : List (Option Int)} {T : Option Int} (h : judge many as B T = true) {d : Int} (p : Pth as (many - 1) d) : ∃ e, e ≤ d ∧ T = some e := by
  unfold judge at h
  simp only [Bool.and_eq_true, decide_eq_true_eq, List.all_eq_true] at h
  obtain ⟨_, h0, hT, ha⟩ := h
  obtain ⟨e, he, q⟩ := judge_low h0 ha p
  exact ⟨e, he, by rw [← hT, q]⟩
theorem exO (o : Option Int) (n : Nat) : exV n (optV o) = true := by cases o <;> cases n <;> rfl
theorem s_totals' {many : Nat} {as : List Arc} (N : NetOk many as) {last : Nat} (hl : last < many) {A : AH} {Q : VQ} {E : XQ} (h : ∀ (w : Nat) (T : List Int) (J' : AH), (A ++ J')[w]? = some (.lst (T.map Val.int)) → A.length ≤ w → (∀ c, c ∈ T ↔ Pth as last c) → Q (.ref w) (A ++ J')) :
    fn__law_totals [netV many as, .int last] A Q E :=
  s_totals N hl fun o T J' hT _ => h _ T _ (by rw [at_app (k := 1)]; rfl) (by omega) hT
theorem best_of {many : Nat} {as : List Arc} (N : NetOk many as) {k : Nat} {T : List Int} (hT : ∀ c, c ∈ T ↔ Pth as k c) : (T = [] → dist (as.foldl relax (F0 many)) k = none) ∧ ∀ m, m ∈ T → (∀ y, y ∈ T → m ≤ y) → dist (as.foldl relax (F0 many)) k = some m := by
  refine ⟨fun e => (dp_best N k).uniq ⟨fun d h => (by cases h), fun d p => ?_⟩, fun m hm hy => (dp_best N k).uniq ⟨fun d h => ?_, fun d p => ⟨m, hy d ((hT d).mpr p), rfl⟩⟩⟩
  · have := (hT d).mpr p; rw [e] at this; cases this
  · cases h; exact (hT m).mp hm
theorem plain : Plain fn_law 63 := by
  intro ns hns
  rw [e_law]
  refine fd_in rfl (by dsimp only [List.map, List.replicate, List.append_eq, List.cons_append, List.nil_append, Nat.reduceSub]) ?_; (conv => whnf); (repeat array_get_dec)
  refine s_begin (fun s => ?_)
  (conv => whnf); (repeat array_get_dec)
  show fn__law_net [.ref 1] (DS s ++ []) _ _
  refine s_net (fun s many as J N => ?_)
  have hp := N.pos
  have hle := N.le
  rw [List.nil_append]
  (conv => whnf); (repeat array_get_dec)
  unfold netV
  (repeat array_get_dec)
  refine for_int0 (n := many) (fun i t A => ∃ x4 x5 J2, t = [some (.wl (ns.map Val.int)), some (.ref 1), some (netV many as), some (.ref (2 + J.length)), x4, x5, none, none, none, none] ∧
      A = DS s ++ (J ++ .lst (((List.range i).map (fun k => dist (as.foldl relax (F0 many)) k)).map optV) :: J2)) rfl ⟨none, none, [], rfl, rfl⟩ (fun i t A hi hI => ?_) (fun t A hI => ?_)
  · obtain ⟨x4, x5, J2, rfl, rfl⟩ := hI
    (conv => whnf); (repeat array_get_dec)
    refine s_totals' N hi (fun w T J' hw hlw hT => ?_)
    obtain ⟨b1, b2⟩ := best_of N hT
    simp only [List.append_assoc, List.cons_append] at hw ⊢
    (conv => whnf); (repeat array_get_dec)
    have hfin : ∀ o J2, o = dist (as.foldl relax (F0 many)) i → (DS s ++ (J ++ .lst (((List.range i).map (fun k => dist (as.foldl relax (F0 many)) k)).map optV ++ [optV o]) :: J2)) = DS s ++ (J ++ .lst (((List.range (i + 1)).map (fun k => dist (as.foldl relax (F0 many)) k)).map optV) :: J2) := fun o J2 e => by
      rw [bestL_succ, List.map_append, List.map_singleton, e]
    cases T with
    | nil =>
      (repeat array_get_dec)
      exact ⟨_, _, _, rfl, hfin none _ (b1 rfl).symm⟩
    | cons a T =>
      (repeat array_get_dec)
      refine s_minL hw (by simp) (fun m hm hy => ?_)
      (conv => whnf); (repeat array_get_dec)
      exact ⟨_, _, _, rfl, hfin (some m) _ (b2 m hm hy).symm⟩
  · obtain ⟨x4, x5, J2, rfl, rfl⟩ := hI
    change _
    rw [show (List.range many).map (fun k => dist (as.foldl relax (F0 many)) k) = bestL many as from rfl]
    (conv => whnf); (repeat array_get_dec)
    refine s_bounds N (fun J3 => ?_)
    simp only [List.append_assoc, List.cons_append]
    (conv => whnf); (repeat array_get_dec)
    have hex : exV 11 (.tup ((bestL many as).map optV)) = true := exV_tup (exVs_map fun o _ => exO o 10) (by rw [List.length_map, bestL_len]; omega)
    refine s_exact hex ?_
    (conv => whnf); (repeat array_get_dec)
    refine s_ixL (by array_mem_dec) (show atI ((bestL many as).map optV) ((many : Int) - 1) = some (optV (dist (as.foldl relax (F0 many)) (many - 1))) by rw [show (many : Int) - 1 = ((many - 1 : Nat) : Int) by omega]; exact atI_map (bestL_at as (by omega))) ?_
    (conv => whnf); (repeat array_get_dec)
    refine s_bounds N (fun J4 => ?_)
    simp only [List.append_assoc, List.cons_append]
    (conv => whnf); (repeat array_get_dec)
    refine s_judge N _ _ (bestL_len many as) ?_
    rw [judge_best N]
    (conv => whnf); (repeat array_get_dec)
    rw [show (many : Int) - 1 = ((many - 1 : Nat) : Int) by omega]
    refine s_totals' N (by omega) (fun w T J5 hw hlw hT => ?_)
    rw [List.length_append, ds_len] at hlw
    obtain ⟨w', rfl⟩ : ∃ w', w = 2 + w' := ⟨w - 2, by omega⟩
    simp only [List.append_assoc, List.cons_append] at hw ⊢
    have hd : (J ++ Ob.lst ((bestL many as).map optV) :: (J2 ++ (J3 ++ (J4 ++ J5))))[J.length]? = some (.lst ((bestL many as).map optV)) := by rw [at_app0]; rfl
    rw [ds_at] at hw
    generalize J ++ Ob.lst ((bestL many as).map optV) :: (J2 ++ (J3 ++ (J4 ++ J5))) = K at hw hd ⊢
    generalize J.length = j0 at hd ⊢
    (conv => whnf); (repeat array_get_dec)
    refine for_int0 (n := 6) (fun i t A => ∃ s x4 x6 x7 x8 x9 K', K'[j0]? = some (.lst ((bestL many as).map optV)) ∧ K'[w']? = some (.lst (T.map Val.int)) ∧
      t = [some (.wl (ns.map Val.int)), some (.ref 1), some (netV many as), some (.ref (2 + j0)), x4, some (.ref (2 + w')), x6, x7, x8, x9] ∧ A = DS s ++ K') rfl
      ⟨s, x4, none, none, none, none, K, hd, hw, rfl, rfl⟩ (fun i t A hi hI => ?_) (fun t A hI => ?_)
    · obtain ⟨s1, x4, x6, x7, x8, x9, K2, hd', hw', rfl, rfl⟩ := hI
      clear hd hw
      (conv => whnf); (repeat array_get_dec)
      refine for_int0 (n := many) (fun k t A => ∃ s x4 x8 B, List.length B = k ∧ t = [some (.wl (ns.map Val.int)), some (.ref 1), some (netV many as), some (.ref (2 + j0)), x4, some (.ref (2 + w')), some (.int i), some (.ref (2 + K2.length)), x8, x9] ∧
        A = DS s ++ (K2 ++ [.lst (B.map optV)])) rfl ⟨s1, x4, x8, [], rfl, rfl, rfl⟩ (fun k t A hk hI => ?_) (fun t A hI => ?_)
      · obtain ⟨s2, x4, x8, B, hB, rfl, rfl⟩ := hI
        have hi2 : atI ((bestL many as).map optV) (k : Int) = some (optV (dist (as.foldl relax (F0 many)) k)) := atI_map (bestL_at as hk)
        generalize dist (as.foldl relax (F0 many)) k = o at hi2
        have key : ∀ (s3 : Drw) (o : Option Int), ∃ s x4 x8 B', List.length B' = k + 1 ∧ [some (Val.wl (ns.map Val.int)), some (.ref 1), some (netV many as), some (.ref (2 + j0)), some (.int k), some (.ref (2 + w')), some (.int i), some (.ref (2 + K2.length)), some (optV o), x9] =
            [some (.wl (ns.map Val.int)), some (.ref 1), some (netV many as), some (.ref (2 + j0)), x4, some (.ref (2 + w')), some (.int i), some (.ref (2 + K2.length)), x8, x9] ∧
            DS s3 ++ (K2 ++ [.lst (B.map optV ++ [optV o])]) = DS s ++ (K2 ++ [.lst (B'.map optV)]) := fun s3 o => ⟨s3, _, _, B ++ [o], by simp [hB], rfl, by simp⟩
        cases o with
        | none =>
          (conv => whnf); (repeat array_get_dec)
          refine s_draw (by omega) (fun s3 v h0 h1 => ?_)
          (conv => whnf); (repeat array_get_dec)
          refine bI_d (fun e => ?_) (fun e => ?_)
          · (conv => whnf); (repeat array_get_dec)
            exact key s3 none
          · (conv => whnf); (repeat array_get_dec)
            exact key s3 none
        | some d =>
          (conv => whnf); (repeat array_get_dec)
          refine bI_d (fun e0 => ?_) (fun e0 => ?_)
          · (conv => whnf); (repeat array_get_dec)
            refine s_draw (by omega) (fun s4 u h0 h1 => ?_)
            (conv => whnf); (repeat array_get_dec)
            refine s_draw (by omega) (fun s3 v h0 h1 => ?_)
            (conv => whnf); (repeat array_get_dec)
            refine bI_d (fun e => ?_) (fun e => ?_)
            · (conv => whnf); (repeat array_get_dec)
              exact key s3 none
            · (conv => whnf); (repeat array_get_dec)
              exact key s3 (some (d - u))
          · (conv => whnf); (repeat array_get_dec)
            refine s_draw (by omega) (fun s3 v h0 h1 => ?_)
            (conv => whnf); (repeat array_get_dec)
            refine bI_d (fun e => ?_) (fun e => ?_)
            · (conv => whnf); (repeat array_get_dec)
              exact key s3 none
            · (conv => whnf); (repeat array_get_dec)
              exact key s3 (some d)
      · obtain ⟨s2, x4, x8, B, hB, rfl, rfl⟩ := hI
        obtain ⟨b, hb⟩ : ∃ b, B[many - 1]? = some b := ⟨_, List.getElem?_eq_getElem (by omega)⟩
        have hbi : atI (B.map optV) ((many : Int) - 1) = some (optV b) := by rw [show (many : Int) - 1 = ((many - 1 : Nat) : Int) by omega]; exact atI_map hb
        (conv => whnf); (repeat array_get_dec)
        refine s_judge N B b hB ?_
        (conv => whnf); (repeat array_get_dec)
        refine bI_in (fun hj => ?_) (fun hj => ?_)
        · have hend := fun d => judge_end (d := d) hj
          (conv => whnf)
          cases b with
          | none =>
            have hT0 : T = [] := by
              cases T with
              | nil => rfl
              | cons c T =>
                obtain ⟨e, _, z⟩ := hend c ((hT c).mp List.mem_cons_self)
                cases z
            subst hT0
            (repeat array_get_dec)
            exact ⟨_, _, _, _, _, _, _, at_old hd', at_old hw', rfl, rfl⟩
          | some d =>
            (repeat array_get_dec)
            cases T with
            | nil =>
              (repeat array_get_dec)
              exact ⟨_, _, _, _, _, _, _, at_old hd', at_old hw', rfl, rfl⟩
            | cons c T =>
              (repeat array_get_dec)
              refine s_minL (by array_mem_dec) (by simp) (fun m hm hy => ?_)
              (conv => whnf); (repeat array_get_dec)
              obtain ⟨e, he, z⟩ := hend m ((hT m).mp hm)
              cases z
              refine bI_d (fun e0 => ?_) (fun e0 => ?_)
              · exfalso; omega
              · (conv => whnf); (repeat array_get_dec)
                exact ⟨_, _, _, _, _, _, _, at_old hd', at_old hw', rfl, rfl⟩
        · (conv => whnf); (repeat array_get_dec)
          exact ⟨_, _, _, _, _, _, _, at_old hd', at_old hw', rfl, rfl⟩
    · obtain ⟨s1, x4, x6, x7, x8, x9, K', hd', hw', rfl, rfl⟩ := hI
      (conv => whnf); (repeat array_get_dec)
end K03

open PySem PySem.W PyProof.Rows
set_option maxHeartbeats 0 in
theorem PySem.Challenge.cw_veiledcircles_k03_whole_bounds_shut_out_holds : PySem.Challenge.rw_veiledcircles_k03_whole_bounds_shut_out.Holds := by
  w_on; o_law; k_head; (case hw => w_witness2)
  k_fill
  refine EV.walk_ev (l := PySem.Challenge.rw_veiledcircles_k03_whole_bounds_shut_out) (n := 63) (k := 13) (cn := fun _ _ _ => False) (f := K03.fn_law) rfl (by decide) rfl ⟨rfl, by decide, by decide⟩ (fun w h Y => PySem.W.kIn_of Y) ?F K03.plain
  case F =>
    intro w mg fa h KX G hmg
    refine' K03.all_mk KX G hmg ?a0 ?l0 ?c0 ?k0 ?a1 ?l1 ?c1 ?k1 ?a2 ?l2 ?c2 ?k2 ?a3 ?l3 ?c3 ?k3 ?a4 ?l4 ?c4 ?k4 ?a5 ?l5 ?c5 ?k5 ?a6 ?l6 ?c6 ?k6 ?a7 ?l7 ?c7 ?k7 ?aL ?lL ?cL ?kL ?z0 ?z1 ?z2 ?z3 ?z4 ?z5 ?z6 ?z7 ?z8 ?z9 ?z10 ?z11 ?z12 ?z13 ?z14
    (case a0 => k_is); (case l0 => k_is); (case c0 => k_is); (case k0 => k_is); (case a1 => k_is); (case l1 => k_is); (case c1 => k_is); (case k1 => k_is); (case a2 => k_is); (case l2 => k_is); (case c2 => k_is); (case k2 => k_is); (case a3 => k_is); (case l3 => k_is); (case c3 => k_is); (case k3 => k_is); (case a4 => k_is); (case l4 => k_is); (case c4 => k_is); (case k4 => k_is); (case a5 => k_is); (case l5 => k_is); (case c5 => k_is); (case k5 => k_is); (case a6 => k_is); (case l6 => k_is); (case c6 => k_is); (case k6 => k_is); (case a7 => k_is); (case l7 => k_is); (case c7 => k_is); (case k7 => k_is); (case aL => k_is); (case lL => k_is); (case cL => k_is); (case kL => k_is); (case z0 => k_is); (case z1 => k_is); (case z2 => k_is); (case z3 => k_is); (case z4 => k_is); (case z5 => k_is); (case z6 => k_is); (case z7 => k_is); (case z8 => k_is); (case z9 => k_is); (case z10 => k_is); (case z11 => k_is); (case z12 => k_is); (case z13 => k_is); (case z14 => k_is)
