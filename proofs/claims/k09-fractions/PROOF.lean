import PyProof.Rows.All
import Wide.All
import OpenK.AllK
import Wide.FinOn
import HandS.ForMost
import HandS.Wide
import HandS.IsInst
import HandS.Evl
import HandS.Deep
import PySem.Challenge.RW_herdline_k09_fractions
set_option Elab.async false
set_option linter.all false
set_option maxRecDepth 100000
set_option maxHeartbeats 4000000
namespace PF
open PySem L2
open Evl (Ex)

mutual
def flat : PyData → Bool
  | .none | .bool _ | .int _ | .str _ => true
  | .tuple ds => flats ds
  | .list _ | .dict _ => false
def flats : List PyData → Bool
  | [] => true
  | d :: ds => flat d && flats ds
end
theorem flats_mem : ∀ {ds : List PyData}, flats ds = true → ∀ d ∈ ds, flat d = true
  | [], _, _, h => by cases h
  | x :: xs, h, d, hd => by
    rw [flats, Bool.and_eq_true] at h
    cases hd with
    | head => exact h.1
    | tail _ q => exact flats_mem h.2 d q
theorem flats_of : ∀ {ds : List PyData}, (∀ d ∈ ds, flat d = true) → flats ds = true
  | [], _ => rfl
  | x :: xs, h => by
    rw [flats, Bool.and_eq_true]
    exact ⟨h x (List.mem_cons_self ..), flats_of fun d hd => h d (List.mem_cons_of_mem _ hd)⟩

/-- tuples stay -/
def Kt (H H' : Hp) : Prop := ∀ a xs, Rd H a (.tup xs) → Rd H' a (.tup xs)
theorem Kt.of_ex {H H' : Hp} (e : Ex H H') : Kt H H' := fun _ _ h => Evl.ex_rd e h
theorem Kt.sq {K : PySem.W.Frag} {H H' : Hp} {a : Addr} {xs : List V} (k : Kt H H') (h : SqT K H a xs) : SqT K H' a xs := by
  rcases h with h | h
  · exact .inl (k _ _ h)
  · exact .inr h
/-- a tracked list, dict or instance is changed -/
theorem Kt.upd {H : Hp} {p : Addr} {o u : HO} (h : H p = some o) (hm : Mut (some o)) : Kt H (upd H p u) := fun a xs r => by
  have ne : a ≠ p := by
    rintro rfl
    rcases r with r | ⟨o', r⟩
    · rw [h] at r
      cases r
      exact hm
    · rw [h] at r
      cases r
      exact hm
  rcases r with r | ⟨o', r⟩
  · exact .inl (by rw [upd_ne ne]; exact r)
  · exact .inr ⟨o', by rw [upd_ne ne]; exact r⟩
variable {K : PySem.W.Frag}
mutual
theorem dp_kt {H H' : Hp} (k : Kt H H') : ∀ (d : PyData) (v : V), flat d = true → Dp K H v d → Dp K H' v d
  | .none, _, _, h => by cases h; exact .non
  | .bool b, _, _, h => by cases h; exact .bl b
  | .int i, _, _, h => by cases h; exact .int i
  | .str x, _, _, h => by cases h; exact .str x
  | .tuple ds, _, f, h => by
    cases h with
    | tup hs ha => exact .tup (k.sq hs) (dp_kts k ds _ (by simpa [flat] using f) ha)
  | .list _, _, f, _ => by simp [flat] at f
  | .dict _, _, f, _ => by simp [flat] at f
theorem dp_kts {H H' : Hp} (k : Kt H H') : ∀ (ds : List PyData) (vs : List V), flats ds = true → DpAll K H vs ds → DpAll K H' vs ds
  | [], _, _, h => by cases h; exact .nil
  | d :: ds, _, f, h => by
    rw [flats, Bool.and_eq_true] at f
    cases h with
    | cons h1 h2 => exact .cons (dp_kt k d _ f.1 h1) (dp_kts k ds _ f.2 h2)
end
mutual
theorem dp_ex {H H' : Hp} (k : Ex H H') : ∀ (d : PyData) (v : V), Dp K H v d → Dp K H' v d
  | .none, _, h => by cases h; exact .non
  | .bool b, _, h => by cases h; exact .bl b
  | .int i, _, h => by cases h; exact .int i
  | .str x, _, h => by cases h; exact .str x
  | .tuple ds, _, h => by
    cases h with
    | tup hs ha => exact .tup (Evl.ex_t k hs) (dp_exs k ds _ ha)
  | .list ds, _, h => by
    cases h with
    | lst hs ha => exact .lst (Evl.ex_l k hs) (dp_exs k ds _ ha)
  | .dict _, _, h => by cases h
theorem dp_exs {H H' : Hp} (k : Ex H H') : ∀ (ds : List PyData) (vs : List V), DpAll K H vs ds → DpAll K H' vs ds
  | [], _, h => by cases h; exact .nil
  | d :: ds, _, h => by
    cases h with
    | cons h1 h2 => exact .cons (dp_ex k d _ h1) (dp_exs k ds _ h2)
end
theorem DpAll.length {H : Hp} : ∀ {vs : List V} {ds : List PyData}, DpAll K H vs ds → vs.length = ds.length
  | [], [], _ => rfl
  | _ :: vs, _ :: ds, h => by
    cases h with
    | cons _ h2 => simp [DpAll.length h2]
theorem DpAll.at {H : Hp} : ∀ {vs : List V} {ds : List PyData} {i : Nat} {d : PyData}, DpAll K H vs ds → ds[i]? = some d → ∃ v, vs[i]? = some v ∧ Dp K H v d
  | [], [], _, _, _, e => by simp at e
  | v :: vs, d :: ds, 0, x, h, e => by
    cases h with
    | cons h1 _ =>
      simp at e; subst e
      exact ⟨v, rfl, h1⟩
  | v :: vs, d :: ds, i + 1, x, h, e => by
    cases h with
    | cons _ h2 =>
      obtain ⟨w, q, r⟩ := DpAll.at (i := i) (d := x) h2 (by simpa using e)
      exact ⟨w, by simpa using q, r⟩
theorem DpAll.app {H : Hp} : ∀ {vs ws : List V} {ds es : List PyData}, DpAll K H vs ds → DpAll K H ws es → DpAll K H (vs ++ ws) (ds ++ es)
  | [], _, [], _, _, h => h
  | _ :: vs, _, _ :: ds, _, h, g => by
    cases h with
    | cons h1 h2 => exact .cons h1 (DpAll.app h2 g)

/-- an element of a list of our own: flat, or in the base -/
def El (K : PySem.W.Frag) (H0 H : Hp) (v : V) (d : PyData) : Prop := (flat d = true ∧ Dp K H v d) ∨ Dp K H0 v d
abbrev Els (K : PySem.W.Frag) (H0 H : Hp) : List V → List PyData → Prop := Paired (El K H0 H)
theorem El.dp {H0 H : Hp} {v : V} {d : PyData} (e : Ex H0 H) (h : El K H0 H v d) : Dp K H v d := by
  rcases h with h | h
  · exact h.2
  · exact dp_ex e _ _ h
theorem Els.dp {H0 H : Hp} (e : Ex H0 H) : ∀ {vs : List V} {ds : List PyData}, Els K H0 H vs ds → DpAll K H vs ds
  | _, _, .nil => .nil
  | _, _, .cons h t => .cons (El.dp e h) (Els.dp e t)
theorem El.kt {H0 H H' : Hp} {v : V} {d : PyData} (k : Kt H H') (h : El K H0 H v d) : El K H0 H' v d := by
  rcases h with h | h
  · exact .inl ⟨h.1, dp_kt k _ _ h.1 h.2⟩
  · exact .inr h
theorem Els.kt {H0 H H' : Hp} (k : Kt H H') : ∀ {vs : List V} {ds : List PyData}, Els K H0 H vs ds → Els K H0 H' vs ds
  | _, _, .nil => .nil
  | _, _, .cons h t => .cons (El.kt k h) (Els.kt k t)
theorem El.base {H0 H0' H : Hp} {v : V} {d : PyData} (k : Ex H0 H0') (h : El K H0 H v d) : El K H0' H v d := by
  rcases h with h | h
  · exact .inl h
  · exact .inr (dp_ex k _ _ h)
theorem Els.base {H0 H0' H : Hp} (k : Ex H0 H0') : ∀ {vs : List V} {ds : List PyData}, Els K H0 H vs ds → Els K H0' H vs ds
  | _, _, .nil => .nil
  | _, _, .cons h t => .cons (El.base k h) (Els.base k t)
theorem Els.of_flat {H0 H : Hp} : ∀ {vs : List V} {ds : List PyData}, flats ds = true → DpAll K H vs ds → Els K H0 H vs ds
  | [], [], _, _ => .nil
  | _ :: vs, _ :: ds, f, h => by
    rw [flats, Bool.and_eq_true] at f
    cases h with
    | cons h1 h2 => exact .cons (.inl ⟨f.1, h1⟩) (Els.of_flat f.2 h2)
theorem Els.of_base {H0 H : Hp} : ∀ {vs : List V} {ds : List PyData}, DpAll K H0 vs ds → Els K H0 H vs ds
  | [], [], _ => .nil
  | _ :: vs, _ :: ds, h => by
    cases h with
    | cons h1 h2 => exact .cons (.inr h1) (Els.of_base h2)
theorem pr_len {α β : Type} {F : α → β → Prop} : ∀ {l : List α} {m : List β}, Paired F l m → l.length = m.length
  | _, _, .nil => rfl
  | _, _, .cons _ t => by simp [pr_len t]
theorem pr_app {α β : Type} {F : α → β → Prop} : ∀ {l l' : List α} {m m' : List β}, Paired F l m → Paired F l' m' → Paired F (l ++ l') (m ++ m')
  | _, _, _, _, .nil, h => h
  | _, _, _, _, .cons a t, h => .cons a (pr_app t h)
theorem pr_at {α β : Type} {F : α → β → Prop} : ∀ {l : List α} {m : List β} {i : Nat} {y : β}, Paired F l m → m[i]? = some y → ∃ x, l[i]? = some x ∧ F x y
  | _, _, _, _, .nil, e => by simp at e
  | _, _, 0, y, .cons a _, e => by
    simp at e; subst e
    exact ⟨_, rfl, a⟩
  | _, _, i + 1, y, .cons _ t, e => by
    obtain ⟨x, h1, h2⟩ := pr_at (i := i) (y := y) t (by simpa using e)
    exact ⟨x, by simpa using h1, h2⟩
theorem pr_at' {α β : Type} {F : α → β → Prop} : ∀ {l : List α} {m : List β} {i : Nat} {x : α}, Paired F l m → l[i]? = some x → ∃ y, m[i]? = some y ∧ F x y
  | _, _, _, _, .nil, e => by simp at e
  | _, _, 0, y, .cons a _, e => by
    simp at e; subst e
    exact ⟨_, rfl, a⟩
  | _, _, i + 1, y, .cons _ t, e => by
    obtain ⟨x, h1, h2⟩ := pr_at' (i := i) (x := y) t (by simpa using e)
    exact ⟨x, by simpa using h1, h2⟩
theorem pr_set {α β : Type} {F : α → β → Prop} {x : α} {y : β} (h : F x y) : ∀ {l : List α} {m : List β} (i : Nat), Paired F l m → Paired F (l.set i x) (m.set i y)
  | _, _, _, .nil => .nil
  | _, _, 0, .cons _ t => .cons h t
  | _, _, i + 1, .cons a t => .cons a (pr_set h i t)
theorem pr_map {α β : Type} {F G : α → β → Prop} (f : ∀ a b, F a b → G a b) : ∀ {l : List α} {m : List β}, Paired F l m → Paired G l m
  | _, _, .nil => .nil
  | _, _, .cons a t => .cons (f _ _ a) (pr_map f t)
theorem pr_dropLast {α β : Type} {F : α → β → Prop} : ∀ {l : List α} {m : List β}, Paired F l m → Paired F l.dropLast m.dropLast
  | _, _, .nil => .nil
  | _, _, .cons _ .nil => .nil
  | _, _, .cons a (.cons b t) => .cons a (pr_dropLast (.cons b t))
theorem pr_take {α β : Type} {F : α → β → Prop} : ∀ {l : List α} {m : List β} (n : Nat), Paired F l m → Paired F (l.take n) (m.take n)
  | _, _, 0, _ => .nil
  | _, _, _ + 1, .nil => .nil
  | _, _, n + 1, .cons a t => .cons a (pr_take n t)
theorem pr_drop {α β : Type} {F : α → β → Prop} : ∀ {l : List α} {m : List β} (n : Nat), Paired F l m → Paired F (l.drop n) (m.drop n)
  | _, _, 0, h => h
  | _, _, _ + 1, .nil => .nil
  | _, _, n + 1, .cons a t => pr_drop n t
theorem pr_rev {α β : Type} {F : α → β → Prop} : ∀ {l : List α} {m : List β}, Paired F l m → Paired F l.reverse m.reverse
  | _, _, .nil => .nil
  | _, _, .cons a t => by
    rw [List.reverse_cons, List.reverse_cons]
    exact pr_app (pr_rev t) (.cons a .nil)

/-! ### slots -/
/-- a field of an instance of our own: flat data, or a list of our own at b -/
inductive Fd
  | f (d : PyData)
  | l (b : Addr) (ds : List PyData)
def Fd.dat : Fd → PyData
  | .f d => d
  | .l _ ds => .list ds
def Fd.fp : Fd → List Addr
  | .f _ => []
  | .l b _ => [b]
/-- what is known of a name -/
inductive Sl
  | un
  | fl (d : PyData)
  | gen (d : PyData)
  | bi (C : Addr) (fs : List (Str × PyData))
  | ol (a : Addr) (ds : List PyData)
  | oi (a : Addr) (C : Addr) (fs : List (Str × Fd))
  | od (a : Addr) (kvs : List (Int × PyData))
def Sl.fp : Sl → List Addr
  | .ol a _ => [a]
  | .oi a _ fs => a :: fs.flatMap fun p => p.2.fp
  | .od a _ => [a]
  | _ => []
def FsOk (K : PySem.W.Frag) (H : Hp) : List (Str × V) → List (Str × PyData) → Prop := Paired fun p q => p.1 = q.1 ∧ Dp K H p.2 q.2
def FdOk (K : PySem.W.Frag) (H0 H : Hp) (v : V) : Fd → Prop
  | .f d => flat d = true ∧ Dp K H v d
  | .l b ds => v = .ref b ∧ ∃ vs, H b = some (.lst vs) ∧ Els K H0 H vs ds
def FdsOk (K : PySem.W.Frag) (H0 H : Hp) : List (Str × V) → List (Str × Fd) → Prop := Paired fun p q => p.1 = q.1 ∧ FdOk K H0 H p.2 q.2
def SlOk (K : PySem.W.Frag) (H0 H : Hp) (x : Option V) : Sl → Prop
  | .un => True
  | .fl d => ∃ v, x = some v ∧ flat d = true ∧ Dp K H v d
  | .gen d => ∃ v, x = some v ∧ Dp K H0 v d
  | .bi C fs => ∃ a dx fvs, x = some (.ref a) ∧ H0 a = some (.ins C dx fvs) ∧ FsOk K H0 fvs fs
  | .ol a ds => x = some (.ref a) ∧ ∃ vs, H a = some (.lst vs) ∧ Els K H0 H vs ds
  | .oi a C fs => x = some (.ref a) ∧ ∃ dx fvs, H a = some (.ins C dx fvs) ∧ FdsOk K H0 H fvs fs
  | .od a kvs => x = some (.ref a) ∧ ∃ kv, H a = some (.dK kv) ∧ Paired (fun (p : Key × V) (q : Int × PyData) => p.1 = .inl q.1 ∧ El K H0 H p.2 q.2) kv kvs
structure Sd (K : PySem.W.Frag) (H0 H : Hp) (σ : L2.St) (ρ : List Sl) : Prop where
  ex : Ex H0 H
  ok : Paired (SlOk K H0 H) σ ρ
  nd : (ρ.flatMap Sl.fp).Nodup
  new : ∀ a ∈ ρ.flatMap Sl.fp, H0 a = none
theorem SlOk.grow {H0 H H' : Hp} {x : Option V} {s : Sl} (e : Ex H H') (h : SlOk K H0 H x s) : SlOk K H0 H' x s := by
  cases s with
  | un => trivial
  | fl d => obtain ⟨v, h1, h2, h3⟩ := h; exact ⟨v, h1, h2, dp_ex e _ _ h3⟩
  | gen d => exact h
  | bi C fs => exact h
  | ol a ds => obtain ⟨h1, vs, h2, h3⟩ := h; exact ⟨h1, vs, e _ _ h2, h3.kt (.of_ex e)⟩
  | oi a C fs =>
    obtain ⟨h1, dx, fvs, h2, h3⟩ := h
    refine ⟨h1, dx, fvs, e _ _ h2, pr_map (fun p q r => ⟨r.1, ?_⟩) h3⟩
    revert r
    cases q.2 with
    | f d => exact fun r => ⟨r.2.1, dp_ex e _ _ r.2.2⟩
    | l b ds => exact fun ⟨_, r1, vs, r2, r3⟩ => ⟨r1, vs, e _ _ r2, r3.kt (.of_ex e)⟩
  | od a kvs => obtain ⟨h1, kv, h2, h3⟩ := h; exact ⟨h1, kv, e _ _ h2, pr_map (fun p q r => ⟨r.1, r.2.kt (.of_ex e)⟩) h3⟩
theorem SlOk.base {H0 H0' H : Hp} {x : Option V} {s : Sl} (e : Ex H0 H0') (h : SlOk K H0 H x s) : SlOk K H0' H x s := by
  cases s with
  | un => trivial
  | fl d => exact h
  | gen d => obtain ⟨v, h1, h2⟩ := h; exact ⟨v, h1, dp_ex e _ _ h2⟩
  | bi C fs => obtain ⟨a, dx, fvs, h1, h2, h3⟩ := h; exact ⟨a, dx, fvs, h1, e _ _ h2, pr_map (fun p q r => ⟨r.1, dp_ex e _ _ r.2⟩) h3⟩
  | ol a ds => obtain ⟨h1, vs, h2, h3⟩ := h; exact ⟨h1, vs, h2, h3.base e⟩
  | oi a C fs =>
    obtain ⟨h1, dx, fvs, h2, h3⟩ := h
    refine ⟨h1, dx, fvs, h2, pr_map (fun p q r => ⟨r.1, ?_⟩) h3⟩
    revert r
    cases q.2 with
    | f d => exact fun r => r.2
    | l b ds => exact fun ⟨_, r1, vs, r2, r3⟩ => ⟨r1, vs, r2, r3.base e⟩
  | od a kvs => obtain ⟨h1, kv, h2, h3⟩ := h; exact ⟨h1, kv, h2, pr_map (fun p q r => ⟨r.1, r.2.base e⟩) h3⟩
/-- an object that is not in the slot's own part changes -/
theorem SlOk.away {H0 H H' : Hp} {x : Option V} {s : Sl} (k : Kt H H') (e : ∀ a ∈ s.fp, ∀ o, H a = some o → H' a = some o) (h : SlOk K H0 H x s) : SlOk K H0 H' x s := by
  cases s with
  | un => trivial
  | fl d => obtain ⟨v, h1, h2, h3⟩ := h; exact ⟨v, h1, h2, dp_kt k _ _ h2 h3⟩
  | gen d => exact h
  | bi C fs => exact h
  | ol a ds => obtain ⟨h1, vs, h2, h3⟩ := h; exact ⟨h1, vs, e a (by simp [Sl.fp]) _ h2, h3.kt k⟩
  | oi a C fs =>
    obtain ⟨h1, dx, fvs, h2, h3⟩ := h
    refine ⟨h1, dx, fvs, e a (by simp [Sl.fp]) _ h2, ?_⟩
    have e' : ∀ b ∈ fs.flatMap (fun p => p.2.fp), ∀ o, H b = some o → H' b = some o := fun b hb => e b (by simp only [Sl.fp]; exact List.mem_cons_of_mem _ hb)
    clear e h1 h2
    induction h3 with
    | nil => exact .nil
    | @cons p q l m r t ih =>
      refine .cons ⟨r.1, ?_⟩ (ih fun b hb => e' b (by rw [List.flatMap_cons]; exact List.mem_append_right _ hb))
      obtain ⟨r1, r2⟩ := r
      obtain ⟨n, z⟩ := q
      cases z with
      | f d => exact ⟨r2.1, dp_kt k _ _ r2.1 r2.2⟩
      | l b ds =>
        obtain ⟨q1, vs, q2, q3⟩ := r2
        exact ⟨q1, vs, e' b (by rw [List.flatMap_cons]; exact List.mem_append_left _ (by simp [Fd.fp])) _ q2, q3.kt k⟩
  | od a kvs => obtain ⟨h1, kv, h2, h3⟩ := h; exact ⟨h1, kv, e a (by simp [Sl.fp]) _ h2, pr_map (fun p q r => ⟨r.1, r.2.kt k⟩) h3⟩
section
variable {H0 H H' H0' : Hp} {σ : L2.St} {ρ : List Sl}
theorem Sd.grow (e : Ex H H') (h : Sd K H0 H σ ρ) : Sd K H0 H' σ ρ := ⟨h.ex.trans e, pr_map (fun _ _ r => r.grow e) h.ok, h.nd, h.new⟩
theorem Sd.base (e : Ex H0 H0') (e' : Ex H0' H) (hn : ∀ a ∈ ρ.flatMap Sl.fp, H0' a = none) (h : Sd K H0 H σ ρ) : Sd K H0' H σ ρ :=
  ⟨e', pr_map (fun _ _ r => r.base e) h.ok, h.nd, hn⟩
theorem Sd.at (h : Sd K H0 H σ ρ) {i : Nat} {s : Sl} (e : ρ[i]? = some s) : ∃ x, σ[i]? = some x ∧ SlOk K H0 H x s := pr_at h.ok e
theorem nodup_sub {α : Type} {l m : List α} (s : l.Sublist m) (h : m.Nodup) : l.Nodup := List.Pairwise.sublist s h
/-- the own parts after a slot is replaced by one of a part f -/
theorem fp_set : ∀ (ρ : List Sl) (i : Nat) (s : Sl), (∀ a ∈ s.fp, a ∉ ρ.flatMap Sl.fp) → s.fp.Nodup → (ρ.flatMap Sl.fp).Nodup → ((ρ.set i s).flatMap Sl.fp).Nodup
  | [], _, _, _, _, _ => by simp
  | r :: ρ, 0, s, hn, hs, h => by
    rw [List.set_cons_zero, List.flatMap_cons]
    rw [List.flatMap_cons] at h hn
    rw [List.nodup_append] at h ⊢
    exact ⟨hs, h.2.1, fun a ha b hb e => hn a ha (by rw [e]; exact List.mem_append_right _ hb)⟩
  | r :: ρ, i + 1, s, hn, hs, h => by
    rw [List.set_cons_succ, List.flatMap_cons]
    rw [List.flatMap_cons] at h hn
    rw [List.nodup_append] at h ⊢
    refine ⟨h.1, fp_set ρ i s (fun a ha q => hn a ha (List.mem_append_right _ q)) hs h.2.1, fun a ha b hb e => ?_⟩
    subst e
    rw [List.mem_flatMap] at hb
    obtain ⟨t, ht, hat⟩ := hb
    rcases List.mem_or_eq_of_mem_set ht with ht | rfl
    · exact h.2.2 a ha a (List.mem_flatMap.mpr ⟨t, ht, hat⟩) rfl
    · exact hn a hat (List.mem_append_left _ ha)
theorem mem_fp_set {ρ : List Sl} {i : Nat} {s : Sl} {a : Addr} (h : a ∈ (ρ.set i s).flatMap Sl.fp) : a ∈ ρ.flatMap Sl.fp ∨ a ∈ s.fp := by
  rw [List.mem_flatMap] at h
  obtain ⟨t, ht, hat⟩ := h
  rcases List.mem_or_eq_of_mem_set ht with ht | rfl
  · exact .inl (List.mem_flatMap.mpr ⟨t, ht, hat⟩)
  · exact .inr hat
/-- a name is stored -/
theorem Sd.put (h : Sd K H0 H σ ρ) {i : Nat} {v : V} {s : Sl} (hs : SlOk K H0 H (some v) s) (hnd : s.fp.Nodup) (hn : ∀ a ∈ s.fp, H0 a = none) (hd : ∀ a ∈ s.fp, a ∉ ρ.flatMap Sl.fp) : Sd K H0 H (σ.set i (some v)) (ρ.set i s) := by
  refine ⟨h.ex, pr_set hs i h.ok, fp_set ρ i s hd hnd h.nd, fun a ha => ?_⟩
  rcases mem_fp_set ha with ha | ha
  · exact h.new a ha
  · exact hn a ha
/-- what is in a slot's own part is tracked -/
theorem SlOk.there {x : Option V} {s : Sl} (h : SlOk K H0 H x s) : ∀ a ∈ s.fp, ∃ o, H a = some o := by
  cases s with
  | un => intro a ha; cases ha
  | fl d => intro a ha; cases ha
  | gen d => intro a ha; cases ha
  | bi C fs => intro a ha; cases ha
  | ol b ds =>
    intro a ha
    obtain ⟨_, vs, h2, _⟩ := h
    simp only [Sl.fp, List.mem_singleton] at ha
    subst ha
    exact ⟨_, h2⟩
  | oi b C fs =>
    intro a ha
    obtain ⟨_, dx, fvs, h2, h3⟩ := h
    simp only [Sl.fp] at ha
    rcases List.mem_cons.mp ha with rfl | ha
    · exact ⟨_, h2⟩
    · clear h2
      induction h3 with
      | nil => cases ha
      | @cons p q l m r t ih =>
        rw [List.flatMap_cons] at ha
        rcases List.mem_append.mp ha with ha | ha
        · obtain ⟨r1, r2⟩ := r
          obtain ⟨n, z⟩ := q
          cases z with
          | f d => cases ha
          | l c ds =>
            obtain ⟨_, vs, q2, _⟩ := r2
            simp only [Fd.fp, List.mem_singleton] at ha
            subst ha
            exact ⟨_, q2⟩
        · exact ih (List.mem_cons_of_mem _ ha) ha
  | od b kvs =>
    intro a ha
    obtain ⟨_, vs, h2, _⟩ := h
    simp only [Sl.fp, List.mem_singleton] at ha
    subst ha
    exact ⟨_, h2⟩
theorem pr_all {α β : Type} {F : α → β → Prop} {G : β → Prop} (f : ∀ a b, F a b → G b) : ∀ {l : List α} {m : List β}, Paired F l m → ∀ b ∈ m, G b
  | _, _, .nil, _, h => by cases h
  | _, _, .cons a t, b, h => by
    cases h with
    | head => exact f _ _ a
    | tail _ q => exact pr_all f t b q
theorem Sd.there (h : Sd K H0 H σ ρ) : ∀ a ∈ ρ.flatMap Sl.fp, ∃ o, H a = some o := fun a ha => by
  rw [List.mem_flatMap] at ha
  obtain ⟨s, hs, ha⟩ := ha
  exact pr_all (G := fun s => ∀ a ∈ s.fp, ∃ o, H a = some o) (fun x s r => r.there) h.ok s hs a ha
/-- what was free is in no own part -/
theorem Sd.fresh (h : Sd K H0 H σ ρ) {a : Addr} (ha : H a = none) : a ∉ ρ.flatMap Sl.fp := fun q => by
  obtain ⟨o, e⟩ := h.there a q
  rw [ha] at e
  cases e
theorem Ex.none {H H' : Hp} (e : Ex H H') {a : Addr} (h : H' a = none) : H a = none := Evl.fresh_back e h
end
end PF

namespace PF
open PySem L2
open Evl (Ex)
/-! ### judgements -/
section
variable (K : PySem.W.Frag)
def EvF (te : TE) (ρ : List Sl) (d : PyData) : Prop := ∀ H0 H σ, Sd K H0 H σ ρ → ∀ Q : VK, (∀ v H', Ex H H' → flat d = true → Dp K H' v d → Q v H') → te σ H Q
def EvG (te : TE) (ρ : List Sl) (d : PyData) : Prop := ∀ H0 H σ, Sd K H0 H σ ρ → ∀ Q : VK, (∀ v H', Ex H H' → Dp K H0 v d → Q v H') → te σ H Q
def EvV (te : TE) (ρ : List Sl) (d : PyData) : Prop := ∀ H0 H σ, Sd K H0 H σ ρ → ∀ Q : VK, (∀ v H', Ex H H' → Dp K H' v d → Q v H') → te σ H Q
def EvL (te : TE) (ρ : List Sl) (ds : List PyData) : Prop := ∀ H0 H σ, Sd K H0 H σ ρ → ∀ Q : VK, (∀ a vs H', Ex H H' → H a = none → H' a = some (.lst vs) → Els K H0 H' vs ds → Q (.ref a) H') → te σ H Q
def EvT (tt : TT) (ρ : List Sl) (b : Bool) : Prop := ∀ H0 H σ, Sd K H0 H σ ρ → ∀ Q : Bool → Hp → Prop, (∀ H', Ex H H' → Q b H') → tt σ H Q
inductive Ag
  | d (d : PyData)
  | i (C : Addr) (fs : List (Str × PyData))
def AgOk (H : Hp) (v : V) : Ag → Prop
  | .d d => Dp K H v d
  | .i C fs => ∃ a dx fvs, v = .ref a ∧ H a = some (.ins C dx fvs) ∧ FsOk K H fvs fs
def EvVI (te : TE) (ρ : List Sl) (C : Addr) (fs : List (Str × PyData)) : Prop := ∀ H0 H σ, Sd K H0 H σ ρ → ∀ Q : VK, (∀ v H', Ex H H' → AgOk K H' v (.i C fs) → Q v H') → te σ H Q
def EvA (ta : TA) (ρ : List Sl) (ags : List Ag) : Prop := ∀ H0 H σ, Sd K H0 H σ ρ → ∀ Q : List V → Hp → Prop, (∀ vs H', Ex H H' → Paired (AgOk K H') vs ags → Q vs H') → ta σ H Q
def EvFs (ta : TA) (ρ : List Sl) (ds : List PyData) : Prop := ∀ H0 H σ, Sd K H0 H σ ρ → ∀ Q : List V → Hp → Prop, (∀ vs H', Ex H H' → flats ds = true → DpAll K H' vs ds → Q vs H') → ta σ H Q
def EvEs (ta : TA) (ρ : List Sl) (ds : List PyData) : Prop := ∀ H0 H σ, Sd K H0 H σ ρ → ∀ Q : List V → Hp → Prop, (∀ vs H', Ex H H' → Els K H0 H' vs ds → Q vs H') → ta σ H Q
/-- a fresh instance -/
def EvI (te : TE) (ρ : List Sl) (C : Addr) (fs : List (Str × PyData)) : Prop := ∀ H0 H σ, Sd K H0 H σ ρ → ∀ Q : VK, (∀ a dx fvs H' (fds : List (Str × Fd)), Ex H H' → H a = none → H' a = some (.ins C dx fvs) → FdsOk K H0 H' fvs fds →
  fds.map (fun p => (p.1, p.2.dat)) = fs → (Sl.oi a C fds).fp.Nodup → (∀ b ∈ (Sl.oi a C fds).fp, H b = none) → Q (.ref a) H') → te σ H Q
end
/-! ### what a block does -/
inductive Rt
  | f (d : PyData)
  | l (ds : List PyData)
  | i (C : Addr) (fs : List (Str × PyData))
def RtOk (K : PySem.W.Frag) (H0 H' : Hp) (v : V) : Rt → Prop
  | .f d => flat d = true ∧ Dp K H' v d
  | .l ds => ∃ a vs, v = .ref a ∧ H0 a = none ∧ H' a = some (.lst vs) ∧ flats ds = true ∧ DpAll K H' vs ds
  | .i C fs => ∃ a dx fvs fds, v = .ref a ∧ H' a = some (.ins C dx fvs) ∧ FdsOk K H' H' fvs fds ∧ fds.map (fun p => (p.1, p.2.dat)) = fs ∧ (∀ p ∈ fds, ∀ b ds, p.2 = .l b ds → flats ds = true) ∧ (Sl.oi a C fds).fp.Nodup ∧ ∀ b ∈ (Sl.oi a C fds).fp, H0 b = none
structure Po where
  nx : List Sl → Prop
  rt : Rt → Prop := fun _ => False
  bk : List Sl → Prop := fun _ => False
  ct : List Sl → Prop := fun _ => False
def W (K : PySem.W.Frag) (t : TS) (ρ : List Sl) (P : Po) : Prop := ∀ H0 H σ (D : Ends), Sd K H0 H σ ρ →
  (∀ H0' H' σ' ρ', Ex H0 H0' → Sd K H0' H' σ' ρ' → P.nx ρ' → D.nx σ' H') →
  (∀ H0' H' v r, Ex H0 H0' → Ex H0' H' → RtOk K H0' H' v r → P.rt r → D.rt v H') →
  (∀ H0' H' σ' ρ', Ex H0 H0' → Sd K H0' H' σ' ρ' → P.bk ρ' → D.bk σ' H') →
  (∀ H0' H' σ' ρ', Ex H0 H0' → Sd K H0' H' σ' ρ' → P.ct ρ' → D.ct σ' H') → t D σ H
section
variable {K : PySem.W.Frag} {te ta tb tc : TE} {tt tu : TT} {tl tr : TA} {ρ : List Sl} {d d' : PyData} {ds : List PyData}
theorem El.of_flat {H0 H : Hp} {v : V} (f : flat d = true) (h : Dp K H v d) : El K H0 H v d := .inl ⟨f, h⟩
/-! ### between the judgements -/
theorem EvF.v (h : EvF K te ρ d) : EvV K te ρ d := fun H0 H σ hs Q q => h H0 H σ hs Q fun v H' e _ x => q v H' e x
theorem EvG.v (h : EvG K te ρ d) : EvV K te ρ d := fun H0 H σ hs Q q => h H0 H σ hs Q fun v H' e x => q v H' e (dp_ex (hs.ex.trans e) _ _ x)
theorem EvL.v (h : EvL K te ρ ds) : EvV K te ρ (.list ds) := fun H0 H σ hs Q q => h H0 H σ hs Q fun a vs H' e _ x y => q _ H' e (.lst (.inl (.inl x)) (y.dp (hs.ex.trans e)))
theorem EvF.is (h : EvF K te ρ d) (e : d = d') : EvF K te ρ d' := e ▸ h
theorem EvV.is (h : EvV K te ρ d) (e : d = d') : EvV K te ρ d' := e ▸ h
theorem EvT.is {b b' : Bool} (h : EvT K tt ρ b) (e : b = b') : EvT K tt ρ b' := e ▸ h
theorem EvL.is {ds'} (h : EvL K te ρ ds) (e : ds = ds') : EvL K te ρ ds' := e ▸ h
theorem EvV.f (h : EvV K te ρ d) (f : flat d = true) : EvF K te ρ d := fun H0 H σ hs Q q => h H0 H σ hs Q fun v H' e x => q v H' e f x
/-! ### names, constants -/
theorem evF_var {i : Nat} (h : ρ[i]? = some (.fl d)) : EvF K (tVar i) ρ d := fun H0 H σ hs Q q => by
  obtain ⟨x, e, v, rfl, f, r⟩ := hs.at h
  exact ⟨v, e, q v H (Evl.Ex.refl H) f r⟩
theorem evG_var {i : Nat} (h : ρ[i]? = some (.gen d)) : EvG K (tVar i) ρ d := fun H0 H σ hs Q q => by
  obtain ⟨x, e, v, rfl, r⟩ := hs.at h
  exact ⟨v, e, q v H (Evl.Ex.refl H) r⟩
theorem evV_fl {i : Nat} (h : ρ[i]? = some (.fl d)) : EvV K (tVar i) ρ d := (evF_var h).v
theorem evV_gen {i : Nat} (h : ρ[i]? = some (.gen d)) : EvV K (tVar i) ρ d := (evG_var h).v
theorem evV_ol {i : Nat} {a : Addr} (h : ρ[i]? = some (.ol a ds)) : EvV K (tVar i) ρ (.list ds) := fun H0 H σ hs Q q => by
  obtain ⟨x, e, rfl, vs, h2, h3⟩ := hs.at h
  exact ⟨_, e, q _ H (Evl.Ex.refl H) (.lst (.inl (.inl h2)) (h3.dp hs.ex))⟩
theorem evVI_bi {i : Nat} {C : Addr} {fs : List (Str × PyData)} (h : ρ[i]? = some (.bi C fs)) : EvVI K (tVar i) ρ C fs := fun H0 H σ hs Q q => by
  obtain ⟨x, e, a, dx, fvs, rfl, h2, h3⟩ := hs.at h
  exact ⟨_, e, q _ H (Evl.Ex.refl H) ⟨a, dx, fvs, rfl, hs.ex _ _ h2, pr_map (fun p q r => ⟨r.1, dp_ex hs.ex _ _ r.2⟩) h3⟩⟩
theorem FdOk.dp {H0 H : Hp} {v : V} {f : Fd} (e : Ex H0 H) (h : FdOk K H0 H v f) : Dp K H v f.dat := by
  cases f with
  | f d => exact h.2
  | l b ds =>
    obtain ⟨rfl, vs, h1, h2⟩ := h
    exact .lst (.inl (.inl h1)) (h2.dp e)
theorem FdsOk.fs {H0 H : Hp} (e : Ex H0 H) : ∀ {fvs : List (Str × V)} {fds : List (Str × Fd)}, FdsOk K H0 H fvs fds → FsOk K H fvs (fds.map fun p => (p.1, p.2.dat))
  | _, _, .nil => .nil
  | _, _, .cons r t => .cons ⟨r.1, FdOk.dp e r.2⟩ (FdsOk.fs e t)
theorem evVI_oi {i : Nat} {a C : Addr} {fds : List (Str × Fd)} (h : ρ[i]? = some (.oi a C fds)) : EvVI K (tVar i) ρ C (fds.map fun p => (p.1, p.2.dat)) := fun H0 H σ hs Q q => by
  obtain ⟨x, e, rfl, dx, fvs, h2, h3⟩ := hs.at h
  exact ⟨_, e, q _ H (Evl.Ex.refl H) ⟨a, dx, fvs, rfl, h2, FdsOk.fs hs.ex h3⟩⟩
theorem EvI.v {C : Addr} {fs : List (Str × PyData)} (h : EvI K te ρ C fs) : EvVI K te ρ C fs := fun H0 H σ hs Q q => h H0 H σ hs Q fun a dx fvs H' fds e _ h1 h2 h3 _ _ => by
  subst h3
  exact q _ H' e ⟨a, dx, fvs, rfl, h1, FdsOk.fs (hs.ex.trans e) h2⟩
theorem evF_int {i : Int} : EvF K (tC (.int i)) ρ (.int i) := fun H0 H σ hs Q q => q _ H (Evl.Ex.refl H) rfl (.int i)
theorem evF_bl {b : Bool} : EvF K (tC (.bl b)) ρ (.bool b) := fun H0 H σ hs Q q => q _ H (Evl.Ex.refl H) rfl (.bl b)
theorem evF_non : EvF K (tC .non) ρ .none := fun H0 H σ hs Q q => q _ H (Evl.Ex.refl H) rfl .non
theorem evF_str {x : Str} : EvF K (tC (.str x)) ρ (.str x) := fun H0 H σ hs Q q => q _ H (Evl.Ex.refl H) rfl (.str x)
/-- a constant of the module -/
theorem evF_con {v : V} (f : flat d = true) (h : ∀ H, Dp K H v d) : EvF K (tC v) ρ d := fun H0 H σ hs Q q => q _ H (Evl.Ex.refl H) f (h H)
/-! ### operators on ints -/
theorem evF_opI0 {i j : Int} {g : Int → Int → Int} (ha : EvF K ta ρ (.int i)) (hb : EvF K tb ρ (.int j)) : EvF K (tOp (rI0 fun i j => .int (g i j)) ta tb) ρ (.int (g i j)) := fun H0 H σ hs Q q =>
  ha H0 H σ hs _ fun v H1 e1 _ d1 => hb H0 H1 σ (hs.grow e1) _ fun u H2 e2 _ d2 => by
    cases d1
    cases d2
    exact ⟨i, j, rfl, rfl, q _ H2 (e1.trans e2) rfl (.int _)⟩
theorem evF_opI {i j : Int} {C : Int → Int → Prop} {g : Int → Int → Int} (ha : EvF K ta ρ (.int i)) (hb : EvF K tb ρ (.int j)) (hc : C i j) : EvF K (tOp (rI C fun i j => .int (g i j)) ta tb) ρ (.int (g i j)) := fun H0 H σ hs Q q =>
  ha H0 H σ hs _ fun v H1 e1 _ d1 => hb H0 H1 σ (hs.grow e1) _ fun u H2 e2 _ d2 => by
    cases d1
    cases d2
    exact ⟨i, j, rfl, rfl, hc, q _ H2 (e1.trans e2) rfl (.int _)⟩
theorem evF_opB0 {i j : Int} {g : Int → Int → Bool} (ha : EvF K ta ρ (.int i)) (hb : EvF K tb ρ (.int j)) : EvF K (tOp (rI0 fun i j => .bl (g i j)) ta tb) ρ (.bool (g i j)) := fun H0 H σ hs Q q =>
  ha H0 H σ hs _ fun v H1 e1 _ d1 => hb H0 H1 σ (hs.grow e1) _ fun u H2 e2 _ d2 => by
    cases d1
    cases d2
    exact ⟨i, j, rfl, rfl, q _ H2 (e1.trans e2) rfl (.bl _)⟩
theorem evF_unI {i : Int} {g : Int → Int} (ha : EvF K ta ρ (.int i)) : EvF K (tUn (rU fun i => .int (g i)) ta) ρ (.int (g i)) := fun H0 H σ hs Q q =>
  ha H0 H σ hs _ fun v H1 e1 _ d1 => by
    cases d1
    exact ⟨i, rfl, q _ H1 e1 rfl (.int _)⟩
/-! ### == and != of any data -/
theorem evF_eqD (ha : EvV K ta ρ d) (hb : EvV K tb ρ d') (h1 : SeqAt.shaped d = true) (h2 : SeqAt.shaped d' = true) : EvF K (tOp (rEqD K) ta tb) ρ (.bool (PyData.eqv d d')) := fun H0 H σ hs Q q =>
  ha H0 H σ hs _ fun v H1 e1 d1 => hb H0 H1 σ (hs.grow e1) _ fun u H2 e2 d2 => ⟨d, d', dp_ex e2 _ _ d1, d2, h1, h2, q _ H2 (e1.trans e2) rfl (.bl _)⟩
theorem evF_neD (ha : EvV K ta ρ d) (hb : EvV K tb ρ d') (h1 : SeqAt.shaped d = true) (h2 : SeqAt.shaped d' = true) : EvF K (tOp (rNeD K) ta tb) ρ (.bool (!PyData.eqv d d')) := fun H0 H σ hs Q q =>
  ha H0 H σ hs _ fun v H1 e1 d1 => hb H0 H1 σ (hs.grow e1) _ fun u H2 e2 d2 => ⟨d, d', dp_ex e2 _ _ d1, d2, h1, h2, q _ H2 (e1.trans e2) rfl (.bl _)⟩
/-! ### items -/
theorem atI_get {α : Type} {xs : List α} {i : Int} {x : α} (h : atI xs i = some x) : ∃ j, ixN xs.length i = some j ∧ xs[j]? = some x := by
  unfold atI at h
  cases e : ixN xs.length i with
  | none => rw [e] at h; cases h
  | some j => rw [e] at h; exact ⟨j, rfl, h⟩
theorem atI_pr {α β : Type} {F : α → β → Prop} {xs : List α} {ys : List β} {i : Int} {y : β} (p : Paired F xs ys) (h : atI ys i = some y) : ∃ x, atI xs i = some x ∧ F x y := by
  obtain ⟨j, h1, h2⟩ := atI_get h
  obtain ⟨x, h3, h4⟩ := pr_at p h2
  refine ⟨x, ?_, h4⟩
  unfold atI
  rw [pr_len p, h1]
  exact h3
theorem DpAll.pr {H : Hp} : ∀ {vs : List V} {ds : List PyData}, DpAll K H vs ds → Paired (Dp K H) vs ds
  | [], [], _ => .nil
  | _ :: _, _ :: _, h => by
    cases h with
    | cons h1 h2 => exact .cons h1 (DpAll.pr h2)
theorem DpAll.of {H : Hp} : ∀ {vs : List V} {ds : List PyData}, Paired (Dp K H) vs ds → DpAll K H vs ds
  | _, _, .nil => .nil
  | _, _, .cons h t => .cons h (DpAll.of t)
theorem evV_ixT {i : Int} (ha : EvV K ta ρ (.tuple ds)) (hb : EvF K tb ρ (.int i)) (h : atI ds i = some d) : EvV K (tOp (rIxT K) ta tb) ρ d := fun H0 H σ hs Q q =>
  ha H0 H σ hs _ fun v H1 e1 d1 => hb H0 H1 σ (hs.grow e1) _ fun u H2 e2 _ d2 => by
    cases d2
    cases d1 with
    | tup hq hd =>
      obtain ⟨x, hx, hy⟩ := atI_pr (DpAll.pr hd) h
      exact ⟨_, _, i, x, rfl, rfl, Evl.ex_t e2 hq, hx, q _ H2 (e1.trans e2) (dp_ex e2 _ _ hy)⟩
theorem evF_ixT {i : Int} (ha : EvV K ta ρ (.tuple ds)) (hb : EvF K tb ρ (.int i)) (h : atI ds i = some d) (f : flat d = true) : EvF K (tOp (rIxT K) ta tb) ρ d := (evV_ixT ha hb h).f f
theorem evV_ixL {i : Int} (ha : EvV K ta ρ (.list ds)) (hb : EvF K tb ρ (.int i)) (h : atI ds i = some d) : EvV K (tOp (rIxL K) ta tb) ρ d := fun H0 H σ hs Q q =>
  ha H0 H σ hs _ fun v H1 e1 d1 => hb H0 H1 σ (hs.grow e1) _ fun u H2 e2 _ d2 => by
    cases d2
    cases d1 with
    | lst hq hd =>
      obtain ⟨x, hx, hy⟩ := atI_pr (DpAll.pr hd) h
      exact ⟨_, _, i, x, rfl, rfl, Evl.ex_l e2 hq, hx, q _ H2 (e1.trans e2) (dp_ex e2 _ _ hy)⟩
theorem evF_ixL {i : Int} (ha : EvV K ta ρ (.list ds)) (hb : EvF K tb ρ (.int i)) (h : atI ds i = some d) (f : flat d = true) : EvF K (tOp (rIxL K) ta tb) ρ d := (evV_ixL ha hb h).f f
theorem evG_ixL {i : Int} (ha : EvG K ta ρ (.list ds)) (hb : EvF K tb ρ (.int i)) (h : atI ds i = some d) : EvG K (tOp (rIxL K) ta tb) ρ d := fun H0 H σ hs Q q =>
  ha H0 H σ hs _ fun v H1 e1 d1 => hb H0 H1 σ (hs.grow e1) _ fun u H2 e2 _ d2 => by
    cases d2
    cases d1 with
    | lst hq hd =>
      obtain ⟨x, hx, hy⟩ := atI_pr (DpAll.pr hd) h
      exact ⟨_, _, i, x, rfl, rfl, Evl.ex_l (hs.ex.trans (e1.trans e2)) hq, hx, q _ H2 (e1.trans e2) hy⟩
/-! ### lists of arguments -/
theorem evA_nil : EvA K tNil ρ [] := fun H0 H σ hs Q q => q [] H (Evl.Ex.refl H) .nil
theorem AgOk.ex {H H' : Hp} {v : V} {a : Ag} (e : Ex H H') (h : AgOk K H v a) : AgOk K H' v a := by
  cases a with
  | d d => exact dp_ex e _ _ h
  | i C fs =>
    obtain ⟨a, dx, fvs, h1, h2, h3⟩ := h
    exact ⟨a, dx, fvs, h1, e _ _ h2, pr_map (fun p q r => ⟨r.1, dp_ex e _ _ r.2⟩) h3⟩
theorem evA_cons {ags : List Ag} (ha : EvV K ta ρ d) (hr : EvA K tr ρ ags) : EvA K (tCons ta tr) ρ (.d d :: ags) := fun H0 H σ hs Q q =>
  ha H0 H σ hs _ fun v H1 e1 d1 => hr H0 H1 σ (hs.grow e1) _ fun vs H2 e2 ds2 => q _ H2 (e1.trans e2) (.cons (dp_ex e2 _ _ d1) ds2)
theorem evA_consI {ags : List Ag} {C : Addr} {fs : List (Str × PyData)} (ha : EvVI K ta ρ C fs) (hr : EvA K tr ρ ags) : EvA K (tCons ta tr) ρ (.i C fs :: ags) := fun H0 H σ hs Q q =>
  ha H0 H σ hs _ fun v H1 e1 d1 => hr H0 H1 σ (hs.grow e1) _ fun vs H2 e2 ds2 => q _ H2 (e1.trans e2) (.cons (d1.ex e2) ds2)
theorem evFs_nil : EvFs K tNil ρ [] := fun H0 H σ hs Q q => q [] H (Evl.Ex.refl H) rfl .nil
theorem evFs_cons (ha : EvF K ta ρ d) (hr : EvFs K tr ρ ds) : EvFs K (tCons ta tr) ρ (d :: ds) := fun H0 H σ hs Q q =>
  ha H0 H σ hs _ fun v H1 e1 f1 d1 => hr H0 H1 σ (hs.grow e1) _ fun vs H2 e2 fs2 ds2 => q _ H2 (e1.trans e2) (by rw [flats, f1, fs2]; rfl) (.cons (dp_ex e2 _ _ d1) ds2)
theorem evEs_nil : EvEs K tNil ρ [] := fun H0 H σ hs Q q => q [] H (Evl.Ex.refl H) .nil
theorem evEs_cons (ha : EvF K ta ρ d) (hr : EvEs K tr ρ ds) : EvEs K (tCons ta tr) ρ (d :: ds) := fun H0 H σ hs Q q =>
  ha H0 H σ hs _ fun v H1 e1 f1 d1 => hr H0 H1 σ (hs.grow e1) _ fun vs H2 e2 ds2 => q _ H2 (e1.trans e2) (.cons (.inl ⟨f1, dp_ex e2 _ _ d1⟩) ds2)
theorem evEs_consG (ha : EvG K ta ρ d) (hr : EvEs K tr ρ ds) : EvEs K (tCons ta tr) ρ (d :: ds) := fun H0 H σ hs Q q =>
  ha H0 H σ hs _ fun v H1 e1 d1 => hr H0 H1 σ (hs.grow e1) _ fun vs H2 e2 ds2 => q _ H2 (e1.trans e2) (.cons (.inr d1) ds2)
theorem evF_tup (h : EvFs K tl ρ ds) (hz : ds.length ≤ 1000) : EvF K (tTup tl) ρ (.tuple ds) := fun H0 H σ hs Q q =>
  h H0 H σ hs _ fun vs H1 e1 f1 d1 => ⟨by rw [DpAll.length d1]; exact Nat.le_of_lt (small1000 hz), fun p np => q _ _ (e1.trans (Evl.Ex.new np)) (by rw [flat]; exact f1) (.tup (.inl (.inl upd_same)) (dp_exs (Evl.Ex.new np) _ _ d1))⟩
theorem evL_lst (h : EvEs K tl ρ ds) (hz : ds.length ≤ 1000) : EvL K (tLst tl) ρ ds := fun H0 H σ hs Q q =>
  h H0 H σ hs _ fun vs H1 e1 d1 => ⟨by rw [pr_len d1]; exact Nat.le_of_lt (small1000 hz), fun p np => q p vs _ (e1.trans (Evl.Ex.new np)) (Ex.none e1 np) upd_same (d1.kt (.of_ex (Evl.Ex.new np)))⟩
/-! ### tests -/
theorem evT_test {b : Bool} (h : EvF K te ρ (.bool b)) : EvT K (tTest te) ρ b := fun H0 H σ hs Q q => h H0 H σ hs _ fun v H1 e1 _ d1 => by
  cases d1
  exact ⟨b, rfl, q H1 e1⟩
theorem evT_B {b : Bool} (h : EvF K te ρ (.bool b)) : EvT K (tB te) ρ b := fun H0 H σ hs Q q => h H0 H σ hs _ fun v H1 e1 _ d1 => by
  cases d1
  exact ⟨b, rfl, q H1 e1⟩
theorem evT_and {a b : Bool} (h1 : EvT K tt ρ a) (h2 : a = true → EvT K tu ρ b) : EvT K (tAnd tt tu) ρ (a && b) := fun H0 H σ hs Q q => h1 H0 H σ hs _ fun H1 e1 => by
  cases a with
  | true => exact h2 rfl H0 H1 σ (hs.grow e1) Q fun H2 e2 => q H2 (e1.trans e2)
  | false => exact q H1 e1
theorem evT_or {a b : Bool} (h1 : EvT K tt ρ a) (h2 : a = false → EvT K tu ρ b) : EvT K (tOr tt tu) ρ (a || b) := fun H0 H σ hs Q q => h1 H0 H σ hs _ fun H1 e1 => by
  cases a with
  | true => exact q H1 e1
  | false => exact h2 rfl H0 H1 σ (hs.grow e1) Q fun H2 e2 => q H2 (e1.trans e2)
theorem evT_not {a : Bool} (h1 : EvT K tt ρ a) : EvT K (tNot tt) ρ (!a) := fun H0 H σ hs Q q => h1 H0 H σ hs _ fun H1 e1 => q H1 e1
theorem evF_andV {a b : Bool} (h1 : EvF K ta ρ (.bool a)) (h2 : a = true → EvF K tb ρ (.bool b)) : EvF K (tAndV ta tb) ρ (.bool (a && b)) := fun H0 H σ hs Q q => h1 H0 H σ hs _ fun v H1 e1 _ d1 => by
  cases d1
  refine ⟨a, rfl, ?_⟩
  cases a with
  | true => exact h2 rfl H0 H1 σ (hs.grow e1) Q fun v H2 e2 => q v H2 (e1.trans e2)
  | false => exact q _ H1 e1 rfl (.bl false)
theorem evF_orV {a b : Bool} (h1 : EvF K ta ρ (.bool a)) (h2 : a = false → EvF K tb ρ (.bool b)) : EvF K (tOrV ta tb) ρ (.bool (a || b)) := fun H0 H σ hs Q q => h1 H0 H σ hs _ fun v H1 e1 _ d1 => by
  cases d1
  refine ⟨a, rfl, ?_⟩
  cases a with
  | true => exact q _ H1 e1 rfl (.bl true)
  | false => exact h2 rfl H0 H1 σ (hs.grow e1) Q fun v H2 e2 => q v H2 (e1.trans e2)
theorem evF_notV {a : Bool} (h1 : EvF K ta ρ (.bool a)) : EvF K (tNotV ta) ρ (.bool (!a)) := fun H0 H σ hs Q q => h1 H0 H σ hs _ fun v H1 e1 _ d1 => by
  cases d1
  exact ⟨a, rfl, q _ H1 e1 rfl (.bl _)⟩
theorem evF_if {b : Bool} (h : EvT K tt ρ b) (h1 : b = true → EvF K ta ρ d) (h2 : b = false → EvF K tb ρ d) : EvF K (tIf tt ta tb) ρ d := fun H0 H σ hs Q q => h H0 H σ hs _ fun H1 e1 => by
  cases b with
  | true => exact h1 rfl H0 H1 σ (hs.grow e1) Q fun v H2 e2 => q v H2 (e1.trans e2)
  | false => exact h2 rfl H0 H1 σ (hs.grow e1) Q fun v H2 e2 => q v H2 (e1.trans e2)
/-- a < b < c of ints -/
theorem evF_chain {i j k : Int} {g g' : Int → Int → Bool} (ha : EvF K ta ρ (.int i)) (hb : EvF K tb ρ (.int j)) (hc : g i j = true → EvF K tc ρ (.int k)) : EvF K (tChain (rI0 fun i j => .bl (g i j)) (rI0 fun i j => .bl (g' i j)) ta tb tc) ρ (.bool (g i j && g' j k)) := fun H0 H σ hs Q q =>
  ha H0 H σ hs _ fun v H1 e1 _ d1 => hb H0 H1 σ (hs.grow e1) _ fun u H2 e2 _ d2 => by
    cases d1
    cases d2
    refine ⟨i, j, rfl, rfl, g i j, rfl, ?_⟩
    cases hg : g i j with
    | true =>
      refine hc hg H0 H2 σ (hs.grow (e1.trans e2)) _ fun w H3 e3 _ d3 => ?_
      cases d3
      rw [hg] at q
      exact ⟨j, k, rfl, rfl, q _ H3 ((e1.trans e2).trans e3) rfl (.bl _)⟩
    | false =>
      rw [hg] at q
      exact q _ H2 (e1.trans e2) rfl (.bl false)
/-! ### built-in calls -/
theorem evF_len (ha : EvV K ta ρ d) {n : Nat} (hd : (∃ ds, d = .list ds ∧ n = ds.length) ∨ (∃ ds, d = .tuple ds ∧ n = ds.length)) {r : List V → Hp → VK → Prop}
    (hr : r = fun xs H Q => ∃ p ys, xs = [.ref p] ∧ (SqL K H p ys ∨ SqT K H p ys) ∧ Q (.int ys.length) H) : EvF K (tCB r (tCons ta tNil)) ρ (.int n) := fun H0 H σ hs Q q =>
  ha H0 H σ hs _ fun v H1 e1 d1 => by
    subst hr
    rcases hd with ⟨ds, rfl, rfl⟩ | ⟨ds, rfl, rfl⟩
    · cases d1 with
      | lst h1 h2 =>
        refine ⟨_, _, rfl, .inl h1, ?_⟩
        rw [DpAll.length h2]
        exact q _ H1 e1 rfl (.int _)
    · cases d1 with
      | tup h1 h2 =>
        refine ⟨_, _, rfl, .inr h1, ?_⟩
        rw [DpAll.length h2]
        exact q _ H1 e1 rfl (.int _)
theorem evF_abs {i : Int} (ha : EvF K ta ρ (.int i)) {r : List V → Hp → VK → Prop} (hr : r = fun xs H Q => ∃ i, xs = [.int i] ∧ Q (.int (if i < 0 then -i else i)) H) : EvF K (tCB r (tCons ta tNil)) ρ (.int (if i < 0 then -i else i)) := fun H0 H σ hs Q q =>
  ha H0 H σ hs _ fun v H1 e1 _ d1 => by
    subst hr
    cases d1
    exact ⟨i, rfl, q _ H1 e1 rfl (.int _)⟩
theorem dps_bools {H : Hp} : ∀ {bs : List Bool} {xs : List V}, DpAll K H xs (bs.map .bool) → xs = bs.map V.bl
  | [], _, h => by cases h; rfl
  | b :: bs, _, h => by
    cases h with
    | cons h3 h4 => cases h3; rw [dps_bools h4]; rfl
theorem dps_ints {H : Hp} : ∀ {bs : List Int} {xs : List V}, DpAll K H xs (bs.map .int) → xs = bs.map V.int
  | [], _, h => by cases h; rfl
  | b :: bs, _, h => by
    cases h with
    | cons h3 h4 => cases h3; rw [dps_ints h4]; rfl
theorem evF_all {bs : List Bool} (ha : EvV K ta ρ (.list (bs.map .bool))) : EvF K (tCB (rAll K) (tCons ta tNil)) ρ (.bool (bs.all id)) := fun H0 H σ hs Q q =>
  ha H0 H σ hs _ fun v H1 e1 d1 => by
    cases d1 with
    | @lst a xs _ h1 h2 =>
      have e := dps_bools h2
      subst e
      exact ⟨a, bs, rfl, h1, q _ H1 e1 rfl (.bl _)⟩
theorem evF_any {bs : List Bool} (ha : EvV K ta ρ (.list (bs.map .bool))) : EvF K (tCB (rAny K) (tCons ta tNil)) ρ (.bool (bs.any id)) := fun H0 H σ hs Q q =>
  ha H0 H σ hs _ fun v H1 e1 d1 => by
    cases d1 with
    | @lst a xs _ h1 h2 =>
      have e := dps_bools h2
      subst e
      exact ⟨a, bs, rfl, h1, q _ H1 e1 rfl (.bl _)⟩
end
/-! ### calls of defs -/
/-- on such arguments it hands back that -/
def spF (K : PySem.W.Frag) (pre : List Ag → Rt → Prop) : Sp := fun vs H Q _ => ∃ ags r, Paired (AgOk K H) vs ags ∧ pre ags r ∧ ∀ v H', Ex H H' → RtOk K H H' v r → Q v H'
section
variable {K : PySem.W.Frag} {tl : TA} {ρ : List Sl} {d : PyData} {ds : List PyData} {pre : List Ag → Rt → Prop} {ags : List Ag} {E : XK}
theorem evF_call (ha : EvA K tl ρ ags) (hp : pre ags (.f d)) : EvF K (tCall (spF K pre) [] E tl) ρ d := fun H0 H σ hs Q q =>
  ha H0 H σ hs _ fun vs H1 e1 p1 => ⟨ags, .f d, by rw [List.append_nil]; exact p1, hp, fun v H' e2 ⟨f, x⟩ => q v H' (e1.trans e2) f x⟩
theorem evL_call (ha : EvA K tl ρ ags) (hp : pre ags (.l ds)) : EvL K (tCall (spF K pre) [] E tl) ρ ds := fun H0 H σ hs Q q =>
  ha H0 H σ hs _ fun vs H1 e1 p1 => ⟨ags, .l ds, by rw [List.append_nil]; exact p1, hp, fun v H' e2 ⟨a, vs, h1, h2, h3, f, x⟩ => by
    subst h1
    exact q a vs H' (e1.trans e2) (Ex.none e1 h2) h3 (Els.of_flat f x)⟩
end
end PF

namespace PF
open PySem PySem.Spec PyProof.Rows L2
open Evl (Ex)
variable {K : PySem.W.Frag}
section
variable {H0 H H' H0' : Hp} {σ : L2.St} {ρ : List Sl}
/-- one slot's part changes, the others stay -/
theorem ok_away (k : Kt H H') : ∀ {σ : L2.St} {ρ : List Sl} {i : Nat} {s s' : Sl}, Paired (SlOk K H0 H) σ ρ → (ρ.flatMap Sl.fp).Nodup → ρ[i]? = some s → (∀ b, b ∉ s.fp → ∀ o, H b = some o → H' b = some o) →
    (∀ x, σ[i]? = some x → SlOk K H0 H' x s') → Paired (SlOk K H0 H') σ (ρ.set i s')
  | _, _, _, _, _, .nil, _, h, _, _ => by simp at h
  | x :: σ, r :: ρ, 0, s, s', .cons a t, nd, h, e, g => by
    simp at h; subst h
    rw [List.flatMap_cons, List.nodup_append] at nd
    rw [List.set_cons_zero]
    refine .cons (g x rfl) ?_
    have q : ∀ s ∈ ρ, ∀ b ∈ s.fp, b ∉ r.fp := fun s hs b hb hr => nd.2.2 b hr b (List.mem_flatMap.mpr ⟨s, hs, hb⟩) rfl
    clear nd g a
    induction t with
    | nil => exact .nil
    | @cons p m _ _ a t ih => exact .cons (a.away k fun b hb o ho => e b (q m (List.mem_cons_self ..) b hb) o ho) (ih fun s hs => q s (List.mem_cons_of_mem _ hs))
  | x :: σ, r :: ρ, i + 1, s, s', .cons a t, nd, h, e, g => by
    rw [List.flatMap_cons, List.nodup_append] at nd
    rw [List.set_cons_succ]
    have hm : s ∈ ρ := by
      have h' : ρ[i]? = some s := by simpa using h
      exact List.mem_of_getElem? h'
    refine .cons (a.away k fun b hb o ho => e b (fun q => nd.2.2 b hb b (List.mem_flatMap.mpr ⟨s, hm, q⟩) rfl) o ho) (ok_away k t nd.2.1 (by simpa using h) e fun y hy => g y (by simpa using hy))
theorem fp_set_sub : ∀ (ρ : List Sl) (i : Nat) (s s' : Sl), ρ[i]? = some s → s'.fp.Sublist s.fp → ((ρ.set i s').flatMap Sl.fp).Sublist (ρ.flatMap Sl.fp)
  | [], _, _, _, h, _ => by simp at h
  | r :: ρ, 0, s, s', h, g => by
    simp at h; subst h
    rw [List.set_cons_zero, List.flatMap_cons, List.flatMap_cons]
    exact g.append (List.Sublist.refl _)
  | r :: ρ, i + 1, s, s', h, g => by
    rw [List.set_cons_succ, List.flatMap_cons, List.flatMap_cons]
    exact (List.Sublist.refl _).append (fp_set_sub ρ i s s' (by simpa using h) g)
/-- an own object of slot i changes -/
theorem Sd.chg (h : Sd K H0 H σ ρ) {i : Nat} {s s' : Sl} {p : Addr} {o u : HO} (hi : ρ[i]? = some s) (hp : p ∈ s.fp) (ho : H p = some o) (hm : Mut (some o)) (hf : s'.fp.Sublist s.fp)
    (g : ∀ x, σ[i]? = some x → SlOk K H0 H x s → SlOk K H0 (upd H p u) x s') : Sd K H0 (upd H p u) σ (ρ.set i s') := by
  have hn : H0 p = none := h.new p (List.mem_flatMap.mpr ⟨s, List.mem_of_getElem? hi, hp⟩)
  refine ⟨fun b z e => ?_, ok_away (Kt.upd ho hm) h.ok h.nd hi (fun b hb z e => ?_) (fun x hx => ?_), nodup_sub (fp_set_sub ρ i s s' hi hf) h.nd, fun a ha => h.new a ((fp_set_sub ρ i s s' hi hf).subset ha)⟩
  · rw [upd_ne (ne_of_none e hn)]
    exact h.ex _ _ e
  · rw [upd_ne (fun z => hb (by rw [z]; exact hp))]
    exact e
  · obtain ⟨y, e, r⟩ := h.at hi
    rw [hx] at e
    cases e
    exact g x hx r
/-- an object that is nobody's changes -/
theorem Sd.mut (h : Sd K H0 H σ ρ) {p : Addr} {o u : HO} (hn : H0 p = none) (hp : p ∉ ρ.flatMap Sl.fp) (ho : H p = some o) (hm : Mut (some o)) : Sd K H0 (upd H p u) σ ρ := by
  refine ⟨fun b z e => ?_, ?_, h.nd, h.new⟩
  · rw [upd_ne (ne_of_none e hn)]
    exact h.ex _ _ e
  · have hok := h.ok
    clear h
    induction hok with
    | nil => exact .nil
    | @cons x s _ _ a t ih =>
      rw [List.flatMap_cons, List.mem_append, not_or] at hp
      refine .cons (a.away (Kt.upd ho hm) fun b hb z e => ?_) (ih hp.2)
      rw [upd_ne (fun z => hp.1 (by rw [← z]; exact hb))]
      exact e
/-- all but the own parts becomes base -/
theorem Sd.commit (h : Sd K H0 H σ ρ) : ∃ H0', Ex H0 H0' ∧ Sd K H0' H σ ρ ∧ ∀ b o, H b = some o → b ∉ ρ.flatMap Sl.fp → H0' b = some o := by
  refine ⟨fun b => if b ∈ ρ.flatMap Sl.fp then none else H b, fun b o e => ?_, h.base (fun b o e => ?_) (fun b o e => ?_) (fun a ha => ?_), fun b o e hb => ?_⟩
  · have hb : b ∉ ρ.flatMap Sl.fp := fun q => by rw [h.new b q] at e; cases e
    show (if b ∈ ρ.flatMap Sl.fp then none else H b) = some o
    rw [if_neg hb]
    exact h.ex _ _ e
  · have hb : b ∉ ρ.flatMap Sl.fp := fun q => by rw [h.new b q] at e; cases e
    show (if b ∈ ρ.flatMap Sl.fp then none else H b) = some o
    rw [if_neg hb]
    exact h.ex _ _ e
  · by_cases hb : b ∈ ρ.flatMap Sl.fp
    · rw [if_pos hb] at e; cases e
    · rw [if_neg hb] at e; exact e
  · show (if a ∈ ρ.flatMap Sl.fp then none else H a) = none
    rw [if_pos ha]
  · show (if b ∈ ρ.flatMap Sl.fp then none else H b) = some o
    rw [if_neg hb]
    exact e
theorem SlOk.fp_mut {x : Option V} {s : Sl} (h : SlOk K H0 H x s) : ∀ a ∈ s.fp, ∃ o, H a = some o ∧ Mut (some o) := by
  cases s with
  | un => intro a ha; cases ha
  | fl d => intro a ha; cases ha
  | gen d => intro a ha; cases ha
  | bi C fs => intro a ha; cases ha
  | ol b ds =>
    intro a ha
    obtain ⟨_, vs, h2, _⟩ := h
    simp only [Sl.fp, List.mem_singleton] at ha
    subst ha
    exact ⟨_, h2, trivial⟩
  | oi b C fs =>
    intro a ha
    obtain ⟨_, dx, fvs, h2, h3⟩ := h
    simp only [Sl.fp] at ha
    rcases List.mem_cons.mp ha with rfl | ha
    · exact ⟨_, h2, trivial⟩
    · clear h2
      induction h3 with
      | nil => cases ha
      | @cons p q l m r t ih =>
        rw [List.flatMap_cons] at ha
        rcases List.mem_append.mp ha with ha | ha
        · obtain ⟨r1, r2⟩ := r
          obtain ⟨n, z⟩ := q
          cases z with
          | f d => cases ha
          | l c ds =>
            obtain ⟨_, vs, q2, _⟩ := r2
            simp only [Fd.fp, List.mem_singleton] at ha
            subst ha
            exact ⟨_, q2, trivial⟩
        · exact ih (List.mem_cons_of_mem _ ha) ha
  | od b kvs =>
    intro a ha
    obtain ⟨_, vs, h2, _⟩ := h
    simp only [Sl.fp, List.mem_singleton] at ha
    subst ha
    exact ⟨_, h2, trivial⟩
theorem Sd.fp_mut (h : Sd K H0 H σ ρ) : ∀ a ∈ ρ.flatMap Sl.fp, ∃ o, H a = some o ∧ Mut (some o) := fun a ha => by
  rw [List.mem_flatMap] at ha
  obtain ⟨s, hs, ha⟩ := ha
  exact pr_all (G := fun s => ∀ a ∈ s.fp, ∃ o, H a = some o ∧ Mut (some o)) (fun x s r => r.fp_mut) h.ok s hs a ha
/-- tuples are in the committed base -/
theorem Sd.commitK (h : Sd K H0 H σ ρ) (hb : ∀ b o, H b = some o → b ∉ ρ.flatMap Sl.fp → H0' b = some o) : Kt H H0' := fun a xs r => by
  rcases r with r | ⟨o, r⟩
  · exact .inl (hb _ _ r fun q => by
      obtain ⟨o, e, m⟩ := h.fp_mut a q
      rw [r] at e
      cases e
      exact m)
  · exact .inr ⟨o, hb _ _ r fun q => by
      obtain ⟨o, e, m⟩ := h.fp_mut a q
      rw [r] at e
      cases e
      exact m⟩
end
/-! ### statements -/
section
variable {te ta tb tc : TE} {tt tu : TT} {tl tr : TA} {t u : TS} {ρ : List Sl} {d d' : PyData} {ds : List PyData} {P : Po} {i j : Nat} {g : TG}
theorem w_next (h : P.nx ρ) : W K tNext ρ P := fun H0 H σ D hs nx _ _ _ => nx H0 H σ ρ (Evl.Ex.refl H0) hs h
theorem w_seq (h : W K t ρ { P with nx := fun ρ' => W K u ρ' P }) : W K (tSeq t u) ρ P := fun H0 H σ D hs nx rt bk ct =>
  h H0 H σ { D with nx := u D } hs (fun H0' H' σ' ρ' e s w => w H0' H' σ' D s (fun A B C R e' => nx A B C R (e.trans e')) (fun A B v r e' => rt A B v r (e.trans e')) (fun A B C R e' => bk A B C R (e.trans e')) (fun A B C R e' => ct A B C R (e.trans e'))) rt bk ct
theorem W.imp {P' : Po} (h : W K t ρ P) (h1 : ∀ r, P.nx r → P'.nx r) (h2 : ∀ r, P.rt r → P'.rt r) (h3 : ∀ r, P.bk r → P'.bk r) (h4 : ∀ r, P.ct r → P'.ct r) : W K t ρ P' := fun H0 H σ D hs nx rt bk ct =>
  h H0 H σ D hs (fun A B C R e s p => nx A B C R e s (h1 _ p)) (fun A B C R e s x p => rt A B C R e s x (h2 _ p)) (fun A B C R e s p => bk A B C R e s (h3 _ p)) (fun A B C R e s p => ct A B C R e s (h4 _ p))
theorem w_asg (h : EvF K te ρ d) (k : P.nx (ρ.set i (.fl d))) : W K (tAsg te (gName i)) ρ P := fun H0 H σ D hs nx _ _ _ =>
  h H0 H σ hs _ fun v H1 e1 f x => nx H0 H1 _ _ (Evl.Ex.refl H0) ((hs.grow e1).put (s := .fl d) ⟨v, rfl, f, x⟩ List.nodup_nil (fun _ z => nomatch z) (fun _ z => nomatch z)) k
theorem w_asgG (h : EvG K te ρ d) (k : P.nx (ρ.set i (.gen d))) : W K (tAsg te (gName i)) ρ P := fun H0 H σ D hs nx _ _ _ =>
  h H0 H σ hs _ fun v H1 e1 x => nx H0 H1 _ _ (Evl.Ex.refl H0) ((hs.grow e1).put (s := .gen d) ⟨v, rfl, x⟩ List.nodup_nil (fun _ z => nomatch z) (fun _ z => nomatch z)) k
theorem w_asgL (h : EvL K te ρ ds) (k : ∀ a, P.nx (ρ.set i (.ol a ds))) : W K (tAsg te (gName i)) ρ P := fun H0 H σ D hs nx _ _ _ =>
  h H0 H σ hs _ fun a vs H1 e1 hn ha x => nx H0 H1 _ _ (Evl.Ex.refl H0) ((hs.grow e1).put (s := .ol a ds) ⟨rfl, vs, ha, x⟩ (by simp [Sl.fp]) (fun b z => by
    simp only [Sl.fp, List.mem_singleton] at z
    subst z
    exact Ex.none hs.ex hn) (fun b z => by
    simp only [Sl.fp, List.mem_singleton] at z
    subst z
    exact hs.fresh hn)) (k a)
/-- a fresh list that nobody will change -/
theorem w_asgLG (h : EvL K te ρ ds) (k : P.nx (ρ.set i (.gen (.list ds)))) : W K (tAsg te (gName i)) ρ P := fun H0 H σ D hs nx _ _ _ =>
  h H0 H σ hs _ fun a vs H1 e1 hn ha x => by
    have h1 := hs.grow e1
    obtain ⟨H0', e0, h2, hb⟩ := h1.commit
    have kt := h1.commitK hb
    have hx : Dp K H0' (.ref a) (.list ds) := .lst (.inl (.inl (hb a _ ha (hs.fresh hn)))) (DpAll.of (pr_map (fun v d r => by
      rcases r with r | r
      · exact dp_kt kt _ _ r.1 r.2
      · exact dp_ex e0 _ _ r) x))
    exact nx H0' H1 _ _ e0 (h2.put (s := .gen (.list ds)) ⟨_, rfl, hx⟩ List.nodup_nil (fun _ z => nomatch z) (fun _ z => nomatch z)) k
theorem w_if {b : Bool} (h : EvT K tt ρ b) (h1 : b = true → W K t ρ P) (h2 : b = false → W K u ρ P) : W K (tIfS tt t u) ρ P := fun H0 H σ D hs nx rt bk ct =>
  h H0 H σ hs _ fun H1 e1 => by
    cases b with
    | true => exact h1 rfl H0 H1 σ D (hs.grow e1) nx rt bk ct
    | false => exact h2 rfl H0 H1 σ D (hs.grow e1) nx rt bk ct
theorem w_ret (h : EvF K te ρ d) (k : P.rt (.f d)) : W K (tRet te) ρ P := fun H0 H σ D hs nx rt bk ct =>
  h H0 H σ hs _ fun v H1 e1 f x => rt H0 H1 v (.f d) (Evl.Ex.refl H0) (hs.ex.trans e1) ⟨f, x⟩ k
theorem w_retL (h : EvL K te ρ ds) (f : flats ds = true) (k : P.rt (.l ds)) : W K (tRet te) ρ P := fun H0 H σ D hs nx rt bk ct =>
  h H0 H σ hs _ fun a vs H1 e1 hn ha x => rt H0 H1 _ (.l ds) (Evl.Ex.refl H0) (hs.ex.trans e1) ⟨a, vs, rfl, Ex.none hs.ex hn, ha, f, x.dp (hs.ex.trans e1)⟩ k
theorem w_retV {a : Addr} (h : ρ[i]? = some (.ol a ds)) (f : flats ds = true) (k : P.rt (.l ds)) : W K (tRet (tVar i)) ρ P := fun H0 H σ D hs nx rt bk ct => by
  obtain ⟨x, e, rfl, vs, h2, h3⟩ := hs.at h
  exact ⟨_, e, rt H0 H _ (.l ds) (Evl.Ex.refl H0) hs.ex ⟨a, vs, rfl, hs.new a (List.mem_flatMap.mpr ⟨_, List.mem_of_getElem? h, by simp [Sl.fp]⟩), h2, f, h3.dp hs.ex⟩ k⟩
theorem w_retN (k : P.rt (.f .none)) : W K tRetN ρ P := fun H0 H σ D hs nx rt bk ct => rt H0 H .non (.f .none) (Evl.Ex.refl H0) hs.ex ⟨rfl, .non⟩ k
theorem w_drop (h : EvV K te ρ d) (k : P.nx ρ) : W K (tDrop te) ρ P := fun H0 H σ D hs nx rt bk ct =>
  h H0 H σ hs _ fun v H1 e1 x => nx H0 H1 σ ρ (Evl.Ex.refl H0) (hs.grow e1) k
theorem w_break (k : P.bk ρ) : W K tBreak ρ P := fun H0 H σ D hs nx rt bk ct => bk H0 H σ ρ (Evl.Ex.refl H0) hs k
theorem w_cont (k : P.ct ρ) : W K tCont ρ P := fun H0 H σ D hs nx rt bk ct => ct H0 H σ ρ (Evl.Ex.refl H0) hs k
theorem w_aug {x y : Int} {f : Int → Int → Int} (hx : ρ[i]? = some (.fl (.int x))) (h : EvF K te ρ (.int y)) (k : P.nx (ρ.set i (.fl (.int (f x y))))) : W K (tAug i te (ipI f)) ρ P := fun H0 H σ D hs nx _ _ _ => by
  obtain ⟨z, e, v, rfl, _, r⟩ := hs.at hx
  cases r
  refine ⟨_, e, h H0 H σ hs _ fun u H1 e1 _ r2 => ?_⟩
  cases r2
  exact ⟨x, y, rfl, rfl, nx H0 H1 _ _ (Evl.Ex.refl H0) ((hs.grow e1).put (s := .fl (.int (f x y))) ⟨_, rfl, rfl, .int _⟩ List.nodup_nil (fun _ z => nomatch z) (fun _ z => nomatch z)) k⟩
theorem w_par {x y : PyData} (h : EvFs K tl ρ [x, y]) (k : P.nx ((ρ.set i (.fl x)).set j (.fl y))) : W K (tPar i j tl) ρ P := fun H0 H σ D hs nx _ _ _ =>
  h H0 H σ hs _ fun vs H1 e1 f dd => by
    cases dd with
    | cons d1 r =>
      cases r with
      | cons d2 r =>
        cases r
        rw [flats, flats, Bool.and_eq_true, Bool.and_eq_true] at f
        refine ⟨_, _, rfl, nx H0 H1 _ _ (Evl.Ex.refl H0) (((hs.grow e1).put (s := .fl x) ⟨_, rfl, f.1, d1⟩ List.nodup_nil (fun _ z => nomatch z) (fun _ z => nomatch z)).put (s := .fl y) ⟨_, rfl, f.2.1, d2⟩ List.nodup_nil (fun _ z => nomatch z) (fun _ z => nomatch z)) k⟩
/-! own lists that change -/
theorem set_self {α : Type} {l : List α} {i : Nat} {x : α} (h : l[i]? = some x) : l.set i x = l := by
  obtain ⟨hi, e⟩ := List.getElem?_eq_some_iff.mp h
  subst e
  exact List.set_getElem_self hi
theorem w_app {a : Addr} (hi : ρ[i]? = some (.ol a ds)) (h : EvF K te ρ d) (hz : ds.length < 100000) (k : P.nx (ρ.set i (.ol a (ds ++ [d])))) : W K (tDrop (tBM K "list" rAppend (tVar i) (tCons te tNil))) ρ P := fun H0 H σ D hs nx _ _ _ => by
  obtain ⟨z, e, rfl, vs, h2, h3⟩ := hs.at hi
  refine ⟨_, e, .inl ⟨rfl, _, .inl (.inl h2)⟩, h H0 H σ hs _ fun v H1 e1 f x => ?_⟩
  have hs1 := hs.grow e1
  have e2 := e1 _ _ h2
  refine ⟨a, vs, v, rfl, rfl, e2, Evl.sz_lt (by rw [pr_len h3]; exact hz), ?_⟩
  refine nx H0 _ σ _ (Evl.Ex.refl H0) (hs1.chg (s := .ol a ds) (s' := .ol a (ds ++ [d])) hi (by simp [Sl.fp]) e2 trivial (List.Sublist.refl _) fun y hy r => ?_) k
  obtain ⟨q1, ws, q2, q3⟩ := r
  rw [e2] at q2
  cases q2
  exact ⟨q1, vs ++ [v], upd_same, pr_app (q3.kt (Kt.upd e2 trivial)) (.cons (.inl ⟨f, dp_kt (Kt.upd e2 trivial) _ _ f x⟩) .nil)⟩
theorem w_appG {a : Addr} (hi : ρ[i]? = some (.ol a ds)) (h : EvG K te ρ d) (hz : ds.length < 100000) (k : P.nx (ρ.set i (.ol a (ds ++ [d])))) : W K (tDrop (tBM K "list" rAppend (tVar i) (tCons te tNil))) ρ P := fun H0 H σ D hs nx _ _ _ => by
  obtain ⟨z, e, rfl, vs, h2, h3⟩ := hs.at hi
  refine ⟨_, e, .inl ⟨rfl, _, .inl (.inl h2)⟩, h H0 H σ hs _ fun v H1 e1 x => ?_⟩
  have hs1 := hs.grow e1
  have e2 := e1 _ _ h2
  refine ⟨a, vs, v, rfl, rfl, e2, Evl.sz_lt (by rw [pr_len h3]; exact hz), ?_⟩
  refine nx H0 _ σ _ (Evl.Ex.refl H0) (hs1.chg (s := .ol a ds) (s' := .ol a (ds ++ [d])) hi (by simp [Sl.fp]) e2 trivial (List.Sublist.refl _) fun y hy r => ?_) k
  obtain ⟨q1, ws, q2, q3⟩ := r
  rw [e2] at q2
  cases q2
  exact ⟨q1, vs ++ [v], upd_same, pr_app (q3.kt (Kt.upd e2 trivial)) (.cons (.inr x) .nil)⟩
theorem getLast_pr {α β : Type} {F : α → β → Prop} {l : List α} {m : List β} (p : Paired F l m) (h : m ≠ []) : ∃ x, l[l.length - 1]? = some x := by
  have e := pr_len p
  have hl : 0 < m.length := List.length_pos_iff.mpr h
  exact ⟨l[l.length - 1]'(by omega), List.getElem?_eq_getElem _⟩
theorem w_pop {a : Addr} (hi : ρ[i]? = some (.ol a ds)) (hz : ds ≠ []) (k : P.nx (ρ.set i (.ol a ds.dropLast))) : W K (tDrop (tBM0 K "list" rPop (tVar i))) ρ P := fun H0 H σ D hs nx _ _ _ => by
  obtain ⟨z, e, rfl, vs, h2, h3⟩ := hs.at hi
  obtain ⟨y, hy⟩ := getLast_pr h3 hz
  refine ⟨_, e, .inl ⟨rfl, _, .inl (.inl h2)⟩, a, vs, y, rfl, rfl, h2, hy, ?_⟩
  refine nx H0 _ σ _ (Evl.Ex.refl H0) (hs.chg (s := .ol a ds) (s' := .ol a ds.dropLast) hi (by simp [Sl.fp]) h2 trivial (List.Sublist.refl _) fun y hy r => ?_) k
  obtain ⟨q1, ws, q2, q3⟩ := r
  rw [h2] at q2
  cases q2
  exact ⟨q1, vs.dropLast, upd_same, pr_dropLast (q3.kt (Kt.upd h2 trivial))⟩
theorem w_clear {a : Addr} (hi : ρ[i]? = some (.ol a ds)) (k : P.nx (ρ.set i (.ol a []))) : W K (tDrop (tBM0 K "list" rClear (tVar i))) ρ P := fun H0 H σ D hs nx _ _ _ => by
  obtain ⟨z, e, rfl, vs, h2, h3⟩ := hs.at hi
  refine ⟨_, e, .inl ⟨rfl, _, .inl (.inl h2)⟩, a, vs, rfl, rfl, h2, ?_⟩
  refine nx H0 _ σ _ (Evl.Ex.refl H0) (hs.chg (s := .ol a ds) (s' := .ol a []) hi (by simp [Sl.fp]) h2 trivial (List.Sublist.refl _) fun y hy r => ?_) k
  exact ⟨r.1, [], upd_same, .nil⟩
theorem w_reverse {a : Addr} (hi : ρ[i]? = some (.ol a ds)) (k : P.nx (ρ.set i (.ol a ds.reverse))) : W K (tDrop (tBM0 K "list" rReverse (tVar i))) ρ P := fun H0 H σ D hs nx _ _ _ => by
  obtain ⟨z, e, rfl, vs, h2, h3⟩ := hs.at hi
  refine ⟨_, e, .inl ⟨rfl, _, .inl (.inl h2)⟩, a, vs, rfl, rfl, h2, ?_⟩
  refine nx H0 _ σ _ (Evl.Ex.refl H0) (hs.chg (s := .ol a ds) (s' := .ol a ds.reverse) hi (by simp [Sl.fp]) h2 trivial (List.Sublist.refl _) fun y hy r => ?_) k
  obtain ⟨q1, ws, q2, q3⟩ := r
  rw [h2] at q2
  cases q2
  exact ⟨q1, vs.reverse, upd_same, pr_rev (q3.kt (Kt.upd h2 trivial))⟩
/-- xs[k] = e -/
theorem w_setL {a : Addr} {n : Int} {m : Nat} (hi : ρ[i]? = some (.ol a ds)) (h : EvF K te ρ d) (hn : EvF K tb ρ (.int n)) (hm : ixN ds.length n = some m) (k : P.nx (ρ.set i (.ol a (ds.set m d)))) : W K (tAsg te (gSub (tVar i) tb rSetL)) ρ P := fun H0 H σ D hs nx _ _ _ => by
  refine h H0 H σ hs _ fun v H1 e1 f x => ?_
  have hs1 := hs.grow e1
  obtain ⟨z, e, rfl, vs, h2, h3⟩ := hs1.at hi
  refine ⟨_, e, hn H0 H1 σ hs1 _ fun w H2 e2 _ y => ?_⟩
  cases y
  have hs2 := hs1.grow e2
  have h4 := e2 _ _ h2
  refine ⟨a, vs, n, m, rfl, rfl, h4, by rw [pr_len h3]; exact hm, ?_⟩
  refine nx H0 _ σ _ (Evl.Ex.refl H0) (hs2.chg (s := .ol a ds) (s' := .ol a (ds.set m d)) hi (by simp [Sl.fp]) h4 trivial (List.Sublist.refl _) fun y hy r => ?_) k
  obtain ⟨q1, ws, q2, q3⟩ := r
  rw [h4] at q2
  cases q2
  exact ⟨q1, vs.set m v, upd_same, pr_set (.inl ⟨f, dp_kt (Kt.upd h4 trivial) _ _ f (dp_ex e2 _ _ x)⟩) m (q3.kt (Kt.upd h4 trivial))⟩
/-! ### targets -/
theorem wipe_set {σ : L2.St} {x : Option V} : ∀ {vs : List Nat} {j : Nat}, j ∈ vs → wipe (σ.set j x) vs = wipe σ vs
  | [], _, h => by cases h
  | v :: vs, j, h => by
    show (wipe (σ.set j x) vs).set v none = (wipe σ vs).set v none
    by_cases q : j ∈ vs
    · rw [wipe_set q]
    · rcases List.mem_cons.mp h with rfl | h
      · have c : ∀ (ws : List Nat), j ∉ ws → wipe (σ.set j x) ws = (wipe σ ws).set j x := by
          intro ws
          induction ws with
          | nil => intro _; rfl
          | cons w ws ih =>
            intro hw
            rw [List.mem_cons, not_or] at hw
            show (wipe (σ.set j x) ws).set w none = ((wipe σ ws).set w none).set j x
            rw [ih hw.2, List.set_comm _ _ hw.1]
        rw [c vs q, List.set_set]
      · exact absurd h q
theorem wipe_idem {σ : L2.St} : ∀ {vs : List Nat}, wipe (wipe σ vs) vs = wipe σ vs := by
  intro vs
  have c : ∀ ws : List Nat, (∀ w ∈ ws, w ∈ vs) → wipe (wipe σ ws) vs = wipe σ vs := by
    intro ws
    induction ws with
    | nil => intro _; rfl
    | cons w ws ih =>
      intro hw
      show wipe ((wipe σ ws).set w none) vs = wipe σ vs
      rw [wipe_set (hw w (List.mem_cons_self ..))]
      exact ih fun z hz => hw z (List.mem_cons_of_mem _ hz)
  exact c vs fun _ h => h
/-- a target takes d: the slots js change -/
def BdG (K : PySem.W.Frag) (g : TG) (js : List Nat) (ρ : List Sl) (d : PyData) (ρ' : List Sl) : Prop := ∀ H0 H σ v, Sd K H0 H σ ρ → El K H0 H v d → ∀ Q : L2.St → Hp → Prop, (∀ σ', Sd K H0 H σ' ρ' → (∀ vs : List Nat, (∀ j ∈ js, j ∈ vs) → wipe σ' vs = wipe σ vs) → Q σ' H) → g v σ H Q
theorem bd_name (f : flat d = true) : BdG K (gName j) [j] ρ d (ρ.set j (.fl d)) := fun H0 H σ v hs hv Q q =>
  q _ (hs.put (s := .fl d) ⟨v, rfl, f, hv.dp hs.ex⟩ List.nodup_nil (fun _ z => nomatch z) (fun _ z => nomatch z)) fun vs h => wipe_set (h j (List.mem_singleton.mpr rfl))
theorem bd_nameG (f : flat d = false) : BdG K (gName j) [j] ρ d (ρ.set j (.gen d)) := fun H0 H σ v hs hv Q q => by
  rcases hv with hv | hv
  · rw [f] at hv
    exact absurd hv.1 Bool.false_ne_true
  · exact q _ (hs.put (s := .gen d) ⟨v, rfl, hv⟩ List.nodup_nil (fun _ z => nomatch z) (fun _ z => nomatch z)) fun vs h => wipe_set (h j (List.mem_singleton.mpr rfl))
theorem bd_tup2 {x y : PyData} (f : flat (.tuple [x, y]) = true) : BdG K (gTup K 2 (gCons (gName i) (gCons (gName j) gNil))) [i, j] ρ (.tuple [x, y]) ((ρ.set i (.fl x)).set j (.fl y)) := fun H0 H σ v hs hv Q q => by
  have hd := hv.dp hs.ex
  simp only [flat, flats, Bool.and_eq_true] at f
  cases hd with
  | tup h1 h2 =>
    cases h2 with
    | cons a b =>
      cases b with
      | cons b c =>
        cases c
        refine ⟨_, _, rfl, h1, rfl, _, _, rfl, _, _, rfl, rfl, ?_⟩
        refine q _ ((hs.put (s := .fl x) ⟨_, rfl, f.1, a⟩ List.nodup_nil (fun _ z => nomatch z) (fun _ z => nomatch z)).put (s := .fl y) ⟨_, rfl, f.2.1, b⟩ List.nodup_nil (fun _ z => nomatch z) (fun _ z => nomatch z)) fun vs h => ?_
        rw [wipe_set (h j (by simp)), wipe_set (h i (by simp))]
/-- target = value, any target -/
theorem w_asgT {js : List Nat} {ρ' : List Sl} (h : EvF K te ρ d) (hg : BdG K g js ρ d ρ') (k : P.nx ρ') : W K (tAsg te g) ρ P := fun H0 H σ D hs nx _ _ _ =>
  h H0 H σ hs _ fun v H1 e1 f x => hg H0 H1 σ v (hs.grow e1) (.inl ⟨f, x⟩) _ fun σ' hs' _ => nx H0 H1 _ _ (Evl.Ex.refl H0) hs' k
/-! ### loops -/
/-- over a list of the base -/
theorem w_forG (h : EvG K (ta) ρ (.list ds)) (Inv : Nat → List Sl → Prop) (h0 : Inv 0 ρ)
    (hb : ∀ i d ρ', ds[i]? = some d → Inv i ρ' → ∃ js ρ2, BdG K g js ρ' d ρ2 ∧ W K t ρ2 { nx := Inv (i + 1), ct := Inv (i + 1), bk := P.nx, rt := P.rt })
    (hd : ∀ ρ', Inv ds.length ρ' → P.nx ρ') : W K (tFor (iList K ta) g t) ρ P := fun H0 H σ D hs nx rt bk ct =>
  h H0 H σ hs _ fun v H1 e1 x => by
    have hs1 := hs.grow e1
    cases x with
    | @lst a xs _ hq hd' =>
      have hp := DpAll.pr hd'
      refine ⟨a, rfl, ⟨xs, Evl.ex_l hs1.ex hq⟩, for_list (K := K) (xs := xs) (fun i σ' H' => ∃ H0' ρ', Ex H0 H0' ∧ Sd K H0' H' σ' ρ' ∧ Inv i ρ') ⟨H0, ρ, Evl.Ex.refl H0, hs1, h0⟩
        (fun i σ' H' _ ⟨H0', ρ', e, s, _⟩ => Evl.ex_l (e.trans s.ex) hq) (fun i y σ' H' hy ⟨H0', ρ', e, s, iv⟩ => ?_) (fun σ' H' ⟨H0', ρ', e, s, iv⟩ => ?_)⟩
      · obtain ⟨d, hdd, hx⟩ := pr_at' hp hy
        obtain ⟨js, ρ2, bg, w⟩ := hb i d ρ' hdd iv
        refine bg H0' H' σ' y s (.inr (dp_ex e _ _ hx)) _ fun σ2 s2 _ => ?_
        exact w H0' H' σ2 _ s2 (fun A B C R e' s' p => ⟨A, R, e.trans e', s', p⟩) (fun A B v r e' => rt A B v r (e.trans e')) (fun A B C R e' s' p => nx A B C R (e.trans e') s' p) (fun A B C R e' s' p => ⟨A, R, e.trans e', s', p⟩)
      · rw [pr_len hp] at iv
        exact nx H0' H' σ' ρ' e s (hd ρ' iv)
/-- over a fresh list -/
theorem w_forN (h : EvL K (ta) ρ ds) (Inv : Nat → List Sl → Prop) (h0 : Inv 0 ρ)
    (hb : ∀ i d ρ', ds[i]? = some d → Inv i ρ' → ∃ js ρ2, BdG K g js ρ' d ρ2 ∧ W K t ρ2 { nx := Inv (i + 1), ct := Inv (i + 1), bk := P.nx, rt := P.rt })
    (hd : ∀ ρ', Inv ds.length ρ' → P.nx ρ') : W K (tFor (iList K ta) g t) ρ P := fun H0 H σ D hs nx rt bk ct =>
  h H0 H σ hs _ fun a xs H1 e1 hn ha hp => by
    have hs1 := hs.grow e1
    obtain ⟨Hb, eb, hsb, hc⟩ := hs1.commit
    have hq : SqL K Hb a xs := .inl (.inl (hc a _ ha (hs.fresh hn)))
    refine ⟨a, rfl, ⟨xs, .inl (.inl ha)⟩, for_list (K := K) (xs := xs) (fun i σ' H' => ∃ H0' ρ', Ex Hb H0' ∧ Sd K H0' H' σ' ρ' ∧ Inv i ρ') ⟨Hb, ρ, Evl.Ex.refl Hb, hsb, h0⟩
        (fun i σ' H' _ ⟨H0', ρ', e, s, _⟩ => Evl.ex_l (e.trans s.ex) hq) (fun i y σ' H' hy ⟨H0', ρ', e, s, iv⟩ => ?_) (fun σ' H' ⟨H0', ρ', e, s, iv⟩ => ?_)⟩
    · obtain ⟨d, hdd, hx⟩ := pr_at' hp hy
      obtain ⟨js, ρ2, bg, w⟩ := hb i d ρ' hdd iv
      have hx' : El K H0' H' y d := by
        rcases hx with hx | hx
        · exact .inr (dp_ex e _ _ (dp_kt (hs1.commitK hc) _ _ hx.1 hx.2))
        · exact .inr (dp_ex (eb.trans e) _ _ hx)
      refine bg H0' H' σ' y s hx' _ fun σ2 s2 _ => ?_
      exact w H0' H' σ2 _ s2 (fun A B C R e' s' p => ⟨A, R, e.trans e', s', p⟩) (fun A B v r e' => rt A B v r (eb.trans (e.trans e'))) (fun A B C R e' s' p => nx A B C R (eb.trans (e.trans e')) s' p) (fun A B C R e' s' p => ⟨A, R, e.trans e', s', p⟩)
    · rw [pr_len hp] at iv
      exact nx H0' H' σ' ρ' (eb.trans e) s (hd ρ' iv)
/-- over an own list that stands still -/
theorem w_forO {a : Addr} {k : Nat} (h : ρ[k]? = some (.ol a ds)) (Inv : Nat → List Sl → Prop) (h0 : Inv 0 ρ) (hk : ∀ i ρ', Inv i ρ' → ρ'[k]? = some (.ol a ds))
    (hb : ∀ i d ρ', ds[i]? = some d → Inv i ρ' → ∃ js ρ2, BdG K g js ρ' d ρ2 ∧ W K t ρ2 { nx := Inv (i + 1), ct := Inv (i + 1), bk := P.nx, rt := P.rt })
    (hd : ∀ ρ', Inv ds.length ρ' → P.nx ρ') : W K (tFor (iList K (tVar k)) g t) ρ P := fun H0 H σ D hs nx rt bk ct => by
  obtain ⟨z, ez, rfl, xs, ha, hp⟩ := hs.at h
  refine ⟨_, ez, a, rfl, ⟨xs, .inl (.inl ha)⟩, fun i m σ' H' => ∃ H0' ρ', Ex H0 H0' ∧ Sd K H0' H' σ' ρ' ∧ Inv i ρ' ∧ i + m = ds.length, ⟨ds.length, H0, ρ, Evl.Ex.refl H0, hs, h0, Nat.zero_add _⟩, ?_⟩
  rintro i m σ' H' ⟨H0', ρ', e, s, iv, hm⟩
  obtain ⟨y, ey, rfl, ys, hy, hq⟩ := s.at (hk i ρ' iv)
  have hl := pr_len hq
  cases m with
  | zero => exact .inl ⟨⟨ys, .inl (.inl hy), by omega⟩, nx H0' H' σ' ρ' e s (hd ρ' (by rw [← hm]; exact iv))⟩
  | succ m =>
    have hi : i < ys.length := by omega
    refine .inr ⟨⟨ys, ys[i], .inl (.inl hy), by simp [hi]⟩, fun σ2 H2 => ∃ H0' ρ', Ex H0 H0' ∧ Sd K H0' H2 σ2 ρ' ∧ Inv (i + 1) ρ', fun σ2 H2 ⟨A, R, e2, s2, iv2⟩ => ⟨m, Nat.lt_succ_self m, A, R, e2, s2, iv2, by omega⟩, fun x H2 yl => ?_⟩
    obtain ⟨rfl, yl⟩ := yl
    have hx := yl ys (.inl (.inl hy))
    obtain ⟨d, hdd, hel⟩ := pr_at' hq hx
    obtain ⟨js, ρ2, bg, w⟩ := hb i d ρ' hdd iv
    refine bg H0' H2 σ' x s hel _ fun σ2 s2 _ => ?_
    exact w H0' H2 σ2 _ s2 (fun A B C R e' s' p => ⟨A, R, e.trans e', s', p⟩) (fun A B v r e' => rt A B v r (e.trans e')) (fun A B C R e' s' p => nx A B C R (e.trans e') s' p) (fun A B C R e' s' p => ⟨A, R, e.trans e', s', p⟩)
/-- for .. in range(n) -/
theorem w_forR {n : Int} {ta : TA} (h : EvFs K ta ρ [.int n]) (hn : n ≤ 100000 ∧ -100000 ≤ n) (Inv : Nat → List Sl → Prop) (h0 : Inv 0 ρ)
    (hb : ∀ (i : Nat) ρ', (i : Int) < n → Inv i ρ' → W K t (ρ'.set j (.fl (.int (i : Int)))) { nx := Inv (i + 1), ct := Inv (i + 1), bk := P.nx, rt := P.rt })
    (hd : ∀ ρ', Inv n.toNat ρ' → P.nx ρ') : W K (tFor (iRng1 ta) (gName j) t) ρ P := fun H0 H σ D hs nx rt bk ct =>
  h H0 H σ hs _ fun vs H1 e1 _ x => by
    have hs1 := hs.grow e1
    cases x with
    | cons x r =>
      cases x
      cases r
      refine ⟨n, rfl, by omega, by omega, for_range (lo := 0) (n := n.toNat) (fun i σ' H' => ∃ H0' ρ', Ex H0 H0' ∧ Sd K H0' H' σ' ρ' ∧ Inv i ρ') ⟨H0, ρ, Evl.Ex.refl H0, hs1, h0⟩ (fun i σ' H' hi ⟨H0', ρ', e, s, iv⟩ => ?_) (fun σ' H' ⟨H0', ρ', e, s, iv⟩ => nx H0' H' σ' ρ' e s (hd ρ' iv))⟩
      rw [Int.zero_add]
      refine hb i ρ' (by omega) iv H0' H' _ _ (s.put (s := .fl (.int (i : Int))) ⟨_, rfl, rfl, .int _⟩ List.nodup_nil (fun _ z => nomatch z) (fun _ z => nomatch z)) ?_ ?_ ?_ ?_
      · exact fun A B C R e' s' p => ⟨A, R, e.trans e', s', p⟩
      · exact fun A B v r e' => rt A B v r (e.trans e')
      · exact fun A B C R e' s' p => nx A B C R (e.trans e') s' p
      · exact fun A B C R e' s' p => ⟨A, R, e.trans e', s', p⟩
/-- for .. in range(lo, n) -/
theorem w_forR2 {lo n : Int} {ta : TA} (h : EvFs K ta ρ [.int lo, .int n]) (hn : -100000 ≤ lo ∧ lo ≤ 100000 ∧ n ≤ 100000 ∧ -100000 ≤ n) (Inv : Nat → List Sl → Prop) (h0 : Inv 0 ρ)
    (hb : ∀ (i : Nat) ρ', lo + (i : Int) < n → Inv i ρ' → W K t (ρ'.set j (.fl (.int (lo + (i : Int))))) { nx := Inv (i + 1), ct := Inv (i + 1), bk := P.nx, rt := P.rt })
    (hd : ∀ ρ', Inv (n - lo).toNat ρ' → P.nx ρ') : W K (tFor (iRng2 ta) (gName j) t) ρ P := fun H0 H σ D hs nx rt bk ct =>
  h H0 H σ hs _ fun vs H1 e1 _ x => by
    have hs1 := hs.grow e1
    cases x with
    | cons x r =>
      cases x
      cases r with
      | cons x r =>
        cases x
        cases r
        refine ⟨lo, n, rfl, by omega, for_range (lo := lo) (n := (n - lo).toNat) (fun i σ' H' => ∃ H0' ρ', Ex H0 H0' ∧ Sd K H0' H' σ' ρ' ∧ Inv i ρ') ⟨H0, ρ, Evl.Ex.refl H0, hs1, h0⟩ (fun i σ' H' hi ⟨H0', ρ', e, s, iv⟩ => ?_) (fun σ' H' ⟨H0', ρ', e, s, iv⟩ => nx H0' H' σ' ρ' e s (hd ρ' iv))⟩
        refine hb i ρ' (by omega) iv H0' H' _ _ (s.put (s := .fl (.int (lo + (i : Int)))) ⟨_, rfl, rfl, .int _⟩ List.nodup_nil (fun _ z => nomatch z) (fun _ z => nomatch z)) ?_ ?_ ?_ ?_
        · exact fun A B C R e' s' p => ⟨A, R, e.trans e', s', p⟩
        · exact fun A B v r e' => rt A B v r (e.trans e')
        · exact fun A B C R e' s' p => nx A B C R (e.trans e') s' p
        · exact fun A B C R e' s' p => ⟨A, R, e.trans e', s', p⟩
theorem w_while (Inv : Nat → List Sl → Prop) (m : Nat) (h0 : Inv m ρ)
    (hb : ∀ m ρ', Inv m ρ' → ∃ b, EvT K tt ρ' b ∧ (b = true → W K t ρ' { nx := fun ρ2 => ∃ m', m' < m ∧ Inv m' ρ2, ct := fun ρ2 => ∃ m', m' < m ∧ Inv m' ρ2, bk := P.nx, rt := P.rt }) ∧ (b = false → P.nx ρ')) : W K (tWhile tt t) ρ P := fun H0 H σ D hs nx rt bk ct => by
  refine ⟨fun m σ' H' => ∃ H0' ρ', Ex H0 H0' ∧ Sd K H0' H' σ' ρ' ∧ Inv m ρ', ⟨m, H0, ρ, Evl.Ex.refl H0, hs, h0⟩, fun m σ' H' ⟨H0', ρ', e, s, iv⟩ => ?_⟩
  obtain ⟨b, hb1, hb2, hb3⟩ := hb m ρ' iv
  refine hb1 H0' H' σ' s _ fun H1 e1 => ?_
  cases b with
  | false => exact nx H0' H1 σ' ρ' e (s.grow e1) (hb3 rfl)
  | true =>
    refine ⟨fun σ2 H2 => ∃ H0' ρ', Ex H0 H0' ∧ Sd K H0' H2 σ2 ρ' ∧ ∃ m', m' < m ∧ Inv m' ρ', fun σ2 H2 ⟨A, R, e2, s2, m', l, iv2⟩ => ⟨m', l, A, R, e2, s2, iv2⟩, ?_⟩
    refine hb2 rfl H0' H1 σ' _ (s.grow e1) ?_ ?_ ?_ ?_
    · exact fun A B C R e' s' p => ⟨A, R, e.trans e', s', p⟩
    · exact fun A B v r e' => rt A B v r (e.trans e')
    · exact fun A B C R e' s' p => nx A B C R (e.trans e') s' p
    · exact fun A B C R e' s' p => ⟨A, R, e.trans e', s', p⟩
/-! ### comprehensions -/
def wipeS (ρ : List Sl) : List Nat → List Sl
  | [] => ρ
  | v :: vs => (wipeS ρ vs).set v .un
theorem Sd.unset {H0 H : Hp} {σ : L2.St} {ρ : List Sl} (h : Sd K H0 H σ ρ) (i : Nat) (x : Option V) : Sd K H0 H (σ.set i x) (ρ.set i .un) := by
  refine ⟨h.ex, pr_set trivial i h.ok, fp_set ρ i .un (fun _ z => nomatch z) List.nodup_nil h.nd, fun a ha => ?_⟩
  rcases mem_fp_set ha with ha | ha
  · exact h.new a ha
  · cases ha
theorem Sd.wipe {H0 H : Hp} {σ : L2.St} {ρ : List Sl} (h : Sd K H0 H σ ρ) : ∀ vs : List Nat, Sd K H0 H (wipe σ vs) (wipeS ρ vs)
  | [] => h
  | v :: vs => (Sd.wipe h vs).unset v none
theorem wipeS_fp {ρ : List Sl} : ∀ {vs : List Nat} {a : Addr}, a ∈ (wipeS ρ vs).flatMap Sl.fp → a ∈ ρ.flatMap Sl.fp
  | [], _, h => h
  | v :: vs, a, h => by
    rcases mem_fp_set (i := v) (s := .un) h with h | h
    · exact wipeS_fp h
    · cases h
/-- a comprehension's state: the source's heap extended, the list made so far at A -/
theorem lc_turn {α : Type} {js vs : List Nat} {H0 H1 H : Hp} {σ : L2.St} {ρ ρ2 : List Sl} {A : Addr} {x : V} {d : PyData} {b : Bool} {v : PyData} {acc : List PyData} {acs : List V} {Nx : Hp → Prop} (hs : Sd K H0 H1 σ ρ) (hA0 : H1 A = none)
    (he : Ex H1 H) (hA : H A = some (.lst acs)) (hz : acc.length < 100000) (hacc : Els K H0 H acs acc) (hv : El K H0 H x d) (hj : ∀ j ∈ js, j ∈ vs)
    (bg : BdG K g js (wipeS ρ vs) d ρ2) (ht : EvT K tt ρ2 b) (hte : b = true → EvF K te ρ2 v)
    (hn : b = false → ∀ H', Ex H1 H' → ∀ acs, H' A = some (.lst acs) → Els K H0 H' acs acc → Nx H')
    (hy : b = true → ∀ H', Ex H1 H' → ∀ acs, H' A = some (.lst acs) → Els K H0 H' acs (acc ++ [v]) → Nx H') :
    g x (L2.wipe σ vs) H fun σ2 H2 => L2.wipe σ2 vs = L2.wipe σ vs ∧ tt σ2 H2 fun b H3 =>
      if b = true then te σ2 H3 fun y H4 => ∃ acc, H4 A = some (.lst acc) ∧ acc.length < sizeLine ∧ Nx (upd H4 A (.lst (acc ++ [y]))) else Nx H3 := by
  have hs1 := (hs.grow he).wipe vs
  refine bg H0 H _ x hs1 hv _ fun σ' hs2 hw => ⟨?_, ?_⟩
  · rw [hw vs hj, wipe_idem]
  · refine ht H0 H σ' hs2 _ fun H3 e3 => ?_
    cases b with
    | false => exact hn rfl H3 (he.trans e3) acs (e3 _ _ hA) (hacc.kt (.of_ex e3))
    | true =>
      refine hte rfl H0 H3 σ' (hs2.grow e3) _ fun y H4 e4 f4 x4 => ?_
      have e34 := e3.trans e4
      have hA4 := e34 _ _ hA
      refine ⟨acs, hA4, Evl.sz_lt (by rw [pr_len hacc]; exact hz), hy rfl _ ?_ _ upd_same ?_⟩
      · exact Evl.Ex.mut (he.trans e34) hA0
      · exact pr_app ((hacc.kt (.of_ex e34)).kt (Kt.upd hA4 trivial)) (.cons (.inl ⟨f4, dp_kt (Kt.upd hA4 trivial) _ _ f4 x4⟩) .nil)
/-- what a comprehension over items gives -/
def lcOf {α : Type} (xs : List α) (f : α → Bool) (v : α → PyData) : List PyData := (xs.filter f).map v
theorem lcOf_take {α : Type} {xs : List α} {f : α → Bool} {v : α → PyData} {i : Nat} {x : α} (h : xs[i]? = some x) : lcOf (xs.take (i + 1)) f v = if f x = true then lcOf (xs.take i) f v ++ [v x] else lcOf (xs.take i) f v := by
  unfold lcOf
  rw [List.take_add_one, h]
  show ((xs.take i ++ [x]).filter f).map v = _
  rw [List.filter_append, List.map_append, List.filter_cons]
  cases f x <;> simp
theorem lcOf_len {α : Type} (xs : List α) (f : α → Bool) (v : α → PyData) : (lcOf xs f v).length ≤ xs.length := by
  unfold lcOf
  rw [List.length_map]
  exact List.length_filter_le _ _
theorem evL_lc {α : Type} {js vs : List Nat} (xs : List α) (en : α → PyData) (f : α → Bool) (v : α → PyData) (h : (EvV K ta ρ (.list (xs.map en)) ∧ ∀ x ∈ xs, flat (en x) = true) ∨ EvG K ta ρ (.list (xs.map en))) (hj : ∀ j ∈ js, j ∈ vs) (hz : xs.length ≤ 90000)
    (hb : ∀ x ∈ xs, ∃ ρ2, BdG K g js (wipeS ρ vs) (en x) ρ2 ∧ EvT K tt ρ2 (f x) ∧ (f x = true → EvF K te ρ2 (v x))) : EvL K (tLc (iList K ta) g tt te vs) ρ (lcOf xs f v) := fun H0 H σ hs Q q => by
  have main : ∀ (u : V) (H1 : Hp), Ex H H1 → (∃ a us, u = .ref a ∧ SqL K H1 a us ∧ Paired (El K H0 H1) us (xs.map en)) →
      ∃ a, u = .ref a ∧ (∃ us, SqL K H1 a us) ∧ ∀ A, H1 A = none → ∃ W : Nat → Nat → Hp → Prop, (∃ m, W 0 m (upd H1 A (.lst []))) ∧ ∀ i m H, W i m H →
      ((Itl K a).stop i H ∧ Q (.ref A) H) ∨ ((Itl K a).go i H ∧ ∃ Nx : Hp → Prop, (∀ H', Nx H' → ∃ m', m' < m ∧ W (i + 1) m' H') ∧ ∀ x H', (Itl K a).yld i H x H' → g x (L2.wipe σ vs) H' fun σ2 H2 => L2.wipe σ2 vs = L2.wipe σ vs ∧ tt σ2 H2 fun b H3 =>
        if b = true then te σ2 H3 fun y H4 => ∃ acc, H4 A = some (.lst acc) ∧ acc.length < sizeLine ∧ Nx (upd H4 A (.lst (acc ++ [y]))) else Nx H3) := by
    rintro _ H1 e1 ⟨a, us, rfl, hq, hp⟩
    have hs1 := hs.grow e1
    have hl : us.length = xs.length := by rw [pr_len hp, List.length_map]
    refine ⟨a, rfl, ⟨us, hq⟩, fun A hA => lc_list (xs := us) (fun i H' => Ex H1 H' ∧ ∃ acs, H' A = some (.lst acs) ∧ Els K H0 H' acs (lcOf (xs.take i) f v)) ⟨Evl.Ex.new hA, [], upd_same, ?_⟩ (fun i H' _ p => Evl.ex_l p.1 hq) (fun i x H' hx p => ?_) (fun H' p => ?_)⟩
    · show Els K H0 _ [] (lcOf [] f v)
      exact .nil
    · obtain ⟨e2, acs, hA2, hacc⟩ := p
      obtain ⟨d, hd, hel⟩ := pr_at' hp hx
      rw [List.getElem?_map] at hd
      cases hxi : xs[i]? with
      | none => rw [hxi] at hd; cases hd
      | some y =>
        rw [hxi] at hd
        cases hd
        obtain ⟨ρ2, bg, ht, hte⟩ := hb y (List.mem_of_getElem? hxi)
        have hi : i < xs.length := by
          have := (List.getElem?_eq_some_iff.mp hxi).1
          omega
        refine lc_turn (α := α) hs1 hA e2 hA2 (Nat.lt_of_le_of_lt (lcOf_len _ f v) (by rw [List.length_take]; omega)) hacc (hel.kt (.of_ex e2)) hj bg ht hte (fun hf H3 e3 acs3 h3 x3 => ⟨e3, acs3, h3, ?_⟩) (fun hf H3 e3 acs3 h3 x3 => ⟨e3, acs3, h3, ?_⟩)
        · rw [lcOf_take hxi, hf]; exact x3
        · rw [lcOf_take hxi, hf]; exact x3
    · obtain ⟨e2, acs, hA2, hacc⟩ := p
      rw [hl, List.take_length] at hacc
      exact q A acs H' (e1.trans e2) (Ex.none e1 hA) hA2 hacc
  rcases h with ⟨h, hf⟩ | h
  · refine h H0 H σ hs _ fun u H1 e1 x => main u H1 e1 ?_
    cases x with
    | @lst a us _ hq hd =>
      refine ⟨a, us, rfl, hq, ?_⟩
      have hd' := DpAll.pr hd
      clear hd hq
      have hf' : ∀ d ∈ xs.map en, flat d = true := fun d hd => by
        obtain ⟨x, hx, rfl⟩ := List.mem_map.mp hd
        exact hf x hx
      clear hb hf
      generalize xs.map en = ds at hd' hf'
      induction hd' with
      | nil => exact .nil
      | cons a t ih => exact .cons (.inl ⟨hf' _ (List.mem_cons_self ..), a⟩) (ih fun d hd => hf' d (List.mem_cons_of_mem _ hd))
  · refine h H0 H σ hs _ fun u H1 e1 x => main u H1 e1 ?_
    cases x with
    | @lst a us _ hq hd => exact ⟨a, us, rfl, Evl.ex_l (hs.ex.trans e1) hq, Els.of_base hd⟩
/-- over range(n) -/
theorem evL_lcR {n : Int} {vs : List Nat} {ta : TA} (f : Int → Bool) (v : Int → PyData) (h : EvFs K ta ρ [.int n]) (hz : n ≤ 90000 ∧ -90000 ≤ n) (hj : j ∈ vs)
    (hb : ∀ i : Nat, (i : Int) < n → EvT K tt ((wipeS ρ vs).set j (.fl (.int i))) (f i) ∧ (f i = true → EvF K te ((wipeS ρ vs).set j (.fl (.int i))) (v i))) : EvL K (tLc (iRng1 ta) (gName j) tt te vs) ρ (lcOf ((List.range n.toNat).map Int.ofNat) f v) := fun H0 H σ hs Q q =>
  h H0 H σ hs _ fun us H1 e1 _ x => by
    have hs1 := hs.grow e1
    cases x with
    | cons x r =>
      cases x
      cases r
      have get : ∀ i : Nat, i < n.toNat → ((List.range n.toNat).map Int.ofNat)[i]? = some (i : Int) := fun i hi => by
        rw [List.getElem?_map, List.getElem?_range hi]
        rfl
      refine ⟨n, rfl, by omega, by omega, fun A hA => lc_range (lo := 0) (n := n.toNat) (fun i H' => Ex H1 H' ∧ ∃ acs, H' A = some (.lst acs) ∧ Els K H0 H' acs (lcOf (((List.range n.toNat).map Int.ofNat).take i) f v)) ⟨Evl.Ex.new hA, [], upd_same, ?_⟩ (fun i H' hi p => ?_) (fun H' p => ?_)⟩
      · show Els K H0 _ [] (lcOf [] f v)
        exact .nil
      · obtain ⟨e2, acs, hA2, hacc⟩ := p
        rw [Int.zero_add]
        obtain ⟨ht, hte⟩ := hb i (by omega)
        refine lc_turn (α := Int) (g := gName j) (js := [j]) (d := .int i) hs1 hA e2 hA2 (Nat.lt_of_le_of_lt (lcOf_len _ f v) (by rw [List.length_take, List.length_map, List.length_range]; omega)) hacc (.inl ⟨rfl, .int _⟩) (fun k hk => by rw [List.mem_singleton] at hk; subst hk; exact hj) (bd_name rfl) ht hte (fun hf H3 e3 acs3 h3 x3 => ⟨e3, acs3, h3, ?_⟩) (fun hf H3 e3 acs3 h3 x3 => ⟨e3, acs3, h3, ?_⟩)
        · rw [lcOf_take (get i hi), hf]; exact x3
        · rw [lcOf_take (get i hi), hf]; exact x3
      · obtain ⟨e2, acs, hA2, hacc⟩ := p
        have hl : ((List.range n.toNat).map Int.ofNat).length = n.toNat := by rw [List.length_map, List.length_range]
        rw [List.take_of_length_le (Nat.le_of_eq hl)] at hacc
        exact q A acs H' (e1.trans e2) (Ex.none e1 hA) hA2 hacc
theorem evT_yes : EvT K tYes ρ true := fun H0 H σ hs Q q => q H (Evl.Ex.refl H)
end
/-! ### a def -/
def agSl : Ag → Sl
  | .d d => if flat d = true then .fl d else .gen d
  | .i C fs => .bi C fs
theorem AgOk.sl {H : Hp} {v : V} {a : Ag} (h : AgOk K H v a) : SlOk K H H (some v) (agSl a) := by
  cases a with
  | d d =>
    unfold agSl
    dsimp only
    by_cases f : flat d = true
    · rw [if_pos f]; exact ⟨v, rfl, f, h⟩
    · rw [if_neg f]; exact ⟨v, rfl, h⟩
  | i C fs =>
    obtain ⟨a, dx, fvs, rfl, h2, h3⟩ := h
    exact ⟨a, dx, fvs, rfl, h2, h3⟩
theorem agSl_fp (a : Ag) : (agSl a).fp = [] := by
  cases a with
  | d d => unfold agSl; dsimp only; split <;> rfl
  | i C fs => rfl
def startS (n : Nat) (ags : List Ag) : List Sl := ags.map agSl ++ List.replicate (n - ags.length) .un
theorem sd_start {H : Hp} {N : List Str} {vs : List V} {ags : List Ag} (h : Paired (AgOk K H) vs ags) : Sd K H H (L2.start N vs) (startS N.length ags) := by
  have e : (startS N.length ags).flatMap Sl.fp = [] := by
    unfold startS
    rw [List.flatMap_append, List.append_eq_nil_iff]
    constructor
    · rw [List.flatMap_eq_nil_iff]
      intro s hs
      obtain ⟨a, _, rfl⟩ := List.mem_map.mp hs
      exact agSl_fp a
    · rw [List.flatMap_eq_nil_iff]
      intro s hs
      rw [List.mem_replicate] at hs
      rw [hs.2]
      rfl
  refine ⟨Evl.Ex.refl H, ?_, by rw [e]; exact List.nodup_nil, fun a ha => by rw [e] at ha; cases ha⟩
  unfold L2.start startS
  rw [pr_len h]
  refine pr_app ?_ ?_
  · clear e
    induction h with
    | nil => exact .nil
    | cons a t ih => exact .cons a.sl ih
  · generalize N.length - ags.length = n
    induction n with
    | zero => exact .nil
    | succ n ih => exact .cons trivial ih
theorem RtOk.base {H0 H0' H' : Hp} {v : V} {r : Rt} (e : Ex H0 H0') (h : RtOk K H0' H' v r) : RtOk K H0 H' v r := by
  cases r with
  | f d => exact h
  | l ds =>
    obtain ⟨a, vs, h1, h2, h3⟩ := h
    exact ⟨a, vs, h1, Ex.none e h2, h3⟩
  | i C fs =>
    obtain ⟨a, dx, fvs, fds, h1, h2, h3, h4, h5, h6, h7⟩ := h
    exact ⟨a, dx, fvs, fds, h1, h2, h3, h4, h5, h6, fun b hb => Ex.none e (h7 b hb)⟩
section
variable {P : Program} {w : World} {mg : Str → Option Value} {base : Heap}
/-- THE RULE for a def of data: its body's term, and what the block does -/
theorem ok_def {x qual : Str} {st : Stmt} {f : Addr} {fd : FuncData} {N ps : List Str} {k : Nat} {pre : List Ag → Rt → Prop} (F : Fun K x qual st f fd) (S : FnScope N ps (defScope st)) (len : ∀ ags r, pre ags r → ags.length = ps.length)
    (hbody : ∀ (cdv : Value) (A : Around) (outer : List Env) (s : Shared) (H : Hp) (E : XK), Room k (A.deeper (envOfC qual (defScope st) s.heap.objs.size f cdv)) →
      ∃ t, PSs (cxOf CX0 P w K mg base N qual (defScope st) f cdv A outer s H E).nox (defBody st) t ∧ ∀ ags r, pre ags r → W K t (startS N.length ags) { nx := fun _ => r = .f .none, rt := fun r' => r' = r }) : FnOk P w K mg base CX0 (k + 1) f fd ps (spF K pre) := by
  refine F.ok S (fun vs H Q E ⟨ags, r, h1, h2, _⟩ => by rw [pr_len h1]; exact len ags r h2) fun cdv A outer s H vs Q E hr ⟨ags, r, h1, h2, h3⟩ => ?_
  obtain ⟨t, ht, hw⟩ := hbody cdv A outer s H E hr
  refine ⟨t, ht, hw ags r h2 H H _ _ (sd_start h1) (fun H0' H' σ' ρ' e s' p => h3 .non H' (e.trans s'.ex) ?_) (fun H0' H' v r' e e' hr p => h3 v H' (e.trans e') ?_) (fun _ _ _ _ _ _ z => z.elim) (fun _ _ _ _ _ _ z => z.elim)⟩
  · rw [p]
    exact ⟨rfl, .non⟩
  · subst p
    exact hr.base e
end
end PF

namespace PF
open PySem PySem.Spec PyProof.Rows L2
open Evl (Ex)
/-- * of any two numbers that are not too great together -/
def CMA (i j : Int) : Prop := CMul i j ∨ CMulW i j
theorem op_mulA {X : Cx} : OpR X (binaryOp .Mult) (rI CMA fun i j => .int (i * j)) := opI fun _ _ _ _ _ _ _ hc q => mul_int q (hc.elim CMul.ok CMulW.ok)
theorem cma_r {i j : Int} (h : -(2 ^ 64) < j ∧ j < 2 ^ 64) : CMA i j := .inl (.inr h)
theorem cma_l {i j : Int} (h : -(2 ^ 64) < i ∧ i < 2 ^ 64) : CMA i j := .inl (.inl h)
/-- below 2 ^ n in size -/
def Bd (n : Nat) (i : Int) : Prop := i.natAbs < 2 ^ n
theorem Bd.mono {n m : Nat} {i : Int} (h : Bd n i) (l : n ≤ m) : Bd m i := Nat.lt_of_lt_of_le h (Nat.pow_le_pow_right (by decide) l)
theorem Bd.mul {n m : Nat} {i j : Int} (a : Bd n i) (b : Bd m j) : Bd (n + m) (i * j) := wide_lt a b
theorem Bd.add {n : Nat} {i j : Int} (a : Bd n i) (b : Bd n j) : Bd (n + 1) (i + j) := by
  unfold Bd at *
  rw [Nat.pow_succ]
  omega
theorem Bd.sub {n : Nat} {i j : Int} (a : Bd n i) (b : Bd n j) : Bd (n + 1) (i - j) := by
  unfold Bd at *
  rw [Nat.pow_succ]
  omega
theorem Bd.neg {n : Nat} {i : Int} (a : Bd n i) : Bd n (-i) := by
  unfold Bd at *
  omega
theorem Bd.le {n : Nat} {i j : Int} (a : Bd n j) (h : i.natAbs ≤ j.natAbs) : Bd n i := Nat.lt_of_le_of_lt h a
theorem Bd.cma {n m : Nat} {i j : Int} (a : Bd n i) (b : Bd m j) (h0 : 0 < n) (h1 : 0 < m) (h : n + m ≤ 1000000) : CMA i j := .inr (wide_mul a b h0 h1 h)
theorem Bd.cdiv {m : Nat} {i j : Int} (hj : 0 < j) (b : Bd m j) (h1 : 0 < m) (h : m ≤ 9000) : CDivW i j := wide_div hj b h1 h
/-! ### a def where it stands -/
structure Df (K : PySem.W.Frag) (mg : Str → Option Value) (x : Str) (st : Stmt) (ps : List Str) (f : Addr) (fd : FuncData) : Prop where
  F : Fun K x x st f fd
  g : mg x = some (.ref f)
  b : Binds K fd ps []
def Dx (K : PySem.W.Frag) (mg : Str → Option Value) (x : Str) (st : Stmt) (ps : List Str) : Prop := ∃ f fd, Df K mg x st ps f fd
theorem df_mk {K : PySem.W.Frag} {mg : Str → Option Value} {x : Str} {st : Stmt} {ps : List Str} {f : Addr} {fd : FuncData} (F : Fun K x x st f fd) (g : mg x = some (.ref f))
    (h : ∀ (kV doc pm : Value) (an : Option Addr) (cdv ct : Value) (us : List Value), us.length = ps.length → bindArgs (PySem.W.fnOf x x (defArgs st) (defBody st) (defScope st) .none kV doc pm an cdv ct) ⟨us, []⟩ = pure (ps.zip us)) : Df K mg x st ps f fd := ⟨F, g, F.binds h⟩
/-! ### promises by functions -/
def fn1 {α : Type} (args : α → List Ag) (p : α → Prop) (res : α → Rt) : List Ag → Rt → Prop := fun ags r => ∃ a, ags = args a ∧ p a ∧ r = res a
def fn2 {α β : Type} (args : α → β → List Ag) (p : α → β → Prop) (res : α → β → Rt) : List Ag → Rt → Prop := fun ags r => ∃ a b, ags = args a b ∧ p a b ∧ r = res a b
def fn3 {α β γ : Type} (args : α → β → γ → List Ag) (p : α → β → γ → Prop) (res : α → β → γ → Rt) : List Ag → Rt → Prop := fun ags r => ∃ a b c, ags = args a b c ∧ p a b c ∧ r = res a b c
def fn4 {α β γ δ : Type} (args : α → β → γ → δ → List Ag) (p : α → β → γ → δ → Prop) (res : α → β → γ → δ → Rt) : List Ag → Rt → Prop := fun ags r => ∃ a b c d, ags = args a b c d ∧ p a b c d ∧ r = res a b c d
section
variable {K : PySem.W.Frag} {te ta tb tc : TE} {tt tu : TT} {tl tr : TA} {t u v : TS} {ρ : List Sl} {d d' : PyData} {ds : List PyData} {P : Po} {i j : Nat} {g : TG} {E : XK}
section
variable {α β γ δ : Type} {a : α} {b : β} {c : γ} {e : δ}
theorem evF_call1 {args : α → List Ag} {p : α → Prop} {res : α → Rt} (ha : EvA K tl ρ (args a)) (hp : p a) (hr : res a = .f d) : EvF K (tCall (spF K (fn1 args p res)) [] E tl) ρ d := evF_call ha ⟨a, rfl, hp, hr.symm⟩
theorem evF_call2 {args : α → β → List Ag} {p : α → β → Prop} {res : α → β → Rt} (ha : EvA K tl ρ (args a b)) (hp : p a b) (hr : res a b = .f d) : EvF K (tCall (spF K (fn2 args p res)) [] E tl) ρ d := evF_call ha ⟨a, b, rfl, hp, hr.symm⟩
theorem evF_call3 {args : α → β → γ → List Ag} {p : α → β → γ → Prop} {res : α → β → γ → Rt} (ha : EvA K tl ρ (args a b c)) (hp : p a b c) (hr : res a b c = .f d) : EvF K (tCall (spF K (fn3 args p res)) [] E tl) ρ d := evF_call ha ⟨a, b, c, rfl, hp, hr.symm⟩
theorem evF_call4 {args : α → β → γ → δ → List Ag} {p : α → β → γ → δ → Prop} {res : α → β → γ → δ → Rt} (ha : EvA K tl ρ (args a b c e)) (hp : p a b c e) (hr : res a b c e = .f d) : EvF K (tCall (spF K (fn4 args p res)) [] E tl) ρ d := evF_call ha ⟨a, b, c, e, rfl, hp, hr.symm⟩
theorem evL_call1 {args : α → List Ag} {p : α → Prop} {res : α → Rt} (ha : EvA K tl ρ (args a)) (hp : p a) (hr : res a = .l ds) : EvL K (tCall (spF K (fn1 args p res)) [] E tl) ρ ds := evL_call ha ⟨a, rfl, hp, hr.symm⟩
theorem evL_call2 {args : α → β → List Ag} {p : α → β → Prop} {res : α → β → Rt} (ha : EvA K tl ρ (args a b)) (hp : p a b) (hr : res a b = .l ds) : EvL K (tCall (spF K (fn2 args p res)) [] E tl) ρ ds := evL_call ha ⟨a, b, rfl, hp, hr.symm⟩
theorem evL_call3 {args : α → β → γ → List Ag} {p : α → β → γ → Prop} {res : α → β → γ → Rt} (ha : EvA K tl ρ (args a b c)) (hp : p a b c) (hr : res a b c = .l ds) : EvL K (tCall (spF K (fn3 args p res)) [] E tl) ρ ds := evL_call ha ⟨a, b, c, rfl, hp, hr.symm⟩
end
/-! ### statements with what follows -/
theorem q_asg (h : EvF K te ρ d) (k : W K u (ρ.set i (.fl d)) P) : W K (tSeq (tAsg te (gName i)) u) ρ P := w_seq (w_asg h k)
theorem q_asgG (h : EvG K te ρ d) (k : W K u (ρ.set i (.gen d)) P) : W K (tSeq (tAsg te (gName i)) u) ρ P := w_seq (w_asgG h k)
theorem q_asgL (h : EvL K te ρ ds) (k : ∀ a, W K u (ρ.set i (.ol a ds)) P) : W K (tSeq (tAsg te (gName i)) u) ρ P := w_seq (w_asgL h k)
theorem q_asgLG (h : EvL K te ρ ds) (k : W K u (ρ.set i (.gen (.list ds))) P) : W K (tSeq (tAsg te (gName i)) u) ρ P := w_seq (w_asgLG h k)
theorem q_asgT {js : List Nat} {ρ' : List Sl} (h : EvF K te ρ d) (hg : BdG K g js ρ d ρ') (k : W K u ρ' P) : W K (tSeq (tAsg te g) u) ρ P := w_seq (w_asgT h hg k)
theorem q_par {x y : PyData} (h : EvFs K tl ρ [x, y]) (k : W K u ((ρ.set i (.fl x)).set j (.fl y)) P) : W K (tSeq (tPar i j tl) u) ρ P := w_seq (w_par h k)
theorem q_if {b : Bool} (h : EvT K tt ρ b) (h1 : b = true → W K t ρ { P with nx := fun ρ' => W K v ρ' P }) (h2 : b = false → W K u ρ { P with nx := fun ρ' => W K v ρ' P }) : W K (tSeq (tIfS tt t u) v) ρ P := w_seq (w_if h h1 h2)
/-- an if without an else -/
theorem q_when {b : Bool} (h : EvT K tt ρ b) (h1 : b = true → W K t ρ { P with nx := fun ρ' => W K v ρ' P }) (h2 : b = false → W K v ρ P) : W K (tSeq (tIfS tt t tNext) v) ρ P := w_seq (w_if h h1 fun hb => w_next (h2 hb))
theorem w_when {b : Bool} (h : EvT K tt ρ b) (h1 : b = true → W K t ρ P) (h2 : b = false → P.nx ρ) : W K (tIfS tt t tNext) ρ P := w_if h h1 fun hb => w_next (h2 hb)
theorem q_aug {x y : Int} {f : Int → Int → Int} (hx : ρ[i]? = some (.fl (.int x))) (h : EvF K te ρ (.int y)) (k : W K u (ρ.set i (.fl (.int (f x y)))) P) : W K (tSeq (tAug i te (ipI f)) u) ρ P := w_seq (w_aug hx h k)
theorem q_app {a : Addr} (hi : ρ[i]? = some (.ol a ds)) (h : EvF K te ρ d) (hz : ds.length < 100000) (k : W K u (ρ.set i (.ol a (ds ++ [d]))) P) : W K (tSeq (tDrop (tBM K "list" rAppend (tVar i) (tCons te tNil))) u) ρ P := w_seq (w_app hi h hz k)
theorem q_while (Inv : Nat → List Sl → Prop) (m : Nat) (h0 : Inv m ρ)
    (hb : ∀ m ρ', Inv m ρ' → ∃ b, EvT K tt ρ' b ∧ (b = true → W K t ρ' { nx := fun ρ2 => ∃ m', m' < m ∧ Inv m' ρ2, ct := fun ρ2 => ∃ m', m' < m ∧ Inv m' ρ2, bk := fun ρ2 => W K u ρ2 P, rt := P.rt }) ∧ (b = false → W K u ρ' P)) : W K (tSeq (tWhile tt t) u) ρ P := w_seq (w_while Inv m h0 hb)
theorem q_forG (h : EvG K ta ρ (.list ds)) (Inv : Nat → List Sl → Prop) (h0 : Inv 0 ρ)
    (hb : ∀ i d ρ', ds[i]? = some d → Inv i ρ' → ∃ js ρ2, BdG K g js ρ' d ρ2 ∧ W K t ρ2 { nx := Inv (i + 1), ct := Inv (i + 1), bk := fun ρ2 => W K u ρ2 P, rt := P.rt })
    (hd : ∀ ρ', Inv ds.length ρ' → W K u ρ' P) : W K (tSeq (tFor (iList K ta) g t) u) ρ P := w_seq (w_forG h Inv h0 hb hd)
theorem q_forN (h : EvL K ta ρ ds) (Inv : Nat → List Sl → Prop) (h0 : Inv 0 ρ)
    (hb : ∀ i d ρ', ds[i]? = some d → Inv i ρ' → ∃ js ρ2, BdG K g js ρ' d ρ2 ∧ W K t ρ2 { nx := Inv (i + 1), ct := Inv (i + 1), bk := fun ρ2 => W K u ρ2 P, rt := P.rt })
    (hd : ∀ ρ', Inv ds.length ρ' → W K u ρ' P) : W K (tSeq (tFor (iList K ta) g t) u) ρ P := w_seq (w_forN h Inv h0 hb hd)
theorem q_forO {a : Addr} {k : Nat} (h : ρ[k]? = some (.ol a ds)) (Inv : Nat → List Sl → Prop) (h0 : Inv 0 ρ) (hk : ∀ i ρ', Inv i ρ' → ρ'[k]? = some (.ol a ds))
    (hb : ∀ i d ρ', ds[i]? = some d → Inv i ρ' → ∃ js ρ2, BdG K g js ρ' d ρ2 ∧ W K t ρ2 { nx := Inv (i + 1), ct := Inv (i + 1), bk := fun ρ2 => W K u ρ2 P, rt := P.rt })
    (hd : ∀ ρ', Inv ds.length ρ' → W K u ρ' P) : W K (tSeq (tFor (iList K (tVar k)) g t) u) ρ P := w_seq (w_forO h Inv h0 hk hb hd)
theorem q_forR {n : Int} {ta : TA} (h : EvFs K ta ρ [.int n]) (hn : n ≤ 100000 ∧ -100000 ≤ n) (Inv : Nat → List Sl → Prop) (h0 : Inv 0 ρ)
    (hb : ∀ (i : Nat) ρ', (i : Int) < n → Inv i ρ' → W K t (ρ'.set j (.fl (.int (i : Int)))) { nx := Inv (i + 1), ct := Inv (i + 1), bk := fun ρ2 => W K u ρ2 P, rt := P.rt })
    (hd : ∀ ρ', Inv n.toNat ρ' → W K u ρ' P) : W K (tSeq (tFor (iRng1 ta) (gName j) t) u) ρ P := w_seq (w_forR h hn Inv h0 hb hd)
theorem q_forR2 {lo n : Int} {ta : TA} (h : EvFs K ta ρ [.int lo, .int n]) (hn : -100000 ≤ lo ∧ lo ≤ 100000 ∧ n ≤ 100000 ∧ -100000 ≤ n) (Inv : Nat → List Sl → Prop) (h0 : Inv 0 ρ)
    (hb : ∀ (i : Nat) ρ', lo + (i : Int) < n → Inv i ρ' → W K t (ρ'.set j (.fl (.int (lo + (i : Int))))) { nx := Inv (i + 1), ct := Inv (i + 1), bk := fun ρ2 => W K u ρ2 P, rt := P.rt })
    (hd : ∀ ρ', Inv (n - lo).toNat ρ' → W K u ρ' P) : W K (tSeq (tFor (iRng2 ta) (gName j) t) u) ρ P := w_seq (w_forR2 h hn Inv h0 hb hd)
/-! ### isinstance of data -/
def tyN : PyData → String
  | .none => "NoneType"
  | .bool _ => "bool"
  | .int _ => "int"
  | .str _ => "str"
  | .list _ => "list"
  | .tuple _ => "tuple"
  | .dict _ => "dict"
theorem tyX_dp {H : Hp} {v : V} {d : PyData} (h : Dp K H v d) : TyX K H v (.type (tyN d)) := by
  cases d with
  | none => cases h; exact .base .non
  | bool b => cases h; exact .base (.bl b)
  | int i => cases h; exact .base (.int i)
  | str x => cases h; exact .base (.str x)
  | list ds =>
    cases h with
    | lst hs _ =>
      rcases hs with (hs | ⟨o, hs⟩) | ⟨o, its, n, h1, h2, _⟩
      · exact .base (.lst hs)
      · exact .base (.frz hs)
      · exact .kList h1 h2
  | tuple ds =>
    cases h with
    | tup hs _ =>
      rcases hs with (hs | ⟨o, hs⟩) | ⟨o, its, n, h1, h2, _⟩
      · exact .base (.tup hs)
      · exact .fTuple hs
      · exact .kTuple h1 h2
  | dict kvs => cases h
theorem evF_isi {n : String} {b : Bool} (ha : EvV K ta ρ d) (h : kitB (tyN d) n = some b) : EvF K (tCB (rIsi K) (tCons ta (tCons (tC (.ty n)) tNil))) ρ (.bool b) := fun H0 H σ hs Q q =>
  ha H0 H σ hs _ fun v H1 e1 d1 => ⟨v, .ty n, _, _, b, rfl, .ty n, tyX_dp d1, kit_ty h, q _ H1 e1 rfl (.bl b)⟩
/-! ### a comprehension over a tuple -/
theorem evL_lcT {α : Type} {js vs : List Nat} (xs : List α) (en : α → PyData) (f : α → Bool) (v : α → PyData) (h : EvF K ta ρ (.tuple (xs.map en))) (hj : ∀ j ∈ js, j ∈ vs) (hz : xs.length ≤ 90000)
    (hb : ∀ x ∈ xs, ∃ ρ2, BdG K g js (wipeS ρ vs) (en x) ρ2 ∧ EvT K tt ρ2 (f x) ∧ (f x = true → EvF K te ρ2 (v x))) : EvL K (tLc (iTup K ta) g tt te vs) ρ (lcOf xs f v) := fun H0 H σ hs Q q => by
  refine h H0 H σ hs _ fun u H1 e1 fl x => ?_
  have hs1 := hs.grow e1
  rw [flat] at fl
  cases x with
  | @tup a us _ hq hd =>
    have hp : Paired (El K H0 H1) us (xs.map en) := Els.of_flat fl hd
    have hl : us.length = xs.length := by rw [pr_len hp, List.length_map]
    refine ⟨a, rfl, ⟨us, hq⟩, fun A hA => lc_tup (xs := us) (fun i H' => Ex H1 H' ∧ ∃ acs, H' A = some (.lst acs) ∧ Els K H0 H' acs (lcOf (xs.take i) f v)) ⟨Evl.Ex.new hA, [], upd_same, ?_⟩ (fun i H' _ p => Evl.ex_t p.1 hq) (fun i x H' hx p => ?_) (fun H' p => ?_)⟩
    · show Els K H0 _ [] (lcOf [] f v)
      exact .nil
    · obtain ⟨e2, acs, hA2, hacc⟩ := p
      obtain ⟨d, hd, hel⟩ := pr_at' hp hx
      rw [List.getElem?_map] at hd
      cases hxi : xs[i]? with
      | none => rw [hxi] at hd; cases hd
      | some y =>
        rw [hxi] at hd
        cases hd
        obtain ⟨ρ2, bg, ht, hte⟩ := hb y (List.mem_of_getElem? hxi)
        have hi : i < xs.length := by
          have := (List.getElem?_eq_some_iff.mp hxi).1
          omega
        refine lc_turn (α := α) hs1 hA e2 hA2 (Nat.lt_of_le_of_lt (lcOf_len _ f v) (by rw [List.length_take]; omega)) hacc (hel.kt (.of_ex e2)) hj bg ht hte (fun hf H3 e3 acs3 h3 x3 => ⟨e3, acs3, h3, ?_⟩) (fun hf H3 e3 acs3 h3 x3 => ⟨e3, acs3, h3, ?_⟩)
        · rw [lcOf_take hxi, hf]; exact x3
        · rw [lcOf_take hxi, hf]; exact x3
    · obtain ⟨e2, acs, hA2, hacc⟩ := p
      rw [hl, List.take_length] at hacc
      exact q A acs H' (e1.trans e2) (Ex.none e1 hA) hA2 hacc
end
/-! ### the law itself -/
theorem dps_of_ints {K : PySem.W.Frag} {H : Hp} : ∀ ns : List Int, DpAll K H (ns.map V.int) (ns.map .int)
  | [] => .nil
  | n :: ns => .cons (.int n) (dps_of_ints ns)
/-- a law gives True at every script -/
def preLaw : List Ag → Rt → Prop := fun ags r => ∃ ns : List Int, ns.length ≤ 63 ∧ ags = [.d (.list (ns.map .int))] ∧ r = .f (.bool true)
theorem law_in {K : PySem.W.Frag} {H : Hp} {a : Addr} {ns : List Int} {E : XK} (hl : ns.length ≤ 63) (hS : SqL K H a (ns.map V.int)) : spF K preLaw [.ref a] H (fun v _ => v = .bl true) E := by
  refine ⟨[.d (.list (ns.map .int))], .f (.bool true), .cons (.lst hS (dps_of_ints ns)) .nil, ⟨ns, hl, rfl, rfl⟩, fun v H' _ hr => ?_⟩
  have h := hr.2
  cases h
  rfl
end PF

namespace PF
open PySem PySem.Spec PyProof.Rows L2
open Evl (Ex)
section
variable {K : PySem.W.Frag} {te ta tb tc : TE} {tt tu : TT} {tl tr : TA} {t u v : TS} {ρ : List Sl} {d d' : PyData} {ds : List PyData} {P : Po} {i j : Nat} {g : TG} {E : XK}
theorem evF_lenL (ha : EvV K ta ρ (.list ds)) : EvF K (tCB (fun xs H Q => ∃ p ys, xs = [.ref p] ∧ (SqL K H p ys ∨ SqT K H p ys) ∧ Q (.int ys.length) H) (tCons ta tNil)) ρ (.int ds.length) := evF_len ha (.inl ⟨ds, rfl, rfl⟩) rfl
theorem evF_lenT (ha : EvV K ta ρ (.tuple ds)) : EvF K (tCB (fun xs H Q => ∃ p ys, xs = [.ref p] ∧ (SqL K H p ys ∨ SqT K H p ys) ∧ Q (.int ys.length) H) (tCons ta tNil)) ρ (.int ds.length) := evF_len ha (.inr ⟨ds, rfl, rfl⟩) rfl
def lenD : PyData → Option Int
  | .list ds => some ds.length
  | .tuple ds => some ds.length
  | _ => none
theorem evF_lenD {n : Int} (ha : EvV K ta ρ d) (h : lenD d = some n) : EvF K (tCB (fun xs H Q => ∃ p ys, xs = [.ref p] ∧ (SqL K H p ys ∨ SqT K H p ys) ∧ Q (.int ys.length) H) (tCons ta tNil)) ρ (.int n) := by
  cases d with
  | list ds => cases h; exact evF_lenL ha
  | tuple ds => cases h; exact evF_lenT ha
  | none => cases h
  | bool b => cases h
  | int i => cases h
  | str x => cases h
  | dict kvs => cases h
theorem evF_absI {n : Int} (ha : EvF K ta ρ (.int n)) : EvF K (tCB (fun xs H Q => ∃ i, xs = [.int i] ∧ Q (.int (if i < 0 then -i else i)) H) (tCons ta tNil)) ρ (.int n.natAbs) := (evF_abs ha rfl).is (by congr 1; split <;> omega)
theorem evF_eqI {m n : Int} (ha : EvF K ta ρ (.int m)) (hb : EvF K tb ρ (.int n)) : EvF K (tOp rEq ta tb) ρ (.bool (decide (m = n))) := fun H0 H σ hs Q q =>
  ha H0 H σ hs _ fun v H1 e1 _ d1 => hb H0 H1 σ (hs.grow e1) _ fun u H2 e2 _ d2 => by
    cases d1
    cases d2
    have e : decide (V.int m = V.int n) = decide (m = n) := by
      by_cases h : m = n
      · subst h; simp
      · rw [decide_eq_false h, decide_eq_false (fun z => h (V.int.inj z))]
    refine ⟨rfl, ?_⟩
    rw [e]
    exact q _ H2 (e1.trans e2) rfl (.bl _)
theorem evF_neI {m n : Int} (ha : EvF K ta ρ (.int m)) (hb : EvF K tb ρ (.int n)) : EvF K (tOp rNe ta tb) ρ (.bool (!decide (m = n))) := fun H0 H σ hs Q q =>
  ha H0 H σ hs _ fun v H1 e1 _ d1 => hb H0 H1 σ (hs.grow e1) _ fun u H2 e2 _ d2 => by
    cases d1
    cases d2
    have e : decide (V.int m = V.int n) = decide (m = n) := by
      by_cases h : m = n
      · subst h; simp
      · rw [decide_eq_false h, decide_eq_false (fun z => h (V.int.inj z))]
    refine ⟨rfl, ?_⟩
    rw [e]
    exact q _ H2 (e1.trans e2) rfl (.bl _)
/-- if c: x = e, by what x has behind it -/
theorem q_ifAsg {b : Bool} (h : EvT K tt ρ b) (h1 : b = true → EvF K te ρ d) (h2 : b = false → ρ[i]? = some (.fl d)) (k : W K u (ρ.set i (.fl d)) P) : W K (tSeq (tIfS tt (tAsg te (gName i)) tNext) u) ρ P :=
  q_when h (fun hb => w_asg (h1 hb) k) fun hb => by
    have e := set_self (h2 hb)
    rw [e] at k
    exact k
theorem atI_map {α β : Type} (f : α → β) (xs : List α) {k : Nat} {x : α} (h : xs[k]? = some x) : atI (xs.map f) (k : Int) = some (f x) := by
  refine atI_nat ?_
  rw [List.getElem?_map, h] <;> rfl
theorem atI_mapD {α β : Type} (f : α → β) (xs : List α) {k : Nat} {y : α} (h : k < xs.length) : atI (xs.map f) (k : Int) = some (f (xs.getD k y)) := by
  refine atI_map f xs ?_
  rw [List.getD_eq_getElem?_getD, List.getElem?_eq_getElem h] <;> rfl
end
/-! ### the rules with the written part named -/
section
variable (K : PySem.W.Frag) {X : Cx} {e : Expr} {te : TE} {t : TA} {es : List Expr} {pos : Pos}
theorem xix_list (h : X.K = K := by rfl) : IxR X (rIxL K) := by subst h; exact ix_list
theorem xix_tup (h : X.K = K := by rfl) : IxR X (rIxT K) := by subst h; exact ix_tup
theorem xsl_list (h : X.K = K := by rfl) : SlR X (rSlL K) := by subst h; exact sl_list
theorem xsl_tup (h : X.K = K := by rfl) : SlR X (rSlT K) := by subst h; exact sl_tup
theorem xcall_isi (h : X.K = K := by rfl) : CallR X (.builtin "isinstance") (rIsi K) := by subst h; exact call_isi
theorem xcall_len (h : X.K = K := by rfl) : CallR X (.builtin "len") (fun xs H Q => ∃ p ys, xs = [.ref p] ∧ (SqL K H p ys ∨ SqT K H p ys) ∧ Q (.int ys.length) H) := by subst h; exact call_len_seq
theorem xcall_list (h : X.K = K := by rfl) : CallR X (.type "list") (fun xs H Q => ∃ p ys, xs = [.ref p] ∧ (SqL K H p ys ∨ SqT K H p ys) ∧ ∀ l, H l = none → Q (.ref l) (upd H l (.lst ys))) := by subst h; exact call_list_of
theorem xop_eqD (hu : X.A.units + 64 < cLine) (h : X.K = K := by rfl) : OpR X (compareOp .Eq) (rEqD K) := by subst h; exact op_eqD hu
theorem xop_neD (hu : X.A.units + 64 < cLine) (h : X.K = K := by rfl) : OpR X (compareOp .NotEq) (rNeD K) := by subst h; exact op_neD hu
theorem xcr_any (hc : X.calm = true) (h : X.K = K := by rfl) : CallR X (.builtin "any") (rAny K) := by subst h; exact cr_any hc
theorem xcr_all (hc : X.calm = true) (h : X.K = K := by rfl) : CallR X (.builtin "all") (rAll K) := by subst h; exact cr_all hc
theorem xcr_max (hc : X.calm = true) (h : X.K = K := by rfl) : CallR X (.builtin "max") (rMax K) := by subst h; exact cr_max hc
theorem xcr_min (hc : X.calm = true) (h : X.K = K := by rfl) : CallR X (.builtin "min") (rMin K) := by subst h; exact cr_min hc
theorem xpi_list {tg : Expr} (he : PE X e te) (h : X.K = K := by rfl) : PI X tg e (iList K te) := by subst h; exact pi_list he
theorem xpi_tup {tg : Expr} (he : PE X e te) (h : X.K = K := by rfl) : PI X tg e (iTup K te) := by subst h; exact pi_tup he
theorem xpg_tup {k n : Nat} {t : TGs} (hc : X.calm = true) (hp : PGs X es t) (hn : (assignEach es X.env).length = n := by rfl) (hst : (assignEach es X.env).findIdx? (·.1) = none := by rfl) (h : X.K = K := by rfl) : PG X (.Tuple es k pos) (gTup K n t) := by subst h; exact pg_tup hc hp hn hst
theorem xop_in (hu : X.A.units + 65 < cLine) (h : X.K = K := by rfl) : OpR X (compareOp .In) (rInD K) := by subst h; exact op_inD hu
theorem xop_notIn (hu : X.A.units + 65 < cLine) (h : X.K = K := by rfl) : OpR X (compareOp .NotIn) (rNotInD K) := by subst h; exact op_notInD hu
theorem xmt_index (hu : X.A.units + 65 < cLine) (h : X.K = K := by rfl) : MtR X "list.index" (rIndexD K) := by subst h; exact mt_indexD hu
theorem xpe_fld {f : Str} (he : PE X e te) (hb : attributeBase e f X.env (eval e X.env) = eval e X.env) (h : X.K = K := by rfl) : PE X (.Attribute e f pos) (tFld K te f) := by subst h; exact pe_fld he hb
theorem pe_tyn {x : Str} (n : String) (hg : Gl X x) (hm : X.mg x = none) (hv : bootBuiltins x = some (.type n)) (hn : x ≠ "__name__" := by decide) (hd : (x == ("__debug__" : Str)) = false := by decide) : PE X (.Name x pos) (tC (.ty n)) := pe_bltn (v := .ty n) hg hm hv rfl hn hd
end
theorem kit_NoneType_bool : kitB "NoneType" "bool" = some false := by decide +kernel
theorem kit_NoneType_int : kitB "NoneType" "int" = some false := by decide +kernel
theorem kit_NoneType_str : kitB "NoneType" "str" = some false := by decide +kernel
theorem kit_NoneType_list : kitB "NoneType" "list" = some false := by decide +kernel
theorem kit_NoneType_tuple : kitB "NoneType" "tuple" = some false := by decide +kernel
theorem kit_bool_bool : kitB "bool" "bool" = some true := by decide +kernel
theorem kit_bool_int : kitB "bool" "int" = some true := by decide +kernel
theorem kit_bool_str : kitB "bool" "str" = some false := by decide +kernel
theorem kit_bool_list : kitB "bool" "list" = some false := by decide +kernel
theorem kit_bool_tuple : kitB "bool" "tuple" = some false := by decide +kernel
theorem kit_int_bool : kitB "int" "bool" = some false := by decide +kernel
theorem kit_int_int : kitB "int" "int" = some true := by decide +kernel
theorem kit_int_str : kitB "int" "str" = some false := by decide +kernel
theorem kit_int_list : kitB "int" "list" = some false := by decide +kernel
theorem kit_int_tuple : kitB "int" "tuple" = some false := by decide +kernel
theorem kit_str_bool : kitB "str" "bool" = some false := by decide +kernel
theorem kit_str_int : kitB "str" "int" = some false := by decide +kernel
theorem kit_str_str : kitB "str" "str" = some true := by decide +kernel
theorem kit_str_list : kitB "str" "list" = some false := by decide +kernel
theorem kit_str_tuple : kitB "str" "tuple" = some false := by decide +kernel
theorem kit_list_bool : kitB "list" "bool" = some false := by decide +kernel
theorem kit_list_int : kitB "list" "int" = some false := by decide +kernel
theorem kit_list_str : kitB "list" "str" = some false := by decide +kernel
theorem kit_list_list : kitB "list" "list" = some true := by decide +kernel
theorem kit_list_tuple : kitB "list" "tuple" = some false := by decide +kernel
theorem kit_tuple_bool : kitB "tuple" "bool" = some false := by decide +kernel
theorem kit_tuple_int : kitB "tuple" "int" = some false := by decide +kernel
theorem kit_tuple_str : kitB "tuple" "str" = some false := by decide +kernel
theorem kit_tuple_list : kitB "tuple" "list" = some false := by decide +kernel
theorem kit_tuple_tuple : kitB "tuple" "tuple" = some true := by decide +kernel
theorem kit_dict_bool : kitB "dict" "bool" = some false := by decide +kernel
theorem kit_dict_int : kitB "dict" "int" = some false := by decide +kernel
theorem kit_dict_str : kitB "dict" "str" = some false := by decide +kernel
theorem kit_dict_list : kitB "dict" "list" = some false := by decide +kernel
theorem kit_dict_tuple : kitB "dict" "tuple" = some false := by decide +kernel
end PF

namespace Hl
open PySem PySem.Spec PyProof.Rows L2 PF
local macro_rules | `(tactic| walk_at "kit") => `(tactic| first | exact kit_NoneType_bool | exact kit_NoneType_int | exact kit_NoneType_str | exact kit_NoneType_list | exact kit_NoneType_tuple | exact kit_bool_bool | exact kit_bool_int | exact kit_bool_str | exact kit_bool_list | exact kit_bool_tuple | exact kit_int_bool | exact kit_int_int | exact kit_int_str | exact kit_int_list | exact kit_int_tuple | exact kit_str_bool | exact kit_str_int | exact kit_str_str | exact kit_str_list | exact kit_str_tuple | exact kit_list_bool | exact kit_list_int | exact kit_list_str | exact kit_list_list | exact kit_list_tuple | exact kit_tuple_bool | exact kit_tuple_int | exact kit_tuple_str | exact kit_tuple_list | exact kit_tuple_tuple | exact kit_dict_bool | exact kit_dict_int | exact kit_dict_str | exact kit_dict_list | exact kit_dict_tuple)
local macro_rules | `(tactic| walk_at "side") => `(tactic| first | exact rfl | exact Nat.le_of_ble_eq_true rfl | decide | omega)
local macro_rules | `(tactic| walk_at "evv") => `(tactic| first
  | with_reducible exact evF_int
  | with_reducible exact evF_bl
  | with_reducible exact evF_non
  | exact evF_var rfl
  | exact evG_var rfl
  | exact evV_fl rfl
  | exact evV_gen rfl
  | exact evV_ol rfl)
local macro_rules | `(tactic| walk_at "ev") => `(tactic| first
  | walk_at "evv"
  | with_reducible exact evA_nil
  | with_reducible exact evFs_nil
  | with_reducible exact evEs_nil
  | with_reducible exact evT_yes
  | ((with_reducible apply evA_cons) <;> walk_at "ev")
  | ((with_reducible apply evFs_cons) <;> walk_at "ev")
  | ((with_reducible apply evEs_cons) <;> walk_at "ev")
  | ((with_reducible apply evF_opI0) <;> walk_at "ev")
  | ((with_reducible apply evF_opB0) <;> walk_at "ev")
  | ((with_reducible apply evF_opI) <;> walk_at "ev")
  | ((with_reducible apply evF_unI) <;> walk_at "ev")
  | ((with_reducible apply evT_test) <;> walk_at "ev")
  | ((with_reducible apply evT_B) <;> walk_at "ev")
  | ((with_reducible apply evT_not) <;> walk_at "ev")
  | ((with_reducible refine' evT_and ?_ (fun _ => ?_)) <;> walk_at "ev")
  | ((with_reducible refine' evT_or ?_ (fun _ => ?_)) <;> walk_at "ev")
  | ((with_reducible refine' evF_andV ?_ (fun _ => ?_)) <;> walk_at "ev")
  | ((with_reducible refine' evF_orV ?_ (fun _ => ?_)) <;> walk_at "ev")
  | ((with_reducible apply evF_notV) <;> walk_at "ev")
  | ((with_reducible refine' evF_chain ?_ ?_ (fun _ => ?_)) <;> walk_at "ev")
  | ((with_reducible apply evF_eqI) <;> walk_at "ev")
  | ((with_reducible apply evF_neI) <;> walk_at "ev")
  | ((with_reducible apply evF_call1) <;> walk_at "ev")
  | ((with_reducible apply evF_call2) <;> walk_at "ev")
  | ((with_reducible apply evF_call3) <;> walk_at "ev")
  | ((with_reducible apply evF_call4) <;> walk_at "ev")
  | ((with_reducible apply evF_eqD) <;> walk_at "ev")
  | ((with_reducible apply evF_neD) <;> walk_at "ev")
  | ((with_reducible apply evF_tup) <;> walk_at "ev")
  | ((with_reducible apply evL_lst) <;> walk_at "ev")
  | ((with_reducible apply evF_ixT) <;> walk_at "ev")
  | ((with_reducible apply evF_ixL) <;> walk_at "ev")
  | ((with_reducible apply evF_lenD) <;> walk_at "ev")
  | ((with_reducible apply evF_absI) <;> walk_at "ev")
  | ((with_reducible apply evF_isi) <;> first | walk_at "kit" | walk_at "ev")
  | ((with_reducible apply EvF.v) <;> walk_at "ev")
  | exact evF_int
  | walk_at "side"
  | skip)

def topS (i : Nat) : Stmt := PySem.Challenge.pw_herdline_k09_fractions.main.body.getD i (.Pass ⟨0, 0, 0, 0⟩)
abbrev s_common : Stmt := topS 1
abbrev nl_common : List Str := ["one", "other"]
theorem sc_common : FnScope nl_common ["one", "other"] (defScope s_common) := ⟨rfl, rfl, rfl, by decide +kernel, rfl, by decide +kernel, by decide +kernel⟩
abbrev s_made : Stmt := topS 2
abbrev nl_made : List Str := ["a", "b", "far"]
theorem sc_made : FnScope nl_made ["a", "b"] (defScope s_made) := ⟨rfl, rfl, rfl, by decide +kernel, rfl, by decide +kernel, by decide +kernel⟩
abbrev s_plus : Stmt := topS 3
abbrev nl_plus : List Str := ["one", "other"]
theorem sc_plus : FnScope nl_plus ["one", "other"] (defScope s_plus) := ⟨rfl, rfl, rfl, by decide +kernel, rfl, by decide +kernel, by decide +kernel⟩
abbrev s_times : Stmt := topS 4
abbrev nl_times : List Str := ["one", "other"]
theorem sc_times : FnScope nl_times ["one", "other"] (defScope s_times) := ⟨rfl, rfl, rfl, by decide +kernel, rfl, by decide +kernel, by decide +kernel⟩
abbrev s__law_cell_at : Stmt := topS 6
abbrev nl__law_cell_at : List Str := ["_law_script", "_law_k"]
theorem sc__law_cell_at : FnScope nl__law_cell_at ["_law_script", "_law_k"] (defScope s__law_cell_at) := ⟨rfl, rfl, rfl, by decide +kernel, rfl, by decide +kernel, by decide +kernel⟩
abbrev s__law_draw : Stmt := topS 7
abbrev nl__law_draw : List Str := ["_law_cell", "_law_k", "_law_many", "_law_primes"]
theorem sc__law_draw : FnScope nl__law_draw ["_law_cell", "_law_k", "_law_many"] (defScope s__law_draw) := ⟨rfl, rfl, rfl, by decide +kernel, rfl, by decide +kernel, by decide +kernel⟩
abbrev s__law_common : Stmt := topS 8
abbrev nl__law_common : List Str := ["_law_one", "_law_other"]
theorem sc__law_common : FnScope nl__law_common ["_law_one", "_law_other"] (defScope s__law_common) := ⟨rfl, rfl, rfl, by decide +kernel, rfl, by decide +kernel, by decide +kernel⟩
abbrev s__law_pair : Stmt := topS 9
abbrev nl__law_pair : List Str := ["_law_cell", "_law_by", "_law_one"]
theorem sc__law_pair : FnScope nl__law_pair ["_law_cell"] (defScope s__law_pair) := ⟨rfl, rfl, rfl, by decide +kernel, rfl, by decide +kernel, by decide +kernel⟩
abbrev s__law_is : Stmt := topS 10
abbrev nl__law_is : List Str := ["_law_told", "_law_one", "_law_other", "_law_part"]
theorem sc__law_is : FnScope nl__law_is ["_law_told", "_law_one", "_law_other"] (defScope s__law_is) := ⟨rfl, rfl, rfl, by decide +kernel, rfl, by decide +kernel, by decide +kernel⟩
abbrev s_law : Stmt := topS 11
abbrev nl_law : List Str := ["_law_script", "_law_first", "_law_second", "_law_one", "_law_other", "_law_left", "_law_right", "_law_above"]
theorem sc_law : FnScope nl_law ["_law_script"] (defScope s_law) := ⟨rfl, rfl, rfl, by decide +kernel, rfl, by decide +kernel, by decide +kernel⟩
structure Tx (K : PySem.W.Frag) (mg : Str → Option Value) : Prop where
  b_abs : mg "abs" = none
  b_any : mg "any" = none
  b_bool : mg "bool" = none
  b_int : mg "int" = none
  b_isinstance : mg "isinstance" = none
  b_len : mg "len" = none
  b_tuple : mg "tuple" = none
  d_common : Dx K mg "common" s_common ["one", "other"]
  d_made : Dx K mg "made" s_made ["a", "b"]
  d_plus : Dx K mg "plus" s_plus ["one", "other"]
  d_times : Dx K mg "times" s_times ["one", "other"]
  d__law_cell_at : Dx K mg "_law_cell_at" s__law_cell_at ["_law_script", "_law_k"]
  d__law_draw : Dx K mg "_law_draw" s__law_draw ["_law_cell", "_law_k", "_law_many"]
  d__law_common : Dx K mg "_law_common" s__law_common ["_law_one", "_law_other"]
  d__law_pair : Dx K mg "_law_pair" s__law_pair ["_law_cell"]
  d__law_is : Dx K mg "_law_is" s__law_is ["_law_told", "_law_one", "_law_other"]
variable {P : Program} {w : World} {K : PySem.W.Frag} {mg : Str → Option Value} {base : Heap}
/-! ### fractions, plainly -/
def mk (a b : Int) : Int × Int := (a / Int.gcd a b, b / Int.gcd a b)
theorem gcd_pos {a b : Int} (h : 0 < b) : (0 : Int) < Int.gcd a b := by
  have := Int.gcd_pos_of_ne_zero_right a (b := b) (by omega)
  omega
theorem mk_pos {a b : Int} (h : 0 < b) : 0 < (mk a b).2 := by
  show 0 < b / Int.gcd a b
  have h1 : b / (Int.gcd a b : Int) * Int.gcd a b = b := Int.ediv_mul_cancel (Int.gcd_dvd_right a b)
  have h2 := gcd_pos (a := a) h
  rcases Int.lt_trichotomy (b / (Int.gcd a b : Int)) 0 with h3 | h3 | h3
  · have := Int.mul_neg_of_neg_of_pos h3 h2; omega
  · rw [h3] at h1; omega
  · exact h3
theorem mk_low {a b : Int} (h : 0 < b) : Int.gcd (mk a b).1 (mk a b).2 = 1 := Int.gcd_ediv_gcd_ediv_gcd (by have := gcd_pos (a := a) h; omega)
theorem mk_eq {a b : Int} (h : 0 < b) : (mk a b).1 * b = a * (mk a b).2 := by
  show a / (Int.gcd a b : Int) * b = a * (b / Int.gcd a b)
  have h1 : a / (Int.gcd a b : Int) * Int.gcd a b = a := Int.ediv_mul_cancel (Int.gcd_dvd_left a b)
  have h2 : b / (Int.gcd a b : Int) * Int.gcd a b = b := Int.ediv_mul_cancel (Int.gcd_dvd_right a b)
  generalize a / (Int.gcd a b : Int) = x at *
  generalize b / (Int.gcd a b : Int) = y at *
  generalize (Int.gcd a b : Int) = g at *
  subst h1 h2
  rw [Int.mul_assoc, Int.mul_comm g y, Int.mul_comm y g]
theorem mk_le1 (a b : Int) : (mk a b).1.natAbs ≤ a.natAbs := Int.natAbs_ediv_le_natAbs _ _
theorem mk_le2 (a b : Int) : (mk a b).2.natAbs ≤ b.natAbs := Int.natAbs_ediv_le_natAbs _ _
theorem dvd_of_low {a b d : Int} (h : b ∣ a * d) (g : Int.gcd a b = 1) : b ∣ d := by
  rw [← Int.natAbs_dvd_natAbs] at h ⊢
  rw [Int.natAbs_mul, Nat.mul_comm] at h
  exact Nat.Coprime.dvd_of_dvd_mul_right (show Nat.gcd b.natAbs a.natAbs = 1 by rw [Nat.gcd_comm]; exact g) h
/-- lowest terms are unique -/
theorem low_unique {p q : Int × Int} (h1 : 0 < p.2) (h2 : 0 < q.2) (g1 : Int.gcd p.1 p.2 = 1) (g2 : Int.gcd q.1 q.2 = 1) (e : p.1 * q.2 = q.1 * p.2) : p = q := by
  obtain ⟨a, b⟩ := p
  obtain ⟨c, d⟩ := q
  simp only at *
  have d1 : b ∣ d := by
    have : b ∣ a * d := by rw [e]; exact Int.dvd_mul_left c b
    exact dvd_of_low this g1
  have d2 : d ∣ b := by
    have : d ∣ c * b := by rw [← e]; exact Int.dvd_mul_left a d
    exact dvd_of_low this g2
  have hb : b = d := Int.dvd_antisymm (by omega) (by omega) d1 d2
  subst hb
  have : a = c := Int.eq_of_mul_eq_mul_right (by omega) e
  rw [this]
theorem mk_of_low {p : Int × Int} (h1 : 0 < p.2) (g1 : Int.gcd p.1 p.2 = 1) : mk p.1 p.2 = p := low_unique (mk_pos h1) h1 (mk_low h1) g1 (mk_eq h1)
def fplus (p q : Int × Int) : Int × Int := mk (p.1 * q.2 + q.1 * p.2) (p.2 * q.2)
def ftimes (p q : Int × Int) : Int × Int := mk (p.1 * q.1) (p.2 * q.2)

/-! ### draws -/
def primesL : List Int := [1000003, 1000033, 1000037, 1000039, 1000081, 1000099, 1000117, 1000121, 1000133, 1000151, 1000159, 1000171, 1000183, 1000187, 1000193, 1000199]
def drw (c k m : Int) : Int := (c * 48271 + k * 69621) % primesL.getD k.toNat 0 % m
theorem primes_pos : ∀ k : Nat, k < 16 → (0 : Int) < primesL.getD k 0 := by decide
theorem drw_lo {c k m : Int} (h : 0 < m) : 0 ≤ drw c k m := Int.emod_nonneg _ (by omega)
theorem drw_hi {c k m : Int} (h : 0 < m) : drw c k m < m := Int.emod_lt_of_pos _ h
/-! ### _law_cell_at, _law_draw -/
abbrev pre__law_cell_at := fn2 (fun (ns : List Int) (k : Nat) => [.d (.list (ns.map .int)), .d (.int k)]) (fun _ _ => True) (fun ns k => .f (.int (ns.getD k 0)))
theorem ok__law_cell_at (T : Tx K mg) {f : Addr} {fd : FuncData} (D : Df K mg "_law_cell_at" s__law_cell_at ["_law_script", "_law_k"] f fd) : FnOk P w K mg base CX0 1 f fd ["_law_script", "_law_k"] (spF K pre__law_cell_at) := by
  refine ok_def D.F sc__law_cell_at (fun ags r h => by first | (obtain ⟨_, rfl, _⟩ := h; rfl) | (obtain ⟨_, _, rfl, _⟩ := h; rfl) | (obtain ⟨_, _, _, rfl, _⟩ := h; rfl) | (obtain ⟨_, _, _, _, rfl, _⟩ := h; rfl)) (fun cdv A outer s H E hr => ⟨_, (pss_cons (ps_if (pt_cmpR op_lt (pv 1) (pe_callB (xcall_len K) (by rfl) T.b_len (by decide +kernel) (pa_cons (pv 0) pa_nil)) (nomark _)) (pss_one (ps_ret (pe_ix (xix_list K) (pv 0) (pv 1) (fun _ _ => rfl)))) pss_nil)
      (pss_one (ps_ret pe_int))), fun ags r h => ?_⟩)
  obtain ⟨ns, k, rfl, _, rfl⟩ := h
  show W K _ [.gen (.list (ns.map .int)), .fl (.int k)] _
  refine q_when (b := decide ((k : Int) < ns.length)) ?_ (fun hb => ?_) (fun hb => ?_)
  · refine EvT.is (b := decide ((k : Int) < (ns.map PyData.int).length)) ?_ (by rw [List.length_map])
    refine evT_test ?_
    refine evF_opB0 ?_ ?_
    · walk_at "ev"
    · with_reducible refine evF_lenL ?_
      walk_at "ev"
  · have hk : k < ns.length := by have := of_decide_eq_true hb; omega
    refine w_ret (d := .int (ns.getD k 0)) (evF_ixL (ds := ns.map .int) (i := k) (by walk_at "ev") (by walk_at "ev") (atI_mapD _ _ hk) rfl) rfl
  · have hk : ¬ k < ns.length := by have := of_decide_eq_false hb; omega
    refine w_ret (d := .int 0) (by walk_at "ev") ?_
    show Rt.f (.int 0) = Rt.f (.int (ns.getD k 0))
    rw [List.getD_eq_getElem?_getD, List.getElem?_eq_none (by omega)] <;> rfl
abbrev pre__law_draw := fn3 (fun (c k m : Int) => [.d (.int c), .d (.int k), .d (.int m)]) (fun _ k m => 0 ≤ k ∧ k < 16 ∧ 0 < m) (fun c k m => .f (.int (drw c k m)))
theorem ok__law_draw (T : Tx K mg) {f : Addr} {fd : FuncData} (D : Df K mg "_law_draw" s__law_draw ["_law_cell", "_law_k", "_law_many"] f fd) : FnOk P w K mg base CX0 1 f fd ["_law_cell", "_law_k", "_law_many"] (spF K pre__law_draw) := by
  refine ok_def D.F sc__law_draw (fun ags r h => by first | (obtain ⟨_, rfl, _⟩ := h; rfl) | (obtain ⟨_, _, rfl, _⟩ := h; rfl) | (obtain ⟨_, _, _, rfl, _⟩ := h; rfl) | (obtain ⟨_, _, _, _, rfl, _⟩ := h; rfl)) (fun cdv A outer s H E hr => ⟨_, (pss_cons (ps_set (i := 3) sc__law_draw.nd rfl (Or.inl rfl) (pe_tup (pa_cons pe_int (pa_cons pe_int (pa_cons pe_int (pa_cons pe_int (pa_cons pe_int (pa_cons pe_int (pa_cons pe_int (pa_cons pe_int (pa_cons pe_int (pa_cons pe_int (pa_cons pe_int (pa_cons pe_int (pa_cons pe_int (pa_cons pe_int (pa_cons pe_int (pa_cons pe_int pa_nil))))))))))))))))))
      (pss_one (ps_ret (pe_op op_mod (pe_op op_mod (pe_op op_add (pe_op op_mulA (pv 0) pe_int) (pe_op op_mulA (pv 1) pe_int)) (pe_ix (xix_tup K) (pv 3) (pe_op op_mod (pv 1) pe_int) (fun _ _ => rfl))) (pv 2))))), fun ags r h => ?_⟩)
  obtain ⟨c, k, m, rfl, ⟨hk0, hk, hm⟩, rfl⟩ := h
  show W K _ [.fl (.int c), .fl (.int k), .fl (.int m), .un] _
  refine q_asg (d := .tuple (primesL.map .int)) (by dsimp only [primesL, List.map]; walk_at "ev") ?_
  refine w_ret (d := .int (drw c k m)) ?_ rfl
  have hn : k.toNat < 16 := by omega
  have e : (k % 16) = (k.toNat : Int) := by omega
  refine evF_opI (i := (c * 48271 + k * 69621) % primesL.getD k.toNat 0) (j := m) (g := fun i j => i % j) ?_ (by walk_at "ev") hm
  refine evF_opI (i := c * 48271 + k * 69621) (j := primesL.getD k.toNat 0) (g := fun i j => i % j) ?_ ?_ (primes_pos _ hn)
  · walk_at "ev"
    · exact cma_r (by omega)
    · exact cma_r (by omega)
  · refine evF_ixT (ds := primesL.map .int) (i := k % 16) (by walk_at "ev") (by walk_at "ev") ?_ rfl
    rw [e]
    exact atI_mapD _ _ (by simpa [primesL] using hn)

/-! ### common, made, plus, times -/
abbrev pre_common := fn2 (fun a b : Int => [.d (.int a), .d (.int b)]) (fun a b => Bd 4000 a ∧ Bd 4000 b) (fun a b => .f (.int (Int.gcd a b)))
theorem rest_eq (x y : Nat) : ((x : Int) - (x : Int) / (y : Int) * (y : Int)) = ((x % y : Nat) : Int) := by
  have := Int.ediv_mul_add_emod (x : Int) (y : Int)
  rw [Int.natCast_emod]
  omega
theorem ok_common (T : Tx K mg) {f : Addr} {fd : FuncData} (D : Df K mg "common" s_common ["one", "other"] f fd) : FnOk P w K mg base CX0 1 f fd ["one", "other"] (spF K pre_common) := by
  refine ok_def D.F sc_common (fun ags r h => by first | (obtain ⟨_, rfl, _⟩ := h; rfl) | (obtain ⟨_, _, rfl, _⟩ := h; rfl) | (obtain ⟨_, _, _, rfl, _⟩ := h; rfl) | (obtain ⟨_, _, _, _, rfl, _⟩ := h; rfl)) (fun cdv A outer s H E hr => ⟨_, (pss_cons (ps_set (i := 0) sc_common.nd rfl (Or.inl rfl) (pe_callB call_abs (by rfl) T.b_abs (by decide +kernel) (pa_cons (pv 0) pa_nil)))
      (pss_cons (ps_set (i := 1) sc_common.nd rfl (Or.inl rfl) (pe_callB call_abs (by rfl) T.b_abs (by decide +kernel) (pa_cons (pv 1) pa_nil)))
      (pss_cons (ps_while PassesOwn.never (pt_cmpR op_gt (pv 1) pe_int (nomark _)) (pss_one (ps_par (i := 0) (j := 1) (by rfl) sc_common.nd rfl rfl (by decide) rfl rfl (pa_cons (pv 1) (pa_cons (pe_op op_sub (pv 0) (pe_op op_mulA (pe_op op_fdivW (pv 0) (pv 1)) (pv 1))) pa_nil)) (by rfl))))
      (pss_one (ps_ret (pv 0)))))), fun ags r h => ?_⟩)
  obtain ⟨a, b, rfl, ⟨ba, bb⟩, rfl⟩ := h
  show W K _ [.fl (.int a), .fl (.int b)] _
  refine q_asg (d := .int a.natAbs) (by walk_at "ev") ?_
  refine q_asg (d := .int b.natAbs) (by walk_at "ev") ?_
  refine q_while (fun m ρ => ∃ x y : Nat, m = y ∧ ρ = [.fl (.int x), .fl (.int y)] ∧ Nat.gcd x y = Int.gcd a b ∧ Bd 4000 x ∧ Bd 4000 y) b.natAbs ⟨a.natAbs, b.natAbs, rfl, rfl, rfl, ba, bb⟩ ?_
  rintro m ρ ⟨x, y, hm, rfl, hg, bx, by'⟩
  refine ⟨decide (0 < (y : Int)), by walk_at "ev", fun hy => ?_, fun hy => ?_⟩
  · have hy := of_decide_eq_true hy
    have hy2 : 0 < y := by omega
    refine w_par (x := .int y) (y := .int (x - x / y * y)) ?_ ⟨x % y, by rw [hm]; exact Nat.mod_lt _ hy2, y, x % y, rfl, by rw [rest_eq]; rfl, ?_, by', ?_⟩
    · walk_at "ev"
      · exact Bd.cdiv hy by' (by decide) (by decide)
      · exact Bd.cma (bx.le (by rw [← Int.natCast_ediv]; simp; exact Nat.div_le_self _ _)) by' (by decide) (by decide) (by decide)
    · rw [← hg, Nat.gcd_comm y, ← Nat.gcd_rec, Nat.gcd_comm]
    · exact by'.le (by rw [Int.natAbs_natCast, Int.natAbs_natCast]; exact Nat.le_of_lt (Nat.mod_lt x hy2))
  · have hy := of_decide_eq_false hy
    have hy2 : y = 0 := by omega
    subst hy2
    refine w_ret (d := .int x) (by walk_at "ev") ?_
    show Rt.f (.int x) = Rt.f (.int (Int.gcd a b))
    rw [← hg, Nat.gcd_zero_right]
abbrev eF (p : Int × Int) : PyData := .tuple [.int p.1, .int p.2]
abbrev pre_made := fn2 (fun a b : Int => [.d (.int a), .d (.int b)]) (fun a b => 0 < b ∧ Bd 4000 a ∧ Bd 4000 b) (fun a b => .f (eF (mk a b)))
theorem ok_made (T : Tx K mg) {f : Addr} {fd : FuncData} (D : Df K mg "made" s_made ["a", "b"] f fd) : FnOk P w K mg base CX0 2 f fd ["a", "b"] (spF K pre_made) := by
  obtain ⟨f_common, fd_common, D_common⟩ := T.d_common
  have G_common := ok_common (P := P) (w := w) (base := base) T D_common
  refine ok_def D.F sc_made (fun ags r h => by first | (obtain ⟨_, rfl, _⟩ := h; rfl) | (obtain ⟨_, _, rfl, _⟩ := h; rfl) | (obtain ⟨_, _, _, rfl, _⟩ := h; rfl) | (obtain ⟨_, _, _, _, rfl, _⟩ := h; rfl)) (fun cdv A outer s H E hr => ⟨_, (pss_cons (ps_set (i := 2) sc_made.nd rfl (Or.inl rfl) (pe_call G_common (hr.mono (by decide)) (by rfl) D_common.g D_common.F.kp D_common.b .nil pass0 (pa_cons (pv 0) (pa_cons (pv 1) pa_nil))))
      (pss_one (ps_ret (pe_tup (pa_cons (pe_op op_fdivW (pv 0) (pv 2)) (pa_cons (pe_op op_fdivW (pv 1) (pv 2)) pa_nil)))))), fun ags r h => ?_⟩)
  obtain ⟨a, b, rfl, ⟨hb, ba, bb⟩, rfl⟩ := h
  show W K _ [.fl (.int a), .fl (.int b), .un] _
  refine q_asg (d := .int (Int.gcd a b)) (evF_call2 (a := a) (b := b) (by walk_at "ev") ⟨ba, bb⟩ rfl) ?_
  refine w_ret (d := eF (mk a b)) ?_ rfl
  have h1 := gcd_pos (a := a) hb
  have h2 : Bd 4000 (Int.gcd a b : Int) := bb.le (by
    have := Int.gcd_dvd_right a b
    have := Int.natAbs_dvd_natAbs.mpr this
    exact Nat.le_of_dvd (by omega) this)
  show EvF K _ _ (.tuple [.int (a / Int.gcd a b), .int (b / Int.gcd a b)])
  walk_at "ev"
  · exact Bd.cdiv h1 h2 (by decide) (by decide)
  · exact Bd.cdiv h1 h2 (by decide) (by decide)
abbrev pre_plus := fn2 (fun p q : Int × Int => [.d (eF p), .d (eF q)]) (fun p q => 0 < p.2 ∧ 0 < q.2 ∧ Bd 1000 p.1 ∧ Bd 1000 p.2 ∧ Bd 1000 q.1 ∧ Bd 1000 q.2) (fun p q => .f (eF (fplus p q)))
theorem ok_plus (T : Tx K mg) {f : Addr} {fd : FuncData} (D : Df K mg "plus" s_plus ["one", "other"] f fd) : FnOk P w K mg base CX0 3 f fd ["one", "other"] (spF K pre_plus) := by
  obtain ⟨f_made, fd_made, D_made⟩ := T.d_made
  have G_made := ok_made (P := P) (w := w) (base := base) T D_made
  refine ok_def D.F sc_plus (fun ags r h => by first | (obtain ⟨_, rfl, _⟩ := h; rfl) | (obtain ⟨_, _, rfl, _⟩ := h; rfl) | (obtain ⟨_, _, _, rfl, _⟩ := h; rfl) | (obtain ⟨_, _, _, _, rfl, _⟩ := h; rfl)) (fun cdv A outer s H E hr => ⟨_, (pss_one (ps_ret (pe_call G_made (hr.mono (by decide)) (by rfl) D_made.g D_made.F.kp D_made.b .nil pass0 (pa_cons (pe_op op_add (pe_op op_mulA (pe_ix (xix_tup K) (pv 0) pe_int (fun _ _ => rfl)) (pe_ix (xix_tup K) (pv 1) pe_int (fun _ _ => rfl))) (pe_op op_mulA (pe_ix (xix_tup K) (pv 1) pe_int (fun _ _ => rfl)) (pe_ix (xix_tup K) (pv 0) pe_int (fun _ _ => rfl)))) (pa_cons (pe_op op_mulA (pe_ix (xix_tup K) (pv 0) pe_int (fun _ _ => rfl)) (pe_ix (xix_tup K) (pv 1) pe_int (fun _ _ => rfl))) pa_nil))))), fun ags r h => ?_⟩)
  obtain ⟨p, q, rfl, ⟨h1, h2, b1, b2, b3, b4⟩, rfl⟩ := h
  show W K _ [.fl (eF p), .fl (eF q)] _
  refine w_ret (d := eF (fplus p q)) (evF_call2 (a := p.1 * q.2 + q.1 * p.2) (b := p.2 * q.2) ?_ ⟨Int.mul_pos h1 h2, ((b1.mul b4).add (b3.mul b2)).mono (by decide), (b2.mul b4).mono (by decide)⟩ rfl) rfl
  walk_at "ev"
  · exact b1.cma b4 (by decide) (by decide) (by decide)
  · exact b3.cma b2 (by decide) (by decide) (by decide)
  · exact b2.cma b4 (by decide) (by decide) (by decide)
abbrev pre_times := fn2 (fun p q : Int × Int => [.d (eF p), .d (eF q)]) (fun p q => 0 < p.2 ∧ 0 < q.2 ∧ Bd 1000 p.1 ∧ Bd 1000 p.2 ∧ Bd 1000 q.1 ∧ Bd 1000 q.2) (fun p q => .f (eF (ftimes p q)))
theorem ok_times (T : Tx K mg) {f : Addr} {fd : FuncData} (D : Df K mg "times" s_times ["one", "other"] f fd) : FnOk P w K mg base CX0 3 f fd ["one", "other"] (spF K pre_times) := by
  obtain ⟨f_made, fd_made, D_made⟩ := T.d_made
  have G_made := ok_made (P := P) (w := w) (base := base) T D_made
  refine ok_def D.F sc_times (fun ags r h => by first | (obtain ⟨_, rfl, _⟩ := h; rfl) | (obtain ⟨_, _, rfl, _⟩ := h; rfl) | (obtain ⟨_, _, _, rfl, _⟩ := h; rfl) | (obtain ⟨_, _, _, _, rfl, _⟩ := h; rfl)) (fun cdv A outer s H E hr => ⟨_, (pss_one (ps_ret (pe_call G_made (hr.mono (by decide)) (by rfl) D_made.g D_made.F.kp D_made.b .nil pass0 (pa_cons (pe_op op_mulA (pe_ix (xix_tup K) (pv 0) pe_int (fun _ _ => rfl)) (pe_ix (xix_tup K) (pv 1) pe_int (fun _ _ => rfl))) (pa_cons (pe_op op_mulA (pe_ix (xix_tup K) (pv 0) pe_int (fun _ _ => rfl)) (pe_ix (xix_tup K) (pv 1) pe_int (fun _ _ => rfl))) pa_nil))))), fun ags r h => ?_⟩)
  obtain ⟨p, q, rfl, ⟨h1, h2, b1, b2, b3, b4⟩, rfl⟩ := h
  show W K _ [.fl (eF p), .fl (eF q)] _
  refine w_ret (d := eF (ftimes p q)) (evF_call2 (a := p.1 * q.1) (b := p.2 * q.2) ?_ ⟨Int.mul_pos h1 h2, (b1.mul b3).mono (by decide), (b2.mul b4).mono (by decide)⟩ rfl) rfl
  walk_at "ev"
  · exact b1.cma b3 (by decide) (by decide) (by decide)
  · exact b2.cma b4 (by decide) (by decide) (by decide)

/-! ### _law_common, _law_pair, _law_is -/
abbrev pre__law_common := fn2 (fun a b : Nat => [.d (.int a), .d (.int b)]) (fun _ _ => True) (fun a b => .f (.int (Nat.gcd a b)))
theorem ok__law_common (T : Tx K mg) {f : Addr} {fd : FuncData} (D : Df K mg "_law_common" s__law_common ["_law_one", "_law_other"] f fd) : FnOk P w K mg base CX0 1 f fd ["_law_one", "_law_other"] (spF K pre__law_common) := by
  refine ok_def D.F sc__law_common (fun ags r h => by first | (obtain ⟨_, rfl, _⟩ := h; rfl) | (obtain ⟨_, _, rfl, _⟩ := h; rfl) | (obtain ⟨_, _, _, rfl, _⟩ := h; rfl) | (obtain ⟨_, _, _, _, rfl, _⟩ := h; rfl)) (fun cdv A outer s H E hr => ⟨_, (pss_cons (ps_while PassesOwn.never (pt_cmpR op_gt (pv 1) pe_int (nomark _)) (pss_one (ps_par (i := 0) (j := 1) (by rfl) sc__law_common.nd rfl rfl (by decide) rfl rfl (pa_cons (pv 1) (pa_cons (pe_op op_mod (pv 0) (pv 1)) pa_nil)) (by rfl))))
      (pss_one (ps_ret (pv 0)))), fun ags r h => ?_⟩)
  obtain ⟨a, b, rfl, _, rfl⟩ := h
  show W K _ [.fl (.int a), .fl (.int b)] _
  refine q_while (fun m ρ => ∃ x y : Nat, m = y ∧ ρ = [.fl (.int x), .fl (.int y)] ∧ Nat.gcd x y = Nat.gcd a b) b ⟨a, b, rfl, rfl, rfl⟩ ?_
  rintro m ρ ⟨x, y, hm, rfl, hg⟩
  refine ⟨decide (0 < (y : Int)), by walk_at "ev", fun hy => ?_, fun hy => ?_⟩
  · have hy := of_decide_eq_true hy
    have hy2 : 0 < y := by omega
    refine w_par (x := .int y) (y := .int ((x : Int) % (y : Int))) (by walk_at "ev") ⟨x % y, by rw [hm]; exact Nat.mod_lt _ hy2, y, x % y, rfl, rfl, ?_⟩
    rw [← hg, Nat.gcd_comm y, ← Nat.gcd_rec, Nat.gcd_comm]
  · have hy := of_decide_eq_false hy
    have hy2 : y = 0 := by omega
    subst hy2
    refine w_ret (d := .int x) (by walk_at "ev") ?_
    show Rt.f (.int x) = Rt.f (.int (Nat.gcd a b))
    rw [← hg, Nat.gcd_zero_right]
def byOf (c : Int) : Int := ([1, 2, 3, 6, 30, 1] : List Int).getD (drw c 1 6).toNat 0
theorem byOf_bd (c : Int) : 1 ≤ byOf c ∧ byOf c ≤ 30 := by
  have h : ∀ k : Nat, k < 6 → 1 ≤ ([1, 2, 3, 6, 30, 1] : List Int).getD k 0 ∧ ([1, 2, 3, 6, 30, 1] : List Int).getD k 0 ≤ 30 := by decide
  exact h _ (by have := drw_hi (c := c) (k := 1) (m := 6) (by decide); omega)
def oneA (c : Int) : Int := (drw c 2 2001 - 1000) * byOf c
def oneB (c : Int) : Int := if drw c 3 8 = 0 then 0 else oneA c
def oneC (c : Int) : Int := if drw c 4 8 = 1 then oneB c * (drw c 5 1000 + 1) * 1000003 else oneB c
def pairN (c : Int) : Int × Int := (oneC c, (1 + drw c 6 1000) * byOf c)
theorem oneA_bd (c : Int) : Bd 20 (oneA c) := by
  have h1 := byOf_bd c
  have h2 := drw_lo (c := c) (k := 2) (m := 2001) (by decide)
  have h3 := drw_hi (c := c) (k := 2) (m := 2001) (by decide)
  have : Bd 10 (drw c 2 2001 - 1000) := by unfold Bd; omega
  exact this.mul (m := 10) (by unfold Bd; omega)
theorem oneB_bd (c : Int) : Bd 20 (oneB c) := by
  unfold oneB
  split
  · unfold Bd; decide
  · exact oneA_bd c
theorem oneC_bd (c : Int) : Bd 60 (oneC c) := by
  unfold oneC
  split
  · have h2 := drw_lo (c := c) (k := 5) (m := 1000) (by decide)
    have h3 := drw_hi (c := c) (k := 5) (m := 1000) (by decide)
    exact (((oneB_bd c).mul (m := 10) (j := drw c 5 1000 + 1) (by unfold Bd; omega)).mul (m := 20) (j := 1000003) (by unfold Bd; decide)).mono (by decide)
  · exact (oneB_bd c).mono (by decide)
theorem pair_bd (c : Int) : 0 < (pairN c).2 ∧ Bd 60 (pairN c).1 ∧ Bd 20 (pairN c).2 := by
  have h1 := byOf_bd c
  have h2 := drw_lo (c := c) (k := 6) (m := 1000) (by decide)
  have h3 := drw_hi (c := c) (k := 6) (m := 1000) (by decide)
  have : Bd 10 (1 + drw c 6 1000) := by unfold Bd; omega
  exact ⟨Int.mul_pos (by omega) (by omega), oneC_bd c, this.mul (m := 10) (by unfold Bd; omega)⟩
abbrev pre__law_pair := fn1 (fun c : Int => [.d (.int c)]) (fun _ => True) (fun c => .f (eF (pairN c)))
theorem ok__law_pair (T : Tx K mg) {f : Addr} {fd : FuncData} (D : Df K mg "_law_pair" s__law_pair ["_law_cell"] f fd) : FnOk P w K mg base CX0 2 f fd ["_law_cell"] (spF K pre__law_pair) := by
  obtain ⟨f__law_draw, fd__law_draw, D__law_draw⟩ := T.d__law_draw
  have G__law_draw := ok__law_draw (P := P) (w := w) (base := base) T D__law_draw
  refine ok_def D.F sc__law_pair (fun ags r h => by first | (obtain ⟨_, rfl, _⟩ := h; rfl) | (obtain ⟨_, _, rfl, _⟩ := h; rfl) | (obtain ⟨_, _, _, rfl, _⟩ := h; rfl) | (obtain ⟨_, _, _, _, rfl, _⟩ := h; rfl)) (fun cdv A outer s H E hr => ⟨_, (pss_cons (ps_set (i := 1) sc__law_pair.nd rfl (Or.inl rfl) (pe_ix (xix_tup K) (pe_tup (pa_cons pe_int (pa_cons pe_int (pa_cons pe_int (pa_cons pe_int (pa_cons pe_int (pa_cons pe_int pa_nil))))))) (pe_call G__law_draw (hr.mono (by decide)) (by rfl) D__law_draw.g D__law_draw.F.kp D__law_draw.b .nil pass0 (pa_cons (pv 0) (pa_cons pe_int (pa_cons pe_int pa_nil)))) (fun _ _ => rfl)))
      (pss_cons (ps_set (i := 2) sc__law_pair.nd rfl (Or.inl rfl) (pe_op op_mulA (pe_op op_sub (pe_call G__law_draw (hr.mono (by decide)) (by rfl) D__law_draw.g D__law_draw.F.kp D__law_draw.b .nil pass0 (pa_cons (pv 0) (pa_cons pe_int (pa_cons pe_int pa_nil)))) pe_int) (pv 1)))
      (pss_cons (ps_if (pt_cmpR op_eq (pe_call G__law_draw (hr.mono (by decide)) (by rfl) D__law_draw.g D__law_draw.F.kp D__law_draw.b .nil pass0 (pa_cons (pv 0) (pa_cons pe_int (pa_cons pe_int pa_nil)))) pe_int (nomark _)) (pss_one (ps_set (i := 2) sc__law_pair.nd rfl (Or.inl rfl) pe_int)) pss_nil)
      (pss_cons (ps_if (pt_cmpR op_eq (pe_call G__law_draw (hr.mono (by decide)) (by rfl) D__law_draw.g D__law_draw.F.kp D__law_draw.b .nil pass0 (pa_cons (pv 0) (pa_cons pe_int (pa_cons pe_int pa_nil)))) pe_int (nomark _)) (pss_one (ps_set (i := 2) sc__law_pair.nd rfl (Or.inl rfl) (pe_op op_mulA (pe_op op_mulA (pv 2) (pe_op op_add (pe_call G__law_draw (hr.mono (by decide)) (by rfl) D__law_draw.g D__law_draw.F.kp D__law_draw.b .nil pass0 (pa_cons (pv 0) (pa_cons pe_int (pa_cons pe_int pa_nil)))) pe_int)) pe_int))) pss_nil)
      (pss_one (ps_ret (pe_tup (pa_cons (pv 2) (pa_cons (pe_op op_mulA (pe_op op_add pe_int (pe_call G__law_draw (hr.mono (by decide)) (by rfl) D__law_draw.g D__law_draw.F.kp D__law_draw.b .nil pass0 (pa_cons (pv 0) (pa_cons pe_int (pa_cons pe_int pa_nil))))) (pv 1)) pa_nil))))))))), fun ags r h => ?_⟩)
  obtain ⟨c, rfl, _, rfl⟩ := h
  show W K _ [.fl (.int c), .un, .un] _
  have l1 := drw_lo (c := c) (k := 1) (m := 6) (by decide)
  have u1 := drw_hi (c := c) (k := 1) (m := 6) (by decide)
  have hb := byOf_bd c
  have cast : (((drw c 1 6).toNat : Nat) : Int) = drw c 1 6 := by omega
  refine q_asg (d := .int (byOf c)) (evF_ixT (ds := ([1, 2, 3, 6, 30, 1] : List Int).map .int) (i := drw c 1 6) ?_ (by walk_at "ev") ?_ rfl) ?_
  · dsimp only [List.map]; walk_at "ev"
  · rw [← cast]; exact atI_mapD _ _ (by simp; omega)
  refine q_asg (d := .int (oneA c)) ?_ ?_
  · show EvF K _ _ (.int ((drw c 2 2001 - 1000) * byOf c))
    walk_at "ev"
    exact cma_r (by omega)
  have b1 := oneA_bd c
  have b2 := oneB_bd c
  have b3 := drw_lo (c := c) (k := 5) (m := 1000) (by decide)
  have b4 := drw_hi (c := c) (k := 5) (m := 1000) (by decide)
  refine q_ifAsg (b := decide (drw c 3 8 = 0)) (d := .int (oneB c)) (by walk_at "ev") (fun hb => ?_) (fun hb => ?_) ?_
  · rw [show oneB c = 0 from if_pos (of_decide_eq_true hb)]; walk_at "ev"
  · rw [show oneB c = oneA c from if_neg (of_decide_eq_false hb)]; rfl
  refine q_ifAsg (b := decide (drw c 4 8 = 1)) (d := .int (oneC c)) (by walk_at "ev") (fun hb => ?_) (fun hb => ?_) ?_
  · rw [show oneC c = oneB c * (drw c 5 1000 + 1) * 1000003 from if_pos (of_decide_eq_true hb)]
    walk_at "ev"
    · exact cma_r (by omega)
    · exact cma_r (by omega)
  · rw [show oneC c = oneB c from if_neg (of_decide_eq_false hb)]; rfl
  refine w_ret (d := eF (pairN c)) ?_ rfl
  show EvF K _ _ (.tuple [.int (oneC c), .int ((1 + drw c 6 1000) * byOf c)])
  walk_at "ev"
  exact cma_r (by omega)
abbrev isArg (p : Int × Int) (a b : Int) : List Ag := [.d (eF p), .d (.int a), .d (.int b)]
abbrev pre__law_is := fn3 isArg (fun p a b => 0 < p.2 ∧ Int.gcd p.1 p.2 = 1 ∧ p.1 * b = a * p.2 ∧ Bd 1000 p.1 ∧ Bd 1000 p.2 ∧ Bd 1000 a ∧ Bd 1000 b) (fun _ _ _ => .f (.bool true))
theorem ok__law_is (T : Tx K mg) {f : Addr} {fd : FuncData} (D : Df K mg "_law_is" s__law_is ["_law_told", "_law_one", "_law_other"] f fd) : FnOk P w K mg base CX0 2 f fd ["_law_told", "_law_one", "_law_other"] (spF K pre__law_is) := by
  obtain ⟨f__law_common, fd__law_common, D__law_common⟩ := T.d__law_common
  have G__law_common := ok__law_common (P := P) (w := w) (base := base) T D__law_common
  refine ok_def D.F sc__law_is (fun ags r h => by first | (obtain ⟨_, rfl, _⟩ := h; rfl) | (obtain ⟨_, _, rfl, _⟩ := h; rfl) | (obtain ⟨_, _, _, rfl, _⟩ := h; rfl) | (obtain ⟨_, _, _, _, rfl, _⟩ := h; rfl)) (fun cdv A outer s H E hr => ⟨_, (pss_cons (ps_if (PW.pt (pw_or (pt_not (pt_val (pe_callB (xcall_isi K) (by rfl) T.b_isinstance (by decide +kernel) (pa_cons (pv 0) (pa_cons (pe_tyn "tuple" (by rfl) T.b_tuple (by decide +kernel)) pa_nil))))) (pw_or1 (pt_cmpR op_ne (pe_callB (xcall_len K) (by rfl) T.b_len (by decide +kernel) (pa_cons (pv 0) pa_nil)) pe_int (nomark _))))) (pss_one (ps_ret pe_bl)) pss_nil)
      (pss_cons (ps_if (pt_val (pe_callB (xcr_any K rfl) (by rfl) T.b_any (by decide +kernel) (pa_cons (pe_lc (own := [("_law_part", 3)]) (g := gName 3) rfl sc__law_is.nd (xpi_tup K (pv 0)) (blkOk_by (own := [("_law_part", 3)]) (N := nl__law_is) (sc := defScope s__law_is) (by decide +kernel)) (fun _ _ _ _ _ => pg_name (i := 3) sc__law_is.nd rfl (Or.inl rfl)) (fun _ _ _ _ _ => pts_nil) (fun _ _ _ _ _ => (pe_or (pe_callB (xcall_isi K) (by rfl) T.b_isinstance (by decide +kernel) (pa_cons (pv 3) (pa_cons (pe_tyn "bool" (by rfl) T.b_bool (by decide +kernel)) pa_nil))) (pe_one (pe_not (pe_callB (xcall_isi K) (by rfl) T.b_isinstance (by decide +kernel) (pa_cons (pv 3) (pa_cons (pe_tyn "int" (by rfl) T.b_int (by decide +kernel)) pa_nil)))))))) pa_nil))) (pss_one (ps_ret pe_bl)) pss_nil)
      (pss_cons (ps_if (PW.pt (pw_or (pt_cmpR op_lt (pe_ix (xix_tup K) (pv 0) pe_int (fun _ _ => rfl)) pe_int (nomark _)) (pw_or1 (pt_cmpR op_ne (pe_call G__law_common (hr.mono (by decide)) (by rfl) D__law_common.g D__law_common.F.kp D__law_common.b .nil pass0 (pa_cons (pe_callB call_abs (by rfl) T.b_abs (by decide +kernel) (pa_cons (pe_ix (xix_tup K) (pv 0) pe_int (fun _ _ => rfl)) pa_nil)) (pa_cons (pe_ix (xix_tup K) (pv 0) pe_int (fun _ _ => rfl)) pa_nil))) pe_int (nomark _))))) (pss_one (ps_ret pe_bl)) pss_nil)
      (pss_one (ps_ret (pe_cmpR op_eq (pe_op op_mulA (pe_ix (xix_tup K) (pv 0) pe_int (fun _ _ => rfl)) (pv 2)) (pe_op op_mulA (pv 1) (pe_ix (xix_tup K) (pv 0) pe_int (fun _ _ => rfl))) (nomark _))))))), fun ags r h => ?_⟩)
  obtain ⟨p, a, b, rfl, ⟨h1, h2, h3, b1, b2, b3, b4⟩, rfl⟩ := h
  show W K _ [.fl (eF p), .fl (.int a), .fl (.int b), .un] _
  refine q_when (b := false) ?_ (fun hb => by cases hb) fun _ => ?_
  · refine EvT.is (b := (!true) || !decide ((2 : Int) = 2)) ?_ rfl
    walk_at "ev"
  refine q_when (b := false) ?_ (fun hb => by cases hb) fun _ => ?_
  · refine EvT.is (b := [false, false].any id) ?_ rfl
    refine evT_B (evF_any (EvL.v ?_))
    refine (evL_lcT (js := [3]) [p.1, p.2] .int (fun _ => true) (fun _ => .bool false) (by walk_at "ev") (by decide) (Nat.le_of_ble_eq_true rfl) fun x hx => ⟨_, bd_name rfl, evT_yes, fun _ => ?_⟩)
    refine EvF.is (d := .bool (false || !true)) ?_ rfl
    walk_at "ev"
  refine q_when (b := false) ?_ (fun hb => by cases hb) fun _ => ?_
  · refine EvT.is (b := decide (p.2 < 1) || !decide (((Nat.gcd p.1.natAbs p.2.toNat : Nat) : Int) = 1)) ?_ ?_
    · refine evT_or (by walk_at "ev") fun _ => evT_test (evF_neI (evF_call2 (a := p.1.natAbs) (b := p.2.toNat) ?_ trivial rfl) (by walk_at "ev"))
      refine evA_cons (by walk_at "ev") (evA_cons (EvV.is (d := .int p.2) (by walk_at "ev") (by congr 1; omega)) evA_nil)
    · have e : Nat.gcd p.1.natAbs p.2.toNat = 1 := by
        have : p.2.toNat = p.2.natAbs := by omega
        rw [this]; exact h2
      rw [e, decide_eq_false (by omega)]; rfl
  refine w_ret (d := .bool true) ?_ rfl
  refine EvF.is (d := .bool (decide (p.1 * b = a * p.2))) ?_ (by rw [h3, decide_eq_true rfl])
  walk_at "ev"
  · exact b1.cma b4 (by decide) (by decide) (by decide)
  · exact b3.cma b2 (by decide) (by decide) (by decide)
/-- a fraction of the law's: in lowest terms, of small size -/
structure Fr (p : Int × Int) : Prop where
  pos : 0 < p.2
  low : Int.gcd p.1 p.2 = 1
  b1 : Bd 60 p.1
  b2 : Bd 20 p.2
theorem fr_pair (c : Int) : Fr (mk (pairN c).1 (pairN c).2) := by
  obtain ⟨h1, h2, h3⟩ := pair_bd c
  exact ⟨mk_pos h1, mk_low h1, h2.le (mk_le1 _ _), h3.le (mk_le2 _ _)⟩
theorem ok_law (T : Tx K mg) {f : Addr} {fd : FuncData} (D : Df K mg "law" s_law ["_law_script"] f fd) : FnOk P w K mg base CX0 4 f fd ["_law_script"] (spF K preLaw) := by
  obtain ⟨f__law_cell_at, fd__law_cell_at, D__law_cell_at⟩ := T.d__law_cell_at
  have G__law_cell_at := ok__law_cell_at (P := P) (w := w) (base := base) T D__law_cell_at
  obtain ⟨f__law_is, fd__law_is, D__law_is⟩ := T.d__law_is
  have G__law_is := ok__law_is (P := P) (w := w) (base := base) T D__law_is
  obtain ⟨f__law_pair, fd__law_pair, D__law_pair⟩ := T.d__law_pair
  have G__law_pair := ok__law_pair (P := P) (w := w) (base := base) T D__law_pair
  obtain ⟨f_made, fd_made, D_made⟩ := T.d_made
  have G_made := ok_made (P := P) (w := w) (base := base) T D_made
  obtain ⟨f_plus, fd_plus, D_plus⟩ := T.d_plus
  have G_plus := ok_plus (P := P) (w := w) (base := base) T D_plus
  obtain ⟨f_times, fd_times, D_times⟩ := T.d_times
  have G_times := ok_times (P := P) (w := w) (base := base) T D_times
  refine ok_def D.F sc_law (fun ags r h => by first | (obtain ⟨_, rfl, _⟩ := h; rfl) | (obtain ⟨_, _, rfl, _⟩ := h; rfl) | (obtain ⟨_, _, _, rfl, _⟩ := h; rfl) | (obtain ⟨_, _, _, _, rfl, _⟩ := h; rfl)) (fun cdv A outer s H E hr => ⟨_, (pss_cons (ps_set (i := 1) sc_law.nd rfl (Or.inl rfl) (pe_call G__law_pair (hr.mono (by decide)) (by rfl) D__law_pair.g D__law_pair.F.kp D__law_pair.b .nil pass0 (pa_cons (pe_call G__law_cell_at (hr.mono (by decide)) (by rfl) D__law_cell_at.g D__law_cell_at.F.kp D__law_cell_at.b .nil pass0 (pa_cons (pv 0) (pa_cons pe_int pa_nil))) pa_nil)))
      (pss_cons (ps_set (i := 2) sc_law.nd rfl (Or.inl rfl) (pe_call G__law_pair (hr.mono (by decide)) (by rfl) D__law_pair.g D__law_pair.F.kp D__law_pair.b .nil pass0 (pa_cons (pe_op op_add (pe_call G__law_cell_at (hr.mono (by decide)) (by rfl) D__law_cell_at.g D__law_cell_at.F.kp D__law_cell_at.b .nil pass0 (pa_cons (pv 0) (pa_cons pe_int pa_nil))) pe_int) pa_nil)))
      (pss_cons (ps_par (i := 3) (j := 4) (by rfl) sc_law.nd rfl rfl (by decide) rfl rfl (pa_cons (pe_call G_made (hr.mono (by decide)) (by rfl) D_made.g D_made.F.kp D_made.b .nil pass0 (pa_cons (pe_ix (xix_tup K) (pv 1) pe_int (fun _ _ => rfl)) (pa_cons (pe_ix (xix_tup K) (pv 1) pe_int (fun _ _ => rfl)) pa_nil))) (pa_cons (pe_call G_made (hr.mono (by decide)) (by rfl) D_made.g D_made.F.kp D_made.b .nil pass0 (pa_cons (pe_ix (xix_tup K) (pv 2) pe_int (fun _ _ => rfl)) (pa_cons (pe_ix (xix_tup K) (pv 2) pe_int (fun _ _ => rfl)) pa_nil))) pa_nil)) (by rfl))
      (pss_cons (ps_if (PW.pt (pw_or (pt_not (pt_val (pe_call G__law_is (hr.mono (by decide)) (by rfl) D__law_is.g D__law_is.F.kp D__law_is.b .nil pass0 (pa_cons (pv 3) (pa_cons (pe_ix (xix_tup K) (pv 1) pe_int (fun _ _ => rfl)) (pa_cons (pe_ix (xix_tup K) (pv 1) pe_int (fun _ _ => rfl)) pa_nil)))))) (pw_or1 (pt_not (pt_val (pe_call G__law_is (hr.mono (by decide)) (by rfl) D__law_is.g D__law_is.F.kp D__law_is.b .nil pass0 (pa_cons (pv 4) (pa_cons (pe_ix (xix_tup K) (pv 2) pe_int (fun _ _ => rfl)) (pa_cons (pe_ix (xix_tup K) (pv 2) pe_int (fun _ _ => rfl)) pa_nil))))))))) (pss_one (ps_ret pe_bl)) pss_nil)
      (pss_cons (ps_for PassesOwn.never rfl (xpi_list K (pe_lst (pa_cons (pe_tup (pa_cons (pv 3) (pa_cons (pv 4) pa_nil))) (pa_cons (pe_tup (pa_cons (pv 4) (pa_cons (pv 3) pa_nil))) (pa_cons (pe_tup (pa_cons (pv 3) (pa_cons (pv 3) pa_nil))) (pa_cons (pe_tup (pa_cons (pv 3) (pa_cons (pe_tup (pa_cons pe_int (pa_cons pe_int pa_nil))) pa_nil))) (pa_cons (pe_tup (pa_cons (pe_tup (pa_cons pe_int (pa_cons pe_int pa_nil))) (pa_cons (pv 4) pa_nil))) (pa_cons (pe_tup (pa_cons (pv 3) (pa_cons (pe_tup (pa_cons (pe_un un_neg pe_int) (pa_cons pe_int pa_nil))) pa_nil))) pa_nil)))))))) (xpg_tup K rfl (pgs_cons (pg_name (i := 5) sc_law.nd rfl (Or.inl rfl)) (pgs_cons (pg_name (i := 6) sc_law.nd rfl (Or.inl rfl)) pgs_nil))) (pss_cons (ps_set (i := 7) sc_law.nd rfl (Or.inl rfl) (pe_op op_add (pe_op op_mulA (pe_ix (xix_tup K) (pv 5) pe_int (fun _ _ => rfl)) (pe_ix (xix_tup K) (pv 6) pe_int (fun _ _ => rfl))) (pe_op op_mulA (pe_ix (xix_tup K) (pv 6) pe_int (fun _ _ => rfl)) (pe_ix (xix_tup K) (pv 5) pe_int (fun _ _ => rfl)))))
      (pss_cons (ps_if (pt_not (pt_val (pe_call G__law_is (hr.mono (by decide)) (by rfl) D__law_is.g D__law_is.F.kp D__law_is.b .nil pass0 (pa_cons (pe_call G_plus (hr.mono (by decide)) (by rfl) D_plus.g D_plus.F.kp D_plus.b .nil pass0 (pa_cons (pv 5) (pa_cons (pv 6) pa_nil))) (pa_cons (pv 7) (pa_cons (pe_op op_mulA (pe_ix (xix_tup K) (pv 5) pe_int (fun _ _ => rfl)) (pe_ix (xix_tup K) (pv 6) pe_int (fun _ _ => rfl))) pa_nil)))))) (pss_one (ps_ret pe_bl)) pss_nil)
      (pss_one (ps_if (pt_not (pt_val (pe_call G__law_is (hr.mono (by decide)) (by rfl) D__law_is.g D__law_is.F.kp D__law_is.b .nil pass0 (pa_cons (pe_call G_times (hr.mono (by decide)) (by rfl) D_times.g D_times.F.kp D_times.b .nil pass0 (pa_cons (pv 5) (pa_cons (pv 6) pa_nil))) (pa_cons (pe_op op_mulA (pe_ix (xix_tup K) (pv 5) pe_int (fun _ _ => rfl)) (pe_ix (xix_tup K) (pv 6) pe_int (fun _ _ => rfl))) (pa_cons (pe_op op_mulA (pe_ix (xix_tup K) (pv 5) pe_int (fun _ _ => rfl)) (pe_ix (xix_tup K) (pv 6) pe_int (fun _ _ => rfl))) pa_nil)))))) (pss_one (ps_ret pe_bl)) pss_nil)))))
      (pss_one (ps_ret (pe_and (pe_cmpR (xop_eqD K hr.units) (pe_call G_plus (hr.mono (by decide)) (by rfl) D_plus.g D_plus.F.kp D_plus.b .nil pass0 (pa_cons (pv 3) (pa_cons (pe_call G_times (hr.mono (by decide)) (by rfl) D_times.g D_times.F.kp D_times.b .nil pass0 (pa_cons (pe_tup (pa_cons (pe_un un_neg pe_int) (pa_cons pe_int pa_nil))) (pa_cons (pv 3) pa_nil))) pa_nil))) (pe_tup (pa_cons pe_int (pa_cons pe_int pa_nil))) (nomark _)) (pe_one (pe_cmpR (xop_eqD K hr.units) (pe_call G_made (hr.mono (by decide)) (by rfl) D_made.g D_made.F.kp D_made.b .nil pass0 (pa_cons pe_int (pa_cons (pe_ix (xix_tup K) (pv 2) pe_int (fun _ _ => rfl)) pa_nil))) (pe_tup (pa_cons pe_int (pa_cons pe_int pa_nil))) (nomark _))))))))))), fun ags r h => ?_⟩)
  obtain ⟨ns, hl, rfl, rfl⟩ := h
  show W K _ [.gen (.list (ns.map .int)), .un, .un, .un, .un, .un, .un, .un] _
  obtain ⟨p1, p2, p3⟩ := pair_bd (ns.getD 0 0)
  obtain ⟨s1, s2, s3⟩ := pair_bd (ns.getD 1 0 + 31)
  have f1 := fr_pair (ns.getD 0 0)
  have f2 := fr_pair (ns.getD 1 0 + 31)
  refine q_asg (d := eF (pairN (ns.getD 0 0))) (by walk_at "ev") ?_
  refine q_asg (d := eF (pairN (ns.getD 1 0 + 31))) (by walk_at "ev") ?_
  generalize pairN (ns.getD 0 0) = A at *
  generalize pairN (ns.getD 1 0 + 31) = B at *
  have bd : ∀ {n : Nat} {x : Int}, Bd n x → n ≤ 1000 → Bd 1000 x := fun h l => h.mono l
  refine q_par (x := eF (mk A.1 A.2)) (y := eF (mk B.1 B.2)) ?_ ?_
  · refine evFs_cons (evF_call2 (a := A.1) (b := A.2) (by walk_at "ev") ⟨p1, p2.mono (by decide), p3.mono (by decide)⟩ rfl) (evFs_cons (evF_call2 (a := B.1) (b := B.2) (by walk_at "ev") ⟨s1, s2.mono (by decide), s3.mono (by decide)⟩ rfl) evFs_nil)
  have isok : ∀ (te : TE) (x y : TE) (ρ : List Sl) (a b : Int) (n m : Nat), 0 < b → Bd n a → Bd m b → n ≤ 900 → m ≤ 900 → EvF K te ρ (eF (mk a b)) → EvF K x ρ (.int a) → EvF K y ρ (.int b) →
      EvF K (tCall (spF K pre__law_is) [] E0 (tCons te (tCons x (tCons y tNil)))) ρ (.bool true) := fun te x y ρ a b n m hb ba bb hn hm h1 h2 h3 =>
    evF_call3 (a := mk a b) (b := a) (c := b) (evA_cons h1.v (evA_cons h2.v (evA_cons h3.v evA_nil))) ⟨mk_pos hb, mk_low hb, mk_eq hb, (ba.le (mk_le1 _ _)).mono (by omega), (bb.le (mk_le2 _ _)).mono (by omega), ba.mono (by omega), bb.mono (by omega)⟩ rfl
  refine q_when (b := false) ?_ (fun hb => by cases hb) fun _ => ?_
  · refine EvT.is (b := (!true) || (!true)) ?_ rfl
    refine evT_or (evT_not (evT_B (isok _ _ _ _ A.1 A.2 60 20 p1 p2 p3 (by decide) (by decide) ?_ ?_ ?_))) fun _ => evT_not (evT_B (isok _ _ _ _ B.1 B.2 60 20 s1 s2 s3 (by decide) (by decide) ?_ ?_ ?_))
    all_goals walk_at "ev"
  generalize mk A.1 A.2 = one at *
  generalize mk B.1 B.2 = oth at *
  let L : List ((Int × Int) × (Int × Int)) := [(one, oth), (oth, one), (one, one), (one, (0, 1)), ((1, 1), oth), (one, (-1, 3))]
  have hL : ∀ z ∈ L, Fr z.1 ∧ Fr z.2 := by
    have k1 : Fr (0, 1) := ⟨by decide, by decide, by unfold Bd; decide, by unfold Bd; decide⟩
    have k2 : Fr (1, 1) := ⟨by decide, by decide, by unfold Bd; decide, by unfold Bd; decide⟩
    have k3 : Fr (-1, 3) := ⟨by decide, by decide, by unfold Bd; decide, by unfold Bd; decide⟩
    intro z hz
    simp only [L, List.mem_cons, List.not_mem_nil, or_false] at hz
    rcases hz with rfl | rfl | rfl | rfl | rfl | rfl
    · exact ⟨f1, f2⟩
    · exact ⟨f2, f1⟩
    · exact ⟨f1, f1⟩
    · exact ⟨f1, k1⟩
    · exact ⟨k2, f2⟩
    · exact ⟨f1, k3⟩
  refine q_forN (ds := L.map fun z => .tuple [eF z.1, eF z.2]) (by dsimp only [L, List.map]; walk_at "ev") (fun _ ρ => ∃ x y z, ρ = [.gen (.list (ns.map .int)), .fl (eF A), .fl (eF B), .fl (eF one), .fl (eF oth), x, y, z]) ⟨_, _, _, rfl⟩ ?_ ?_
  · rintro i d ρ hd ⟨x, y, z, rfl⟩
    rw [List.getElem?_map] at hd
    cases hi : L[i]? with
    | none => rw [hi] at hd; cases hd
    | some q =>
      rw [hi] at hd
      cases hd
      obtain ⟨l, r⟩ := q
      obtain ⟨g1, g2⟩ := hL _ (List.mem_of_getElem? hi)
      simp only at g1 g2
      refine ⟨_, _, bd_tup2 rfl, ?_⟩
      have c1 := g1.b1.cma g2.b2 (by decide) (by decide) (by decide)
      have c2 := g2.b1.cma g1.b2 (by decide) (by decide) (by decide)
      have c3 := g1.b2.cma g2.b2 (by decide) (by decide) (by decide)
      have c4 := g1.b1.cma g2.b1 (by decide) (by decide) (by decide)
      have pq : 0 < l.2 ∧ 0 < r.2 ∧ Bd 1000 l.1 ∧ Bd 1000 l.2 ∧ Bd 1000 r.1 ∧ Bd 1000 r.2 := ⟨g1.pos, g2.pos, g1.b1.mono (by decide), g1.b2.mono (by decide), g2.b1.mono (by decide), g2.b2.mono (by decide)⟩
      refine q_asg (d := .int (l.1 * r.2 + r.1 * l.2)) ?_ ?_
      · walk_at "ev"
      refine q_when (b := false) ?_ (fun hb => by cases hb) fun _ => ?_
      · refine EvT.is (b := !true) (evT_not (evT_B (isok _ _ _ _ (l.1 * r.2 + r.1 * l.2) (l.2 * r.2) 81 40 (Int.mul_pos g1.pos g2.pos) ((g1.b1.mul g2.b2).add (g2.b1.mul g1.b2)) (g1.b2.mul g2.b2) (by decide) (by decide) (evF_call2 (a := l) (b := r) (by walk_at "ev") pq rfl) (by walk_at "ev") ?_))) rfl
        walk_at "ev"
      refine w_when (b := false) ?_ (fun hb => by cases hb) fun _ => ⟨_, _, _, rfl⟩
      · refine EvT.is (b := !true) (evT_not (evT_B (isok _ _ _ _ (l.1 * r.1) (l.2 * r.2) 120 40 (Int.mul_pos g1.pos g2.pos) (g1.b1.mul g2.b1) (g1.b2.mul g2.b2) (by decide) (by decide) (evF_call2 (a := l) (b := r) (by walk_at "ev") pq rfl) ?_ ?_))) rfl
        · walk_at "ev"
        · walk_at "ev"
  · rintro ρ ⟨x, y, z, rfl⟩
    have e1 : ftimes (-1, 1) one = (-one.1, one.2) := by
      show mk (-1 * one.1) (1 * one.2) = _
      have : mk (-one.1, one.2).1 (-one.1, one.2).2 = (-one.1, one.2) := mk_of_low (p := (-one.1, one.2)) f1.pos (by show Int.gcd (-one.1) one.2 = 1; rw [Int.neg_gcd]; exact f1.low)
      rw [← this]
      congr 1
      · show -1 * one.1 = -one.1
        omega
      · show 1 * one.2 = one.2
        omega
    have mk0 : ∀ d : Int, 0 < d → mk 0 d = (0, 1) := fun d hd => by
      have h1 : (Int.gcd 0 d : Int) = d := by rw [Int.gcd_zero_left]; omega
      show ((0 : Int) / Int.gcd 0 d, d / Int.gcd 0 d) = _
      rw [h1, Int.zero_ediv, Int.ediv_self (by omega)]
    have e2 : fplus one (ftimes (-1, 1) one) = (0, 1) := by
      rw [e1]
      show mk (one.1 * one.2 + -one.1 * one.2) (one.2 * one.2) = _
      rw [show one.1 * one.2 + -one.1 * one.2 = 0 by grind]
      exact mk0 _ (Int.mul_pos f1.pos f1.pos)
    have hb1 : Bd 1000 one.1 := f1.b1.mono (by decide)
    have hb2 : Bd 1000 one.2 := f1.b2.mono (by decide)
    refine w_ret (d := .bool (true && true)) (evF_andV ?_ fun _ => ?_) rfl
    · refine EvF.is (d := .bool (PyData.eqv (eF (fplus one (ftimes (-1, 1) one))) (eF (0, 1)))) ?_ (by rw [e2]; rfl)
      refine evF_eqD (EvF.v (evF_call2 (a := one) (b := ftimes (-1, 1) one) (evA_cons (by walk_at "ev") (evA_cons (EvF.v (evF_call2 (a := (-1, 1)) (b := one) (by walk_at "ev") ⟨by decide, f1.pos, by unfold Bd; decide, by unfold Bd; decide, hb1, hb2⟩ rfl)) evA_nil)) ?_ rfl)) (by walk_at "ev") rfl rfl
      rw [e1]
      exact ⟨f1.pos, f1.pos, hb1, hb2, hb1.neg, hb2⟩
    · refine EvF.is (d := .bool (PyData.eqv (eF (mk 0 B.2)) (eF (0, 1)))) ?_ (by rw [mk0 _ s1]; rfl)
      refine evF_eqD (EvF.v (evF_call2 (a := 0) (b := B.2) (by walk_at "ev") ⟨s1, by unfold Bd; decide, s3.mono (by decide)⟩ rfl)) (by walk_at "ev") rfl rfl
theorem all_mk {l : PySem.W.OpenLaw} {w : World} {K : PySem.W.Frag} {h : Heap} {mg : Str → Option Value} {fa f0 f1 f2 f3 f4 f5 f6 f7 f8 f9 : Addr} (X : K.In h) (G : h.Ns mainGlobals mg) (hfa : mg "law" = some (.ref fa))
    {od0 an0 od1 an1 od2 an2 od3 an3 od4 an4 od5 an5 od6 an6 od7 an7 od8 an8 od9 an9 : Option Addr} {sl0 sl1 sl2 sl3 sl4 sl5 sl6 sl7 sl8 sl9 : Array (Option Value)} {oc0 kV0 dc0 pm0 cd0 ct0 oc1 kV1 dc1 pm1 cd1 ct1 oc2 kV2 dc2 pm2 cd2 ct2 oc3 kV3 dc3 pm3 cd3 ct3 oc4 kV4 dc4 pm4 cd4 ct4 oc5 kV5 dc5 pm5 cd5 ct5 oc6 kV6 dc6 pm6 cd6 ct6 oc7 kV7 dc7 pm7 cd7 ct7 oc8 kV8 dc8 pm8 cd8 ct8 oc9 kV9 dc9 pm9 cd9 ct9 : Value}
    (a0 : PySem.W.nsIn K mainGlobals "common" = some (some (.ref f0))) (l0 : K.lookup f0 = some ⟨oc0, od0, .func (PySem.W.fnOf "common" "common" (defArgs s_common) (defBody s_common) (defScope s_common) .none kV0 dc0 pm0 an0 cd0 ct0), sl0⟩) (c0 : PySem.W.codeIn K cd0 "common" = true) (k0 : PySem.W.keepIn K (.ref f0) = true)
    (a1 : PySem.W.nsIn K mainGlobals "made" = some (some (.ref f1))) (l1 : K.lookup f1 = some ⟨oc1, od1, .func (PySem.W.fnOf "made" "made" (defArgs s_made) (defBody s_made) (defScope s_made) .none kV1 dc1 pm1 an1 cd1 ct1), sl1⟩) (c1 : PySem.W.codeIn K cd1 "made" = true) (k1 : PySem.W.keepIn K (.ref f1) = true)
    (a2 : PySem.W.nsIn K mainGlobals "plus" = some (some (.ref f2))) (l2 : K.lookup f2 = some ⟨oc2, od2, .func (PySem.W.fnOf "plus" "plus" (defArgs s_plus) (defBody s_plus) (defScope s_plus) .none kV2 dc2 pm2 an2 cd2 ct2), sl2⟩) (c2 : PySem.W.codeIn K cd2 "plus" = true) (k2 : PySem.W.keepIn K (.ref f2) = true)
    (a3 : PySem.W.nsIn K mainGlobals "times" = some (some (.ref f3))) (l3 : K.lookup f3 = some ⟨oc3, od3, .func (PySem.W.fnOf "times" "times" (defArgs s_times) (defBody s_times) (defScope s_times) .none kV3 dc3 pm3 an3 cd3 ct3), sl3⟩) (c3 : PySem.W.codeIn K cd3 "times" = true) (k3 : PySem.W.keepIn K (.ref f3) = true)
    (a4 : PySem.W.nsIn K mainGlobals "_law_cell_at" = some (some (.ref f4))) (l4 : K.lookup f4 = some ⟨oc4, od4, .func (PySem.W.fnOf "_law_cell_at" "_law_cell_at" (defArgs s__law_cell_at) (defBody s__law_cell_at) (defScope s__law_cell_at) .none kV4 dc4 pm4 an4 cd4 ct4), sl4⟩) (c4 : PySem.W.codeIn K cd4 "_law_cell_at" = true) (k4 : PySem.W.keepIn K (.ref f4) = true)
    (a5 : PySem.W.nsIn K mainGlobals "_law_draw" = some (some (.ref f5))) (l5 : K.lookup f5 = some ⟨oc5, od5, .func (PySem.W.fnOf "_law_draw" "_law_draw" (defArgs s__law_draw) (defBody s__law_draw) (defScope s__law_draw) .none kV5 dc5 pm5 an5 cd5 ct5), sl5⟩) (c5 : PySem.W.codeIn K cd5 "_law_draw" = true) (k5 : PySem.W.keepIn K (.ref f5) = true)
    (a6 : PySem.W.nsIn K mainGlobals "_law_common" = some (some (.ref f6))) (l6 : K.lookup f6 = some ⟨oc6, od6, .func (PySem.W.fnOf "_law_common" "_law_common" (defArgs s__law_common) (defBody s__law_common) (defScope s__law_common) .none kV6 dc6 pm6 an6 cd6 ct6), sl6⟩) (c6 : PySem.W.codeIn K cd6 "_law_common" = true) (k6 : PySem.W.keepIn K (.ref f6) = true)
    (a7 : PySem.W.nsIn K mainGlobals "_law_pair" = some (some (.ref f7))) (l7 : K.lookup f7 = some ⟨oc7, od7, .func (PySem.W.fnOf "_law_pair" "_law_pair" (defArgs s__law_pair) (defBody s__law_pair) (defScope s__law_pair) .none kV7 dc7 pm7 an7 cd7 ct7), sl7⟩) (c7 : PySem.W.codeIn K cd7 "_law_pair" = true) (k7 : PySem.W.keepIn K (.ref f7) = true)
    (a8 : PySem.W.nsIn K mainGlobals "_law_is" = some (some (.ref f8))) (l8 : K.lookup f8 = some ⟨oc8, od8, .func (PySem.W.fnOf "_law_is" "_law_is" (defArgs s__law_is) (defBody s__law_is) (defScope s__law_is) .none kV8 dc8 pm8 an8 cd8 ct8), sl8⟩) (c8 : PySem.W.codeIn K cd8 "_law_is" = true) (k8 : PySem.W.keepIn K (.ref f8) = true)
    (a9 : PySem.W.nsIn K mainGlobals "law" = some (some (.ref f9))) (l9 : K.lookup f9 = some ⟨oc9, od9, .func (PySem.W.fnOf "law" "law" (defArgs s_law) (defBody s_law) (defScope s_law) .none kV9 dc9 pm9 an9 cd9 ct9), sl9⟩) (c9 : PySem.W.codeIn K cd9 "law" = true) (k9 : PySem.W.keepIn K (.ref f9) = true)
    (z_abs : PySem.W.nsIn K mainGlobals "abs" = some none)
    (z_any : PySem.W.nsIn K mainGlobals "any" = some none)
    (z_bool : PySem.W.nsIn K mainGlobals "bool" = some none)
    (z_int : PySem.W.nsIn K mainGlobals "int" = some none)
    (z_isinstance : PySem.W.nsIn K mainGlobals "isinstance" = some none)
    (z_len : PySem.W.nsIn K mainGlobals "len" = some none)
    (z_tuple : PySem.W.nsIn K mainGlobals "tuple" = some none)
    : ∃ fd : FuncData, (∀ (s : Shared) (v : Value), BindsTo s fd ⟨[v], []⟩ [("_law_script", v)]) ∧ ∀ base : Heap, K.In base → base.Ns mainGlobals mg → FnOk l.prog w K mg base CX0 4 fa fd ["_law_script"] (spF K preLaw) := by
  have e := hfa.symm.trans (PySem.W.mg_of X G a9)
  cases e
  have T : Tx K mg := {
    b_abs := PySem.W.mg_none_of X G z_abs,
    b_any := PySem.W.mg_none_of X G z_any,
    b_bool := PySem.W.mg_none_of X G z_bool,
    b_int := PySem.W.mg_none_of X G z_int,
    b_isinstance := PySem.W.mg_none_of X G z_isinstance,
    b_len := PySem.W.mg_none_of X G z_len,
    b_tuple := PySem.W.mg_none_of X G z_tuple,
    d_common := ⟨_, _, df_mk (fun_mk (st := s_common) l0 c0 k0) (PySem.W.mg_of X G a0) (fun _ _ _ _ _ _ us hl => match us, hl with | [_, _], _ => rfl)⟩,
    d_made := ⟨_, _, df_mk (fun_mk (st := s_made) l1 c1 k1) (PySem.W.mg_of X G a1) (fun _ _ _ _ _ _ us hl => match us, hl with | [_, _], _ => rfl)⟩,
    d_plus := ⟨_, _, df_mk (fun_mk (st := s_plus) l2 c2 k2) (PySem.W.mg_of X G a2) (fun _ _ _ _ _ _ us hl => match us, hl with | [_, _], _ => rfl)⟩,
    d_times := ⟨_, _, df_mk (fun_mk (st := s_times) l3 c3 k3) (PySem.W.mg_of X G a3) (fun _ _ _ _ _ _ us hl => match us, hl with | [_, _], _ => rfl)⟩,
    d__law_cell_at := ⟨_, _, df_mk (fun_mk (st := s__law_cell_at) l4 c4 k4) (PySem.W.mg_of X G a4) (fun _ _ _ _ _ _ us hl => match us, hl with | [_, _], _ => rfl)⟩,
    d__law_draw := ⟨_, _, df_mk (fun_mk (st := s__law_draw) l5 c5 k5) (PySem.W.mg_of X G a5) (fun _ _ _ _ _ _ us hl => match us, hl with | [_, _, _], _ => rfl)⟩,
    d__law_common := ⟨_, _, df_mk (fun_mk (st := s__law_common) l6 c6 k6) (PySem.W.mg_of X G a6) (fun _ _ _ _ _ _ us hl => match us, hl with | [_, _], _ => rfl)⟩,
    d__law_pair := ⟨_, _, df_mk (fun_mk (st := s__law_pair) l7 c7 k7) (PySem.W.mg_of X G a7) (fun _ _ _ _ _ _ us hl => match us, hl with | [_], _ => rfl)⟩,
    d__law_is := ⟨_, _, df_mk (fun_mk (st := s__law_is) l8 c8 k8) (PySem.W.mg_of X G a8) (fun _ _ _ _ _ _ us hl => match us, hl with | [_, _, _], _ => rfl)⟩ }
  have DL := df_mk (fun_mk (st := s_law) l9 c9 k9) (PySem.W.mg_of X G a9) (ps := ["_law_script"]) (fun _ _ _ _ _ _ us hl => match us, hl with | [_], _ => rfl)
  exact ⟨_, fun s v => .of_eq rfl, fun base _ _ => ok_law T DL⟩
end Hl
open PySem PySem.W PyProof.Rows
set_option maxHeartbeats 0 in
theorem PySem.Challenge.cw_herdline_k09_fractions_holds : PySem.Challenge.rw_herdline_k09_fractions.Holds := by
  w_on; o_law; k_head; (case hw => w_witness2)
  k_fill
  refine L2.walk_ofK (l := PySem.Challenge.rw_herdline_k09_fractions) (n := 63) (k := 4) (x := "_law_script") (CX := L2.CX0) (sp := fun K => PF.spF K PF.preLaw) rfl (by decide) rfl ⟨rfl, by decide, by decide⟩ (fun w h Y => PySem.W.kIn_of Y) ?F (fun _ _ a ns hl _ hS => PF.law_in hl hS) (fun _ _ _ _ h => h)
  case F =>
    intro w mg fa h KX G hmg
    refine' Hl.all_mk KX G hmg ?a0 ?l0 ?c0 ?k0 ?a1 ?l1 ?c1 ?k1 ?a2 ?l2 ?c2 ?k2 ?a3 ?l3 ?c3 ?k3 ?a4 ?l4 ?c4 ?k4 ?a5 ?l5 ?c5 ?k5 ?a6 ?l6 ?c6 ?k6 ?a7 ?l7 ?c7 ?k7 ?a8 ?l8 ?c8 ?k8 ?a9 ?l9 ?c9 ?k9 ?z_abs ?z_any ?z_bool ?z_int ?z_isinstance ?z_len ?z_tuple
    (case a0 => k_is); (case l0 => k_is); (case c0 => k_is); (case k0 => k_is); (case a1 => k_is); (case l1 => k_is); (case c1 => k_is); (case k1 => k_is); (case a2 => k_is); (case l2 => k_is); (case c2 => k_is); (case k2 => k_is); (case a3 => k_is); (case l3 => k_is); (case c3 => k_is); (case k3 => k_is); (case a4 => k_is); (case l4 => k_is); (case c4 => k_is); (case k4 => k_is); (case a5 => k_is); (case l5 => k_is); (case c5 => k_is); (case k5 => k_is); (case a6 => k_is); (case l6 => k_is); (case c6 => k_is); (case k6 => k_is); (case a7 => k_is); (case l7 => k_is); (case c7 => k_is); (case k7 => k_is); (case a8 => k_is); (case l8 => k_is); (case c8 => k_is); (case k8 => k_is); (case a9 => k_is); (case l9 => k_is); (case c9 => k_is); (case k9 => k_is); (case z_abs => k_is); (case z_any => k_is); (case z_bool => k_is); (case z_int => k_is); (case z_isinstance => k_is); (case z_len => k_is); (case z_tuple => k_is)
