import PyProof.Rows.All
import Wide.All
import OpenK.AllK
import Wide.FinOn
import HandS.ForMost
import HandS.Walk
import HandS.Zip
import HandS.SortOrd
import HandS.SortRule
import HandS.SortKw
import HandS.HeadHook1
import HandS.IsInst
import HandS.TupAny
import HandS.Deep
import PyProof.WalkInts
import PyProof.SumWalkG
import HandS.Conv
import HandS.Star
import HandS.DictComp
import HandS.SlotsOwn
import HandS.OwnEq
import HandS.TupSets
import HandS.Style
import HandS.IterNext
import KE.KCallOwn
import KE.KOwnIter
import PyProof.InstNe
import OpenK.KOps
import HandS.ExcInit
import HandS.ExcSuper
import KE.KExcSuper
import KE.KExcInit
import HandS.WordsExc
import HandS.ExcOwn
import HandS.ExcField
import KE.KMinKey
import KE.GoesMore
import KE.GoesEnum
import HandS.FStr
import HandS.Flow
import HandS.HeadHook2
import KE.KStateDown
import HandS.Head0
import HandS.Head1
import HandS.Head2
import HandS.HeadEnd
import PySem.Challenge.RW_pureladders_k41_whole_lots_of_families_a
set_option Elab.async false
set_option linter.all false
set_option maxRecDepth 100000
set_option maxHeartbeats 0

/-! K41A -/
/-! Words for the heap of this proof: tuples of ints, lists of them, and comprehensions that only make things. -/
namespace K41
open PySem PySem.Spec PyProof.Rows L2

/-! ### rows in pairs -/
theorem pr_get {α β : Type} {F : α → β → Prop} : ∀ {l : List α} {m : List β} {i : Nat} {b : β}, Paired F l m → m[i]? = some b → ∃ a, l[i]? = some a ∧ F a b
  | _, _, _, _, .nil, e => by simp at e
  | _, _, 0, _, .cons r _, e => by
    simp at e
    subst e
    exact ⟨_, rfl, r⟩
  | _, _, i + 1, _, .cons _ t, e => by
    obtain ⟨a, h1, h2⟩ := pr_get (i := i) t (by simpa using e)
    exact ⟨a, by simpa using h1, h2⟩
theorem pr_getL {α β : Type} {F : α → β → Prop} : ∀ {l : List α} {m : List β} {i : Nat} {a : α}, Paired F l m → l[i]? = some a → ∃ b, m[i]? = some b ∧ F a b
  | _, _, _, _, .nil, e => by simp at e
  | _, _, 0, _, .cons r _, e => by
    simp at e
    subst e
    exact ⟨_, rfl, r⟩
  | _, _, i + 1, _, .cons _ t, e => by
    obtain ⟨a, h1, h2⟩ := pr_getL (i := i) t (by simpa using e)
    exact ⟨a, by simpa using h1, h2⟩
theorem pr_app {α β : Type} {F : α → β → Prop} : ∀ {l l' : List α} {m m' : List β}, Paired F l m → Paired F l' m' → Paired F (l ++ l') (m ++ m')
  | _, _, _, _, .nil, s => s
  | _, _, _, _, .cons r t, s => .cons r (pr_app t s)
theorem pr_mem {α β : Type} {F : α → β → Prop} {l : List α} {m : List β} {b : β} (h : Paired F l m) (hb : b ∈ m) : ∃ a, a ∈ l ∧ F a b := by
  obtain ⟨i, hi⟩ := List.getElem?_of_mem hb
  obtain ⟨a, h1, h2⟩ := pr_get h hi
  exact ⟨a, List.mem_of_getElem? h1, h2⟩
theorem pr_memL {α β : Type} {F : α → β → Prop} {l : List α} {m : List β} {a : α} (h : Paired F l m) (ha : a ∈ l) : ∃ b, b ∈ m ∧ F a b := by
  obtain ⟨i, hi⟩ := List.getElem?_of_mem ha
  obtain ⟨b, h1, h2⟩ := pr_getL h hi
  exact ⟨b, List.mem_of_getElem? h1, h2⟩
theorem pr_imp {α β : Type} {F G : α → β → Prop} : ∀ {l : List α} {m : List β}, Paired F l m → (∀ a b, a ∈ l → F a b → G a b) → Paired G l m
  | _, _, .nil, _ => .nil
  | _, _, .cons r t, f => .cons (f _ _ List.mem_cons_self r) (pr_imp t fun a b h => f a b (List.mem_cons_of_mem _ h))
/-- the second list arranged anew: the first one goes with it -/
theorem pr_perm {α β : Type} {F : α → β → Prop} {m m' : List β} (p : m'.Perm m) : ∀ {l : List α}, Paired F l m → ∃ l', l'.Perm l ∧ Paired F l' m' := by
  induction p with
  | nil => exact fun {l} h => ⟨l, .refl _, h⟩
  | cons x _ ih =>
    intro l h
    cases h with
    | cons r t =>
      obtain ⟨l', q, h'⟩ := ih t
      exact ⟨_, .cons _ q, .cons r h'⟩
  | swap x y _ =>
    intro l h
    cases h with
    | cons r t =>
      cases t with
      | cons r' t' => exact ⟨_, .swap _ _ _, .cons r' (.cons r t')⟩
  | trans _ _ ih1 ih2 =>
    intro l h
    obtain ⟨l1, q1, h1⟩ := ih2 h
    obtain ⟨l2, q2, h2⟩ := ih1 h1
    exact ⟨l2, q2.trans q1, h2⟩
theorem pr_mapR {α β γ : Type} {F : α → γ → Prop} {f : β → γ} : ∀ {l : List α} {m : List β}, Paired (fun a b => F a (f b)) l m → Paired F l (m.map f)
  | _, _, .nil => .nil
  | _, _, .cons r t => .cons r (pr_mapR t)
theorem pr_mapL {α β γ : Type} {F : γ → β → Prop} {f : α → γ} : ∀ {l : List α} {m : List β}, Paired (fun a b => F (f a) b) l m → Paired F (l.map f) m
  | _, _, .nil => .nil
  | _, _, .cons r t => .cons r (pr_mapL t)

/-! ### what the heap holds -/
theorem map_int_inj : ∀ {k k' : List Int}, k.map V.int = k'.map V.int → k = k'
  | [], [], _ => rfl
  | [], _ :: _, e => by simp at e
  | _ :: _, [], e => by simp at e
  | x :: k, y :: k', e => by
    simp only [List.map_cons, List.cons.injEq, V.int.injEq] at e
    rw [e.1, map_int_inj e.2]
/-- the tuple at a holds the ints k -/
abbrev IT (H : Hp) (a : Addr) (k : List Int) : Prop := H a = some (.tup (k.map V.int))
/-- the value is such a tuple -/
def RT (k : List Int) (v : V) (H : Hp) : Prop := ∃ a, v = .ref a ∧ IT H a k
theorem RT.inj {k k' : List Int} {v : V} {H : Hp} (h : RT k v H) (h' : RT k' v H) : k = k' := by
  obtain ⟨a, rfl, e⟩ := h
  obtain ⟨b, eb, e'⟩ := h'
  cases eb
  exact map_int_inj (by simpa using e.symm.trans e')
/-- values that are tuples of ints -/
abbrev RTs (ks : List (List Int)) (vs : List V) (H : Hp) : Prop := Paired (fun k v => RT k v H) ks vs
/-- a list, a tuple of tuples of ints -/
def LL (H : Hp) (l : Addr) (ks : List (List Int)) : Prop := ∃ vs, H l = some (.lst vs) ∧ RTs ks vs H
def TL (H : Hp) (l : Addr) (ks : List (List Int)) : Prop := ∃ vs, H l = some (.tup vs) ∧ RTs ks vs H
/-- the tuples stand as they stood -/
def TupS (H H' : Hp) : Prop := ∀ a xs, H a = some (.tup xs) → H' a = some (.tup xs)
theorem TupS.trans {H H1 H2 : Hp} (a : TupS H H1) (b : TupS H1 H2) : TupS H H2 := fun c xs h => b c xs (a c xs h)
theorem tups_of {H H' : Hp} (s : Same H H') : TupS H H' := fun a _ h => s a _ h
theorem tups_upd {H : Hp} {D : Addr} {o u : HO} (h : H D = some u) (hu : ∀ xs, u ≠ .tup xs) : TupS H (upd H D o) := fun a xs e => by
  rw [upd_ne (ne_of e h (fun z => hu xs z.symm))]
  exact e
theorem RT.go {k : List Int} {v : V} {H H' : Hp} (s : TupS H H') (h : RT k v H) : RT k v H' := by
  obtain ⟨a, e, h⟩ := h
  exact ⟨a, e, s a _ h⟩
theorem rts_go {ks : List (List Int)} {vs : List V} {H H' : Hp} (s : TupS H H') (h : RTs ks vs H) : RTs ks vs H' := pr_imp h fun _ _ _ r => r.go s
theorem LL.go {H H' : Hp} {l : Addr} {ks : List (List Int)} (s : Same H H') (h : LL H l ks) : LL H' l ks := by
  obtain ⟨vs, e, r⟩ := h
  exact ⟨vs, s _ _ e, rts_go (tups_of s) r⟩
theorem TL.go {H H' : Hp} {l : Addr} {ks : List (List Int)} (s : TupS H H') (h : TL H l ks) : TL H' l ks := by
  obtain ⟨vs, e, r⟩ := h
  exact ⟨vs, s _ _ e, rts_go s r⟩
theorem same_new {H : Hp} {p : Addr} {o : HO} (h : H p = none) : Same H (upd H p o) := fun b x e => by
  rw [upd_ne (ne_of_none e h)]
  exact e
/-- what H0 does not know may change -/
theorem same_mut {H0 H : Hp} {p : Addr} {o : HO} (s : Same H0 H) (h : H0 p = none) : Same H0 (upd H p o) := fun b x e => by
  rw [upd_ne (ne_of_none e h)]
  exact s b x e
theorem rts_len {ks : List (List Int)} {vs : List V} {H : Hp} (h : RTs ks vs H) : ks.length = vs.length := Paired.length h
theorem big {n : Nat} (h : n ≤ 1000000) : n < sizeLine := Nat.lt_of_le_of_lt h (by decide)
theorem bigle {n : Nat} (h : n ≤ 1000000) : n ≤ sizeLine := Nat.le_of_lt (big h)

/-! ### comprehensions that only make things: κ what an item is worth, R how a value shows it -/
theorem fm_range {α β : Type} (l : List α) (f : α → Option β) : ∀ i, i ≤ l.length → (List.range i).filterMap (fun j => l[j]?.bind f) = (l.take i).filterMap f := by
  intro i
  induction i with
  | zero => intro _; simp
  | succ i ih =>
    intro h
    rw [List.range_succ, List.filterMap_append, ih (by omega), List.take_add_one, List.filterMap_append]
    congr 1
    cases e : l[i]? with
    | none => simp [e]
    | some x =>
      cases e2 : f x with
      | none => simp [e, e2]
      | some y => simp [e, e2]
theorem fm_all {α β : Type} (l : List α) (f : α → Option β) : (List.range l.length).filterMap (fun j => l[j]?.bind f) = l.filterMap f := by
  rw [fm_range l f l.length (Nat.le_refl _), List.take_length]
theorem fm_len {β : Type} (f : Nat → Option β) (n : Nat) : ((List.range n).filterMap f).length ≤ n := by
  have h := List.length_filterMap_le f (List.range n)
  rw [List.length_range] at h
  exact h

section
variable {K : PySem.W.Frag} {J : It} {n : Nat} {G : Hp → Prop} {Y : Nat → Hp → V → Hp → Prop} {κ κ0 : Type} {g : TG} {tt : TT} {te : TE} {vs : List Nat} {σ : L2.St} {H1 : Hp} {D : Addr} {Qd : Hp → Prop}
/-- a comprehension over any walk: at turn i it gives what f i says -/
theorem lc_made (w : Walk J n G Y) (R : κ → V → Hp → Prop) (hR : ∀ k v H H', TupS H H' → R k v H → R k v H') (f : Nat → Option κ) (hD : H1 D = none) (hn : n ≤ 1000000) (hG : ∀ H, Same H1 H → G H)
    (hs : ∀ (i : Nat) (x : V) (H H' : Hp) (Kk : V → Hp → Prop) (N : Hp → Prop), i < n → Same H1 H → Y i H x H' → (∀ k y H4, f i = some k → Same H H4 → R k y H4 → Kk y H4) → (∀ H4, f i = none → Same H H4 → N H4) →
      g x (wipe σ vs) H' fun σ2 H2 => wipe σ2 vs = wipe σ vs ∧ tt σ2 H2 fun b H3 => if b = true then te σ2 H3 Kk else N H3)
    (hd : ∀ (H : Hp) (ys : List V), Same H1 H → H D = some (.lst ys) → Paired (fun k v => R k v H) ((List.range n).filterMap f) ys → Qd H) :
    ∃ W : Nat → Nat → Hp → Prop, (∃ m, W 0 m (upd H1 D (.lst []))) ∧ ∀ i m H, W i m H →
      (J.stop i H ∧ Qd H) ∨ (J.go i H ∧ ∃ Nx : Hp → Prop, (∀ H', Nx H' → ∃ m', m' < m ∧ W (i + 1) m' H') ∧ ∀ x H', J.yld i H x H' → g x (wipe σ vs) H' fun σ2 H2 => wipe σ2 vs = wipe σ vs ∧ tt σ2 H2 fun b H3 =>
        if b = true then te σ2 H3 fun y H4 => ∃ acc, H4 D = some (.lst acc) ∧ acc.length < sizeLine ∧ Nx (upd H4 D (.lst (acc ++ [y]))) else Nx H3) := by
  refine lc_it w (fun i H => Same H1 H ∧ ∃ ys, H D = some (.lst ys) ∧ Paired (fun k v => R k v H) ((List.range i).filterMap f) ys) ⟨same_new hD, [], upd_same, .nil⟩ (fun i H _ p => hG H p.1) (fun i x H H' hi p y => ?_) (fun H p => ?_)
  · obtain ⟨sm, ys, hy, pr⟩ := p
    refine hs i x H H' _ _ hi sm y (fun k z H4 e s4 r => ?_) (fun H4 e s4 => ?_)
    · have hl : ys.length ≤ i := by
        rw [← Paired.length pr]
        exact fm_len f i
      have ts : TupS H4 (upd H4 D (.lst (ys ++ [z]))) := tups_upd (s4 _ _ hy) (fun _ q => nomatch q)
      refine ⟨ys, s4 _ _ hy, big (by omega), same_mut (sm.trans s4) hD, ys ++ [z], upd_same, ?_⟩
      rw [List.range_succ, List.filterMap_append, show ([i].filterMap f) = [k] by simp [e]]
      exact pr_app (pr_imp pr fun a b _ r => hR _ _ _ _ ((tups_of s4).trans ts) r) (.cons (hR _ _ _ _ ts r) .nil)
    · refine ⟨sm.trans s4, ys, s4 _ _ hy, ?_⟩
      rw [List.range_succ, List.filterMap_append, show ([i].filterMap f) = [] by simp [e], List.append_nil]
      exact pr_imp pr fun a b _ r => hR _ _ _ _ (tups_of s4) r
  · obtain ⟨sm, ys, hy, pr⟩ := p
    exact hd H ys sm hy pr
/-- over a list, a tuple whose items show ks -/
theorem lc_from {xs : List V} {ks : List κ0} (R0 : κ0 → V → Hp → Prop) (R : κ → V → Hp → Prop) (hR : ∀ k v H H', TupS H H' → R k v H → R k v H') (f : κ0 → Option κ) (w : Walk J xs.length G (YAt xs)) (hG : ∀ H, Same H1 H → G H)
    (hp : Paired (fun k v => R0 k v H1) ks xs) (hD : H1 D = none) (hn : ks.length ≤ 1000000)
    (hs : ∀ (k0 : κ0) (x : V) (H : Hp) (Kk : V → Hp → Prop) (N : Hp → Prop), k0 ∈ ks → Same H1 H → R0 k0 x H1 → (∀ k y H4, f k0 = some k → Same H H4 → R k y H4 → Kk y H4) → (∀ H4, f k0 = none → Same H H4 → N H4) →
      g x (wipe σ vs) H fun σ2 H2 => wipe σ2 vs = wipe σ vs ∧ tt σ2 H2 fun b H3 => if b = true then te σ2 H3 Kk else N H3)
    (hd : ∀ (H : Hp) (ys : List V), Same H1 H → H D = some (.lst ys) → Paired (fun k v => R k v H) (ks.filterMap f) ys → Qd H) :
    ∃ W : Nat → Nat → Hp → Prop, (∃ m, W 0 m (upd H1 D (.lst []))) ∧ ∀ i m H, W i m H →
      (J.stop i H ∧ Qd H) ∨ (J.go i H ∧ ∃ Nx : Hp → Prop, (∀ H', Nx H' → ∃ m', m' < m ∧ W (i + 1) m' H') ∧ ∀ x H', J.yld i H x H' → g x (wipe σ vs) H' fun σ2 H2 => wipe σ2 vs = wipe σ vs ∧ tt σ2 H2 fun b H3 =>
        if b = true then te σ2 H3 fun y H4 => ∃ acc, H4 D = some (.lst acc) ∧ acc.length < sizeLine ∧ Nx (upd H4 D (.lst (acc ++ [y]))) else Nx H3) := by
  have hl : ks.length = xs.length := Paired.length hp
  refine lc_made w R hR (fun i => ks[i]?.bind f) hD (by omega) hG (fun i x H H' Kk N hi sm y h1 h2 => ?_) (fun H ys sm hy pr => hd H ys sm hy ?_)
  · obtain ⟨rfl, hx⟩ := y
    obtain ⟨k0, e0, r0⟩ := pr_get hp hx
    refine hs k0 x H' Kk N (List.mem_of_getElem? e0) sm r0 (fun k y H4 e => h1 k y H4 (by simp [e0, e])) (fun H4 e => h2 H4 (by simp [e0, e]))
  · rw [← hl, fm_all] at pr
    exact pr
/-- without a test: one item a turn -/
theorem lc_map (w : Walk J n G Y) (R : κ → V → Hp → Prop) (hR : ∀ k v H H', TupS H H' → R k v H → R k v H') (f : Nat → κ) (hD : H1 D = none) (hn : n ≤ 1000000) (hG : ∀ H, Same H1 H → G H)
    (hs : ∀ (i : Nat) (x : V) (H H' : Hp) (Kk : V → Hp → Prop), i < n → Same H1 H → Y i H x H' → (∀ y H4, Same H H4 → R (f i) y H4 → Kk y H4) → g x (wipe σ vs) H' fun σ2 H2 => wipe σ2 vs = wipe σ vs ∧ te σ2 H2 Kk)
    (hd : ∀ (H : Hp) (ys : List V), Same H1 H → H D = some (.lst ys) → Paired (fun k v => R k v H) ((List.range n).map f) ys → Qd H) :
    ∃ W : Nat → Nat → Hp → Prop, (∃ m, W 0 m (upd H1 D (.lst []))) ∧ ∀ i m H, W i m H →
      (J.stop i H ∧ Qd H) ∨ (J.go i H ∧ ∃ Nx : Hp → Prop, (∀ H', Nx H' → ∃ m', m' < m ∧ W (i + 1) m' H') ∧ ∀ x H', J.yld i H x H' → g x (wipe σ vs) H' fun σ2 H2 => wipe σ2 vs = wipe σ vs ∧ tYes σ2 H2 fun b H3 =>
        if b = true then te σ2 H3 fun y H4 => ∃ acc, H4 D = some (.lst acc) ∧ acc.length < sizeLine ∧ Nx (upd H4 D (.lst (acc ++ [y]))) else Nx H3) :=
  lc_made w R hR (fun i => some (f i)) hD hn hG (fun i x H H' Kk N hi sm y h1 _ => hs i x H H' Kk hi sm y fun y H4 s r => h1 (f i) y H4 rfl s r) fun H ys sm hy pr => hd H ys sm hy (by
    have e : (List.range n).filterMap (fun i => some (f i)) = (List.range n).map f := by simp
    rw [e] at pr
    exact pr)
theorem lc_fromM {xs : List V} {ks : List κ0} (R0 : κ0 → V → Hp → Prop) (R : κ → V → Hp → Prop) (hR : ∀ k v H H', TupS H H' → R k v H → R k v H') (f : κ0 → κ) (w : Walk J xs.length G (YAt xs)) (hG : ∀ H, Same H1 H → G H)
    (hp : Paired (fun k v => R0 k v H1) ks xs) (hD : H1 D = none) (hn : ks.length ≤ 1000000)
    (hs : ∀ (k0 : κ0) (x : V) (H : Hp) (Kk : V → Hp → Prop), k0 ∈ ks → Same H1 H → R0 k0 x H1 → (∀ y H4, Same H H4 → R (f k0) y H4 → Kk y H4) → g x (wipe σ vs) H fun σ2 H2 => wipe σ2 vs = wipe σ vs ∧ te σ2 H2 Kk)
    (hd : ∀ (H : Hp) (ys : List V), Same H1 H → H D = some (.lst ys) → Paired (fun k v => R k v H) (ks.map f) ys → Qd H) :
    ∃ W : Nat → Nat → Hp → Prop, (∃ m, W 0 m (upd H1 D (.lst []))) ∧ ∀ i m H, W i m H →
      (J.stop i H ∧ Qd H) ∨ (J.go i H ∧ ∃ Nx : Hp → Prop, (∀ H', Nx H' → ∃ m', m' < m ∧ W (i + 1) m' H') ∧ ∀ x H', J.yld i H x H' → g x (wipe σ vs) H' fun σ2 H2 => wipe σ2 vs = wipe σ vs ∧ tYes σ2 H2 fun b H3 =>
        if b = true then te σ2 H3 fun y H4 => ∃ acc, H4 D = some (.lst acc) ∧ acc.length < sizeLine ∧ Nx (upd H4 D (.lst (acc ++ [y]))) else Nx H3) :=
  lc_from R0 R hR (fun k => some (f k)) w hG hp hD hn (fun k0 x H Kk N hk sm r h1 _ => hs k0 x H Kk hk sm r fun y H4 s r => h1 (f k0) y H4 rfl s r) fun H ys sm hy pr => hd H ys sm hy (by
    have e : ks.filterMap (fun k => some (f k)) = ks.map f := by simp
    rw [e] at pr
    exact pr)
end
theorem walk_rng {n : Nat} : Walk (Itr 0 n) n (fun _ => True) (fun i H x H' => H = H' ∧ x = .int (i : Int)) :=
  walk_range.mono (fun _ h => h) fun i H x H' _ _ y => by
    obtain ⟨e, rfl⟩ := y
    exact ⟨e.symm, by show V.int (0 + (i : Int)) = _; rw [Int.zero_add]⟩
end K41

/-! K41B -/
/-! What the top has written, and defs with their promises. -/
namespace K41
open PySem PySem.Spec PyProof.Rows L2
def top (i : Nat) : Stmt := PySem.Challenge.pw_pureladders_k41_whole_lots_of_families_a.main.body.getD i (.Pass ⟨0, 0, 0, 0⟩)
abbrev ga := He.ga
/-- the def x, the statement st of the top -/
def DefIn (K : PySem.W.Frag) (mg : Str → Option Value) (x : Str) (st : Stmt) : Prop := ∃ fd, Fun K x x st (ga K x) fd ∧ mg x = some (.ref (ga K x))
/-- the module's own names, as the top has left them -/
structure Tx (K : PySem.W.Frag) (mg : Str → Option Value) : Prop where
  d_is_whole : DefIn K mg "is_whole" (top 11)
  d_is_within : DefIn K mg "is_within" (top 12)
  d_require_within : DefIn K mg "require_within" (top 13)
  d_without_each : DefIn K mg "without_each" (top 15)
  d_closed_downward : DefIn K mg "closed_downward" (top 16)
  d_is_product_in : DefIn K mg "is_product_in" (top 20)
  d_divides : DefIn K mg "divides" (top 21)
  d_require_letters : DefIn K mg "require_letters" (top 23)
  d_are_long : DefIn K mg "are_long" (top 32)
  d_few_least_of : DefIn K mg "few_least_of" (top 33)
  d_letter_text : DefIn K mg "letter_text" (top 35)
  d_product_text : DefIn K mg "product_text" (top 36)
  d_lot_text : DefIn K mg "lot_text" (top 37)
  d_is_passed_member : DefIn K mg "is_passed_member" (top 43)
  d_members_told : DefIn K mg "members_told" (top 44)
  d_made_lot : DefIn K mg "made_lot" (top 45)
  d_has_product : DefIn K mg "has_product" (top 47)
  d_require_lot : DefIn K mg "require_lot" (top 49)
  d_is_set_on : DefIn K mg "is_set_on" (top 54)
  d_all_sets : DefIn K mg "all_sets" (top 55)
  d_by_size : DefIn K mg "by_size" (top 56)
  d_greatest_of : DefIn K mg "greatest_of" (top 57)
  d_family_text : DefIn K mg "family_text" (top 58)
  d_sets_told : DefIn K mg "sets_told" (top 61)
  d_made_family : DefIn K mg "made_family" (top 62)
  d_require_family : DefIn K mg "require_family" (top 63)
  d_is_without_squares : DefIn K mg "is_without_squares" (top 64)
  d_require_without_squares : DefIn K mg "require_without_squares" (top 65)
  d_product_of_set : DefIn K mg "product_of_set" (top 66)
  d_sets_left : DefIn K mg "sets_left" (top 67)
  d_family_in : DefIn K mg "family_in" (top 68)
  d_lot_in : DefIn K mg "lot_in" (top 69)
  d_family_of : DefIn K mg "family_of" (top 70)
  d_lot_of : DefIn K mg "lot_of" (top 71)
  d_law_pot : DefIn K mg "_law_pot" (top 73)
  d_law_dip : DefIn K mg "_law_dip" (top 74)
  d_law_pick : DefIn K mg "_law_pick" (top 75)
  d_law_subsets : DefIn K mg "_law_subsets" (top 76)
  d_law_inside : DefIn K mg "_law_inside" (top 77)
  d_law_sets : DefIn K mg "_law_sets" (top 78)
  d_law_all : DefIn K mg "_law_all" (top 79)
  d_law_least : DefIn K mg "_law_least" (top 80)
  d_law_divides : DefIn K mg "_law_divides" (top 81)
  d_law_product : DefIn K mg "_law_product" (top 82)
  d_law_letters : DefIn K mg "_law_letters" (top 83)
  d_law_family_right : DefIn K mg "_law_family_right" (top 84)
  d_law_lot_right : DefIn K mg "_law_lot_right" (top 85)
  d_law : DefIn K mg "law" (top 86)
  f_isinstance : mg "isinstance" = none
  f_len : mg "len" = none
  f_range : mg "range" = none
  f_list : mg "list" = none
  f_sorted : mg "sorted" = none
  f_tuple : mg "tuple" = none
  f_all : mg "all" = none
  f_any : mg "any" = none
  f_zip : mg "zip" = none
  f_sum : mg "sum" = none
  f_max : mg "max" = none
  f_min : mg "min" = none
  f_set : mg "set" = none
  f_int : mg "int" = none
  f_abs : mg "abs" = none
  f_str : mg "str" = none
  f_iter : mg "iter" = none
  f_enumerate : mg "enumerate" = none
  f_bool : mg "bool" = none
  f_super : mg "super" = none
  c_MAX_LETTERS : ∃ t, mg "MAX_LETTERS" = some (.int 8 t)
  c_MAX_EXPONENT : ∃ t, mg "MAX_EXPONENT" = some (.int 60 t)
  c_MAX_MEMBER_EXPONENT : ∃ t, mg "MAX_MEMBER_EXPONENT" = some (.int 8 t)
  c_MAX_MEMBERS : ∃ t, mg "MAX_MEMBERS" = some (.int 24 t)
  c_MAX_PASSED_lots : ∃ t, mg "MAX_PASSED_lots" = some (.int 200 t)
  c_MAX_CORNERS : ∃ t, mg "MAX_CORNERS" = some (.int 8 t)
  c_MAX_PASSED_families : ∃ t, mg "MAX_PASSED_families" = some (.int 256 t)
  c_BETWEEN : ∃ t, mg "BETWEEN" = some (.str ", " t)
  c_SQUARES : ∃ t, mg "SQUARES" = some (.str "squares" t)

/-- a def with its promise -/
structure Ok (P : Program) (w : World) (K : PySem.W.Frag) (mg : Str → Option Value) (base : Heap) (x : Str) (k : Nat) (ps : List Str) (sp : Sp) : Prop where
  ex : ∃ f fd, FnOk P w K mg base CX0 k f fd ps sp ∧ mg x = some (.ref f) ∧ PySem.W.keepIn K (.ref f) = true ∧ Binds K fd ps []
section
variable {P : Program} {w : World} {K : PySem.W.Frag} {mg : Str → Option Value} {base : Heap}
theorem mkOk {x : Str} {st : Stmt} {N ps : List Str} {k : Nat} {sp : Sp} (D : DefIn K mg x st) (S : FnScope N ps (defScope st))
    (hb : ∀ (kV doc pm : Value) (an : Option Addr) (cdv ct : Value) (us : List Value), us.length = ps.length → bindArgs (PySem.W.fnOf x x (defArgs st) (defBody st) (defScope st) .none kV doc pm an cdv ct) ⟨us, []⟩ = pure (ps.zip us))
    (len : ∀ vs H Q E, sp vs H Q E → vs.length = ps.length)
    (hbody : ∀ (cdv : Value) (A : Around) (outer : List Env) (s : Shared) (H : Hp) (vs : List V) (Q : VK) (E : XK) (f : Addr), Room k (A.deeper (envOfC x (defScope st) s.heap.objs.size f cdv)) → sp vs H Q E →
      ∃ t, PSs (cxOf CX0 P w K mg base N x (defScope st) f cdv A outer s H E).nox (defBody st) t ∧ t { nx := fun _ H' => Q .non H', rt := Q } (start N vs) H) : Ok P w K mg base x (k + 1) ps sp := by
  obtain ⟨fd, F, g⟩ := D
  exact ⟨ga K x, fd, F.ok S len fun cdv A outer s H vs Q E hr h => hbody cdv A outer s H vs Q E _ hr h, g, F.kp, F.binds hb⟩
theorem Ok.mono {x : Str} {j k : Nat} {ps : List Str} {sp : Sp} (G : Ok P w K mg base x j ps sp) (h : j ≤ k) : Ok P w K mg base x k ps sp := by
  obtain ⟨f, fd, F, q⟩ := G.ex
  exact ⟨f, fd, F.mono h, q⟩
end
section
variable {X : Cx}
def tCallO (sp : Sp) (t : TA) : TE := fun σ H Q => t σ H fun vs H1 => sp vs H1 Q E0
/-- a call of such a def -/
theorem pcall {k : Nat} {x : Str} {p pos : Pos} {ps : List Str} {sp : Sp} {e : Expr} {es : List Expr} {t : TA} (G : Ok X.prog X.w X.K X.mg X.base x k ps sp) (hr : Room k X.A) (ha : PA X (e :: es) t) (hg : Gl X x := by rfl)
    (hdb : (x == ("__debug__" : Str)) = false := by decide) (he : starEach (e :: es) X.env = (false, eval e X.env) :: starEach es X.env := by rfl) (hpl : (backTo pos (starEach es X.env)).any (·.1) = false := by rfl) :
    PE X (.Call (.Name x p) (e :: es) [] pos) (tCallO sp t) := by
  obtain ⟨f, fd, F, g, kp, b⟩ := G.ex
  have h := pe_call (pos := pos) (p := p) F hr hg g kp b .nil pass0 ha hdb he hpl
  refine ⟨fun pins s σ H Q I hq => h.run pins s σ H Q I ?_⟩
  have e2 : tCall sp [] E0 t σ H Q = tCallO sp t σ H Q := by
    unfold tCall tCallO
    simp only [List.append_nil]
  rw [e2]
  exact hq
end
end K41

/-! K41Ka -/
/-! The layer's rules that read the written part, with the part named (for use within comprehensions). -/
namespace K41
open PySem PySem.Spec PyProof.Rows L2
section
variable {X : Cx} (K : PySem.W.Frag)
theorem sl_tA (h : X.K = K := by rfl) : SlR X (rSlA K) := h ▸ sl_tupA
theorem op_cK (h : X.K = K := by rfl) : OpR X (binaryOp .Add) (rCatA K) := h ▸ op_catA
theorem op_inS (h : X.K = K := by rfl) : OpR X (compareOp .In) (rIn K false) := h ▸ op_in_seq
theorem op_niS (h : X.K = K := by rfl) : OpR X (compareOp .NotIn) (rIn K true) := h ▸ op_notIn_seq
theorem ixT (h : X.K = K := by rfl) : IxR X (rIxT K) := h ▸ ix_tup
theorem ixL (h : X.K = K := by rfl) : IxR X (rIxL K) := h ▸ ix_list
theorem crAll (hc : X.calm = true) (h : X.K = K := by rfl) : CallR X (.builtin "all") (rAll K) := h ▸ cr_all hc
theorem crAny (hc : X.calm = true) (h : X.K = K := by rfl) : CallR X (.builtin "any") (rAny K) := h ▸ cr_any hc
theorem crIsi (h : X.K = K := by rfl) : CallR X (.builtin "isinstance") (rIsi K) := h ▸ call_isi
/-- len(list), len(tuple) -/
def rLenK (K : PySem.W.Frag) : List V → Hp → VK → Prop := fun xs H Q => ∃ p ys, xs = [.ref p] ∧ (SqL K H p ys ∨ SqT K H p ys) ∧ Q (.int ys.length) H
theorem crLen (h : X.K = K := by rfl) : CallR X (.builtin "len") (rLenK K) := h ▸ call_len_seq
def rTupK (K : PySem.W.Frag) : List V → Hp → VK → Prop := fun xs H Q => ∃ p ys, xs = [.ref p] ∧ ((SqL K H p ys ∧ ∀ l, H l = none → Q (.ref l) (upd H l (.tup ys))) ∨ (SqT K H p ys ∧ Q (.ref p) H))
theorem crTup (h : X.K = K := by rfl) : CallR X (.type "tuple") (rTupK K) := h ▸ call_tuple_of
theorem op_eqK (hu : X.A.units + 64 < cLine) (h : X.K = K := by rfl) : OpR X (compareOp .Eq) (rEqD K) := h ▸ op_eqD hu
theorem op_neK (hu : X.A.units + 64 < cLine) (h : X.K = K := by rfl) : OpR X (compareOp .NotEq) (rNeD K) := h ▸ op_neD hu
theorem op_inK (hu : X.A.units + 65 < cLine) (h : X.K = K := by rfl) : OpR X (compareOp .In) (rInD K) := h ▸ op_inD hu
theorem op_niK (hu : X.A.units + 65 < cLine) (h : X.K = K := by rfl) : OpR X (compareOp .NotIn) (rNotInD K) := h ▸ op_notInD hu
variable {e : Expr} {tl : TE} {tg : Expr}
theorem pi_lK (hl : PE X e tl) (h : X.K = K := by rfl) : PI X tg e (iList K tl) := h ▸ pi_list hl
theorem pi_tK (hl : PE X e tl) (h : X.K = K := by rfl) : PI X tg e (iTup K tl) := h ▸ pi_tup hl
/-- over a list or a tuple -/
def iSeq (K : PySem.W.Frag) (tl : TE) : TI := fun σ H R => iList K tl σ H R ∨ iTup K tl σ H R
theorem pi_sK (hl : PE X e tl) (h : X.K = K := by rfl) : PI X tg e (iSeq K tl) := ⟨fun pins s σ H R I q => by
  rcases q with q | q
  · exact (pi_lK K hl h).run pins s σ H R I q
  · exact (pi_tK K hl h).run pins s σ H R I q⟩
theorem pi_zK {e2 : Expr} {ta : TA} {p pos tpos : Pos} {elts : List Expr} {kk : Nat} (hg : Gl X "zip") (hm : X.mg "zip" = none) (ha : PA X [e, e2] ta) (h : X.K = K := by rfl)
    (hs : starEach [e, e2] X.env = (false, eval e X.env) :: starEach [e2] X.env := by rfl) (hpl : (backTo pos (starEach [e2] X.env)).any (·.1) = false := by rfl) :
    PI X (.Tuple elts kk tpos) (.Call (.Name "zip" p) [e, e2] [] pos) (RZ.iZipA K ta) := h ▸ RZ.pi_zipA hg hm ha hs hpl
end
end K41

/-! K41R1 -/
/-! max and sum of a tuple of ints. -/
namespace K41
open PySem PySem.Spec PyProof.Rows L2
section
variable {prog : Program} {w : World} {A : Around} {E : Value → Shared → Prop} {s : Shared} {t : Addr} {its : List Value} {ns : List Int}
/-- the items as the library's walks want them -/
theorem int_items (hi : IntsAre its ns) : ∃ xs : Array (Int × Tok), its.toArray = intItems xs ∧ ns = xs.toList.map (·.1) := by
  obtain ⟨xs, e⟩ := hi.allInts.items
  refine ⟨xs, e, ?_⟩
  have q : numsOf (intItems xs).toList = ns := by rw [← e]; exact hi.numsOf
  rw [← q, nums_intItems]
theorem max_tup {Q : Value → Shared → Prop} (hh : A.handled = none) (ht : IsTup s.heap t its.toArray) (hi : IntsAre its ns) (hne : 0 < ns.length)
    (h : ∀ h' tk m t', (∀ b o, s.heap.get? b = some o → h'.get? b = some o) → m ∈ ns → (∀ a ∈ ns, a ≤ m) → Q (.int m t') { s with heap := h', toks := tk }) : wpAny (model prog w) A (call (.builtin "max") [.ref t]) Q E s := by
  obtain ⟨xs, e, rfl⟩ := int_items hi
  have ht2 : s.heap.IsTuple t (intItems xs) := by rw [← e]; exact ht
  have hlt : t < s.heap.objs.size := ht.lt
  have hsz : 0 < xs.size := by simpa using hne
  refine call_max_walk (wpAny_pyIter_tuple ht2 ⟨_, [_, t], [_], _, _, _, _, rfl, Walks.tuple (A := A.in1) hh _ t (Nat.ne_of_lt hlt) (intItems xs), ⟨⟨_, Heap.get?_push_size _ rfl, rfl, rfl⟩, ht2.push _⟩, fun d hd => ?_, by simpa [intItems] using hsz,
    CmpOf.ints_gt (numAt xs) (fun _ _ => intItems_at), fun v h' tk hP hk => ?_⟩)
  · show d < (s.heap.push _).objs.size
    rw [Heap.size_push]
    have hd' : d = s.heap.objs.size ∨ d = t := by simpa using hd
    rcases hd' with z | z
    · rw [z]
      exact Nat.lt_succ_self _
    · rw [z]
      exact Nat.lt_succ_of_lt hlt
  · have kept : ∀ b o, s.heap.get? b = some o → h'.get? b = some o := fun b o q => hk b o (fun z => by
      have z' : b = s.heap.objs.size := by simpa using z
      exact Nat.lt_irrefl _ (z' ▸ Heap.lt_size q)) (Heap.get?_push_of_some _ q)
    have hP' : (intItems xs)[argBest (fun i j => decide (numAt xs i > numAt xs j)) (xs.size - 1)]? = some v := by simpa [intItems] using hP
    obtain ⟨t', rfl⟩ := intItems_at hP'
    obtain ⟨h1, h2⟩ := argBest_gt (numAt xs) (xs.size - 1)
    refine h h' tk _ t' kept ?_ fun a ha => ?_
    · rw [numAt_eq]
      exact PySem.getD_mem (by rw [List.length_map, Array.length_toList]; omega)
    · obtain ⟨j, hj, rfl⟩ := mem_getD ha
      rw [List.length_map, Array.length_toList] at hj
      rw [← numAt_eq]
      exact h2 j (by omega)
theorem sum_tup {Q : Value → Shared → Prop} (hh : A.handled = none) (ht : IsTup s.heap t its.toArray) (hi : IntsAre its ns)
    (h : ∀ h' tk t', (∀ b o, s.heap.get? b = some o → h'.get? b = some o) → Q (.int ns.sum t') { s with heap := h', toks := tk }) : wpAny (model prog w) A (call (.builtin "sum") [.ref t]) Q E s := by
  obtain ⟨xs, e, rfl⟩ := int_items hi
  have ht2 : s.heap.IsTuple t (intItems xs) := by rw [← e]; exact ht
  have hlt : t < s.heap.objs.size := ht.lt
  refine call_sum_walkG (wpAny_pyIter_tuple ht2 ⟨_, [_, t], [_], _, _, _, numAt xs, rfl, Walks.tuple (A := A.in1) hh _ t (Nat.ne_of_lt hlt) (intItems xs), ⟨⟨_, Heap.get?_push_size _ rfl, rfl, rfl⟩, ht2.push _⟩, fun d hd => ?_, (fun _ _ => intItems_at), fun h' tk t' hk => ?_⟩)
  · show d < (s.heap.push _).objs.size
    rw [Heap.size_push]
    have hd' : d = s.heap.objs.size ∨ d = t := by simpa using hd
    rcases hd' with z | z
    · rw [z]
      exact Nat.lt_succ_self _
    · rw [z]
      exact Nat.lt_succ_of_lt hlt
  · have kept : ∀ b o, s.heap.get? b = some o → h'.get? b = some o := fun b o q => hk b o (fun z => by
      have z' : b = s.heap.objs.size := by simpa using z
      exact Nat.lt_irrefl _ (z' ▸ Heap.lt_size q)) (Heap.get?_push_of_some _ q)
    have q := h h' tk t' kept
    have es : preSum (numAt xs) (intItems xs).size = (xs.toList.map (·.1)).sum := by
      rw [show (intItems xs).size = xs.size by simp [intItems], preSum_eq, List.take_of_length_le (by simp)]
    rw [← es] at q
    exact q
end
/-- max(t), t a tuple of ints, not empty -/
def rMaxT (K : PySem.W.Frag) : List V → Hp → VK → Prop := fun vs H Q => ∃ (a : Addr) (ns : List Int), vs = [V.ref a] ∧ SqT K H a (ns.map V.int) ∧ 0 < ns.length ∧ ∀ m : Int, m ∈ ns → (∀ j ∈ ns, j ≤ m) → Q (.int m) H
theorem crMaxT {X : Cx} (K : PySem.W.Frag) (hc : X.calm = true) (hK : X.K = K := by rfl) : CallR X (.builtin "max") (rMaxT K) := by
  subst hK
  intro pins s σ H vs us Q I r h
  obtain ⟨a, ns, rfl, hs, hne, q⟩ := h
  obtain ⟨its, rv, ht, _⟩ := I.tuple hs
  rw [Vals.ref1 r]
  exact max_tup (I.ok.hd hc) ht rv.ints hne fun h' tk m t' hk h1 h2 => ⟨.int m, H, I.kept hk, ⟨_, rfl⟩, q m h1 h2⟩
end K41

/-! K41S -/
/-! Sorting of tuples of ints of any lengths. -/
namespace K41
open PySem PySem.Spec PyProof.Rows L2

/-! ### the order of tuples -/
theorem lex_asym : ∀ x y : List Int, HT.lexLt x y = true → HT.lexLt y x = false
  | [], [], _ => rfl
  | [], _ :: _, _ => rfl
  | _ :: _, [], h => absurd h Bool.false_ne_true
  | x :: xs, y :: ys, h => by
    rw [HT.lexLt_cons] at h ⊢
    by_cases e : x = y
    · rw [if_pos e] at h
      rw [if_pos e.symm]
      exact lex_asym xs ys h
    · rw [if_neg e] at h
      rw [if_neg fun q => e q.symm]
      have := of_decide_eq_true h
      exact decide_eq_false (by omega)
theorem lex_tr : ∀ x y z : List Int, HT.lexLt y x = false → HT.lexLt z y = false → HT.lexLt z x = false
  | [], [], [], _, _ => rfl
  | _ :: _, [], [], h1, _ => absurd h1.symm Bool.false_ne_true
  | _, _ :: _, [], _, h2 => absurd h2.symm Bool.false_ne_true
  | [], _, _ :: _, _, _ => rfl
  | _ :: _, [], _ :: _, h1, _ => absurd h1.symm Bool.false_ne_true
  | a :: xs, b :: ys, c :: zs, h1, h2 => by
    rw [HT.lexLt_cons] at h1 h2 ⊢
    by_cases e1 : b = a
    · rw [if_pos e1] at h1
      by_cases e2 : c = b
      · rw [if_pos e2] at h2
        rw [if_pos (e2.trans e1)]
        exact lex_tr xs ys zs h1 h2
      · rw [if_neg e2] at h2
        rw [if_neg (by omega)]
        have := of_decide_eq_false h2
        exact decide_eq_false (by omega)
    · rw [if_neg e1] at h1
      have k1 := of_decide_eq_false h1
      by_cases e2 : c = b
      · rw [if_neg (by omega)]
        exact decide_eq_false (by omega)
      · rw [if_neg e2] at h2
        have k2 := of_decide_eq_false h2
        rw [if_neg (by omega)]
        exact decide_eq_false (by omega)
theorem lex_anti : ∀ x y : List Int, HT.lexLt x y = false → HT.lexLt y x = false → x = y
  | [], [], _, _ => rfl
  | [], _ :: _, h, _ => absurd h.symm Bool.false_ne_true
  | _ :: _, [], _, h => absurd h.symm Bool.false_ne_true
  | x :: xs, y :: ys, h1, h2 => by
    rw [HT.lexLt_cons] at h1 h2
    by_cases e : x = y
    · rw [if_pos e] at h1
      rw [if_pos e.symm] at h2
      rw [e, lex_anti xs ys h1 h2]
    · rw [if_neg e] at h1
      rw [if_neg fun q => e q.symm] at h2
      have k1 := of_decide_eq_false h1
      have k2 := of_decide_eq_false h2
      omega
theorem lex_swo {α : Type} (k : α → List Int) : SrtO.Swo fun x y => HT.lexLt (k x) (k y) := ⟨fun x y h => lex_asym _ _ h, fun x y z h1 h2 => lex_tr _ _ _ h1 h2⟩

/-! ### the values -/
/-- v is a tuple of the ints k -/
def TupI (h : Heap) (v : Value) (k : List Int) : Prop := ∃ a its, v = .ref a ∧ IsTup h a its ∧ IntsAre its.toList k
theorem TupI.keep {h h' : Heap} {v : Value} {k : List Int} (x : TupI h v k) (kp : ∀ b o, h.get? b = some o → o.cls = .type "tuple" → h'.get? b = some o) : TupI h' v k := by
  obtain ⟨a, its, e, ⟨o, ho, hc, r⟩, i⟩ := x
  exact ⟨a, its, e, ⟨o, kp a o ho hc, hc, r⟩, i⟩
section
variable {prog : Program} {w : World} {A : Around} {E : Value → Shared → Prop} {s : Shared}
theorem kat_ints {b fin : Bool} {Q : Bool → Shared → Prop} : ∀ {vs ws : List Value} {ns ms : List Int} (i : Nat), IntsAre vs ns → IntsAre ws ms → fin = decide (ns.length < ms.length) → Q (HT.lexLt ns ms) s → PySem.W.KatLex prog w A b fin Q (vs.zip ws) i s
  | _, _, _, _, _, .nil, .nil, hf, hq => by
    subst hf
    exact PySem.W.kat_nil hq
  | _, _, _, _, _, .nil, .cons n t h, hf, hq => by
    subst hf
    refine PySem.W.kat_nil ?_
    rw [show decide (List.length ([] : List Int) < List.length (n :: _)) = true from by simp]
    exact hq
  | _, _, _, _, _, .cons n t h, .nil, hf, hq => by
    subst hf
    refine PySem.W.kat_nil ?_
    rw [show decide (List.length (n :: _) < List.length ([] : List Int)) = false from by simp]
    exact hq
  | _, _, _, _, i, .cons n t h, .cons m u h', hf, hq => by
    rw [List.zip_cons_cons]
    refine PySem.W.kat_cons (SeqAt.EqAt.int_int n t m u prog w _ _ ?_)
    rw [HT.lexLt_cons] at hq
    refine PySem.W.kat_go (fun e => ?_) (fun e => ?_)
    · have e' : n = m := by simpa using e
      rw [if_pos e'] at hq
      refine PySem.W.kat_yes (kat_ints (i + 1) h h' ?_ hq)
      rw [hf, List.length_cons, List.length_cons]
      simp
    · have e' : ¬ n = m := by simpa using e
      rw [if_neg e'] at hq
      refine PySem.W.kat_no ?_
      generalize (b && i == 0) = c
      cases c with
      | true => exact oneLt_int hq
      | false => exact PySem.W.kat_one _ _ (PyProof.Rows.lt_int (show PySem.W.BoolBack Q (.bool (decide (n < m))) s from hq))
theorem len_ints {its : Array Value} {k : List Int} (h : IntsAre its.toList k) : its.size = k.length := by
  rw [← Array.length_toList]
  exact h.length
/-- one tuple before another, in each of the three ways -/
theorem lt_tups {x y : Value} {k k' : List Int} {Q : Bool → Shared → Prop} (hx : TupI s.heap x k) (hy : TupI s.heap y k') (b : Bool) (h : Q (HT.lexLt k k') s) : wpAny (model prog w) A (keyLt' (tuples' b) x y) Q E s := by
  obtain ⟨a, its, rfl, ⟨o, ho, hc, n, hd⟩, i⟩ := hx
  obtain ⟨a', its', rfl, ⟨o', ho', hc', n', hd'⟩, i'⟩ := hy
  refine PySem.W.kat_lt ho hd ho' hd' (kat_ints 0 i i' ?_ h)
  rw [len_ints i, len_ints i']
theorem lt_gen {x y : Value} {k k' : List Int} {Q : Bool → Shared → Prop} (hu : A.units < cLine) (hx : TupI s.heap x k) (hy : TupI s.heap y k') (h : Q (HT.lexLt k k') s) : wpAny (model prog w) A (keyLt' general' x y) Q E s := by
  obtain ⟨a, its, rfl, t, i⟩ := hx
  obtain ⟨a', its', rfl, t', i'⟩ := hy
  exact PySem.W.kat_one _ _ (HT.lt_tupInts t t' i i' hu h)
theorem lt_one {x y : Value} {k k' : List Int} {Q : Bool → Shared → Prop} (hu : A.units < cLine) (hx : TupI s.heap x k) (hy : TupI s.heap y k') (h : Q (HT.lexLt k k') s) : wpAny (model prog w) A (keyLt' oneType' x y) Q E s := by
  obtain ⟨a, its, rfl, ⟨⟨c1, d1, e1, l1⟩, ho, hc, n, hd⟩, i⟩ := hx
  obtain ⟨a', its', rfl, ⟨⟨c2, d2, e2, l2⟩, ho', hc', n', hd'⟩, i'⟩ := hy
  simp only at hc hd hc' hd'
  subst hc hd hc' hd'
  rw [keyLt'_oneType, oneLt'_eq]
  simp only [if_true]
  refine wpAny_bind (wpAny_cRoomFor hu ?_)
  refine wpAny_bind (wpAny_callSpecialIfBound?_slot (T := "tuple") ⟨_, ho, rfl⟩ PySem.F.slot_tuple_lt (call_meets PySem.F.slot_tuple_lt ⟨_, ho, rfl⟩ PySem.F.entry_tuple_lt (PySem.F.args_tuple_lt_2 _ _)
    (HT.tuple_lt_ints a a' its its' n n' d1 d2 l1 l2 k k' i i') ⟨ho, ho', ?_⟩))
  exact wpAny_truthy_bool h
/-- the first items -/
theorem firsts {k : Value → List Int} : ∀ {vs : List Value}, (∀ v ∈ vs, TupI s.heap v (k v)) → ∃ fs : List (Option Value), Paired (fun v f => (f = none ∧ k v = []) ∨ ∃ n t, f = some (Value.int n t)) vs fs ∧
    ∀ {M : Model} {A : Around} {E : Value → Shared → Prop} {Q : List (Option Value) → Shared → Prop}, Q fs s → wpAny M A (vs.mapM firstOfTuple') Q E s
  | [], _ => ⟨[], .nil, fun h => by rw [List.mapM_nil]; exact wpAny_pure h⟩
  | v :: vs, hp => by
    obtain ⟨fs, pr, g⟩ := firsts (vs := vs) fun u hu => hp u (List.mem_cons_of_mem _ hu)
    obtain ⟨a, its, e, ⟨o, ho, hc, n, hd⟩, i⟩ := hp v List.mem_cons_self
    refine ⟨its[0]? :: fs, .cons ?_ pr, fun {M A E Q} hq => ?_⟩
    · rw [← Array.getElem?_toList]
      generalize its.toList = l at i
      generalize k v = kk at i
      cases i with
      | nil => exact .inl ⟨rfl, rfl⟩
      | cons n t _ => exact .inr ⟨n, t, rfl⟩
    · subst e
      rw [List.mapM_cons]
      refine wpAny_bind ?_
      rw [PySem.W.kas_first_eq]
      refine wpAny_bind (PySem.W.Looks.here (show PySem.W.Looks M s.heap (typeOf (.ref a)) o.cls from (PySem.W.Looks.ld ho).andThen .now) ?_)
      rw [hc, if_neg (by decide)]
      exact wpAny_bind (listItems_at ho hd (wpAny_pure (wpAny_bind (g (wpAny_pure hq)))))
theorem one_type {vs : List Value} {T : Value} {M : Model} {Q : Option Value → Shared → Prop} (h1 : 0 < vs.length) (hT : ∀ v ∈ vs, PySem.W.Looks M s.heap (typeOf v) T) (hT2 : (T == T) = true) (h : Q (some T) s) : wpAny M A (oneTypeOnly' vs.toArray) Q E s := by
  rw [oneTypeOnly'_eq, List.mapM_toArray, map_eq_pure_bind]
  refine wpAny_bind (wpAny_bind (PySem.W.kas_mapM (r := T) _ (fun v hv Q' hq => (hT v hv).here hq) (wpAny_pure ?_)))
  have ha : ((List.map (fun _ => T) vs).toArray.all fun x => x == T) = true := by
    simp only [List.all_toArray, List.all_map, List.all_eq_true]
    exact fun _ _ => hT2
  have h0 : (List.map (fun _ => T) vs).toArray[0]? = some T := by
    cases vs with
    | nil => simp at h1
    | cons v r => simp
  rw [h0]
  simp only [ha, if_true]
  exact wpAny_pure h
theorem tups_kind {k : Value → List Int} {vs : List Value} (h2 : 2 ≤ vs.length) (hp : ∀ v ∈ vs, TupI s.heap v (k v)) : ∃ κ, (κ = tuples' true ∨ κ = general' ∨ κ = oneType') ∧
    ∀ {M : Model} {A : Around} {E : Value → Shared → Prop} {Q : SortKind → Shared → Prop}, Q κ s → wpAny M A (keyKind' vs.toArray) Q E s := by
  obtain ⟨fs, pr, g⟩ := firsts hp
  have hl : vs.length = fs.length := Paired.length pr
  by_cases ha : (fs.toArray.all fun x => x.isSome) = true
  · refine ⟨tuples' true, .inl rfl, fun {M A E Q} hq => ?_⟩
    rw [kat_kind_eq, List.mapM_toArray, map_eq_pure_bind]
    refine wpAny_bind (wpAny_bind (g (wpAny_pure ?_)))
    rw [if_pos ha]
    refine wpAny_bind (wpAny_rule ?_)
    have e : fs.toArray.filterMap id = (fs.filterMap id).toArray := by simp
    rw [e]
    have hall : ∀ f ∈ fs, f.isSome = true := by
      simpa using ha
    have hnum : ∀ f ∈ fs, f.isSome = true → ∃ n t, f = some (Value.int n t) := fun f hf hs => by
      obtain ⟨v, _, q⟩ := pr_mem pr hf
      rcases q with ⟨q, _⟩ | q
      · rw [q] at hs
        cases hs
      · exact q
    refine wpAny_bind (one_type (T := .type "int") ?_ (fun f hf => ?_) (by decide) ?_)
    · match fs, hl, hall with
      | [], hl, _ => rw [List.length_nil] at hl; omega
      | f :: r, _, hall =>
        obtain ⟨x, e⟩ := Option.isSome_iff_exists.mp (hall f List.mem_cons_self)
        rw [e]
        simp
    · have hf' : some f ∈ fs := by simpa using hf
      obtain ⟨n, t, q⟩ := hnum _ hf' rfl
      cases q
      exact PySem.W.Looks.now
    · have e2 : ((some (Value.type "int")).any fun x => x != Value.type "tuple") = true := by decide
      rw [e2]
      exact wpAny_pure hq
  · by_cases hb : ((fs.toArray[0]?).bind id).isSome = true
    · refine ⟨general', .inr (.inl rfl), fun {M A E Q} hq => ?_⟩
      rw [kat_kind_eq, List.mapM_toArray, map_eq_pure_bind]
      refine wpAny_bind (wpAny_bind (g (wpAny_pure ?_)))
      rw [if_neg ha, if_pos hb]
      exact wpAny_pure hq
    · refine ⟨oneType', .inr (.inr rfl), fun {M A E Q} hq => ?_⟩
      rw [kat_kind_eq, List.mapM_toArray, map_eq_pure_bind]
      refine wpAny_bind (wpAny_bind (g (wpAny_pure ?_)))
      rw [if_neg ha, if_neg hb]
      refine wpAny_bind (one_type (T := .type "tuple") (by omega) (fun v hv => ?_) (by decide) (wpAny_pure hq))
      obtain ⟨a, its, e, ⟨o, ho, hc, n, hd⟩, i⟩ := hp v hv
      subst e
      rw [← hc]
      exact (PySem.W.Looks.ld ho).andThen .now
theorem tups_sortable {a : Addr} {vs : List Value} {k : Value → List Int} (hu : A.units < cLine) (h2 : 2 ≤ vs.length) (hp : ∀ v ∈ vs, TupI s.heap v (k v)) (ha : ∀ o, s.heap.get? a = some o → o.cls ≠ .type "tuple") :
    SrtO.SortableO prog w A s a vs fun v u => HT.lexLt (k v) (k u) := by
  intro h' keep
  have hp' : ∀ v ∈ vs, TupI h' v (k v) := fun v hm => (hp v hm).keep fun b o e c => keep b o (fun z => by subst z; exact ha o e c) e
  obtain ⟨κ, hk, g⟩ := tups_kind (s := { s with heap := h' }) h2 hp'
  refine ⟨κ, fun Q E hq => g hq, fun p q hm hm' => ?_⟩
  have x := hp' _ hm
  have y := hp' _ hm'
  show wpAny (model prog w) A (keyLt' κ p.1 q.1) (fun r s' => s' = _ ∧ r = HT.lexLt (k p.1) (k q.1)) (fun _ _ => False) _
  rcases hk with rfl | rfl | rfl
  · exact lt_tups x y true ⟨rfl, rfl⟩
  · exact lt_gen hu x y ⟨rfl, rfl⟩
  · exact lt_one hu x y ⟨rfl, rfl⟩
end
end K41

/-! K41S2 -/
/-! sorted of anything that can be gathered; by a key that is a built-in and that leaves what stood. -/
namespace K41
open PySem PySem.Spec PyProof.Rows L2
section
variable {prog : Program} {w : World} {A : Around} {E : Value → Shared → Prop} {s : Shared}
theorem sorted_src {kw : List (Str × Value)} {r : Addr} {P : Shared → List Value → Prop} {W : Shared → Shared → List Value → List Value → Prop} {Q : Value → Shared → Prop} (ha1 : argsOk "sorted" ⟨[.ref r], kw⟩) (ha2 : ∀ a, argsOk "list.sort" ⟨[a], kw⟩)
    (hcol : ∀ R : List Value → Shared → Prop, (∀ s1 vs, P s1 vs → R vs s1) → wpAny (model prog w) A.in1 (collect (.ref r)) R E s) (hz : ∀ s1 vs, P s1 vs → vs.length ≤ sizeLine)
    (hsort : ∀ s1 vs, P s1 vs → ∀ R : PySem.Fin → Shared → Prop, (∀ s2 out, W s1 s2 vs out → R (.done (.ret .none)) s2) → wpAny (model prog w) A.in1.in1 (Builtin.«list.sort» ⟨[.ref s1.heap.objs.size], kw⟩) R E { s1 with heap := s1.heap.push (seqObj "list" vs.toArray 0) })
    (h : ∀ s1 vs s2 out, P s1 vs → W s1 s2 vs out → Q (.ref s1.heap.objs.size) s2) : wpAny (model prog w) A (call (.builtin "sorted") [.ref r] kw) Q E s := by
  refine call_function_entry_kw kind_sorted plain_sorted entry_sorted ha1 ?_
  unfold Builtin.«sorted»
  refine wpAny_bind (m := checkCount "sorted" 1 1 _) (wpAny_pure ?_)
  refine wpAny_bind (hcol _ fun s1 vs p => ?_)
  refine wpAny_bind (wpAny_newList ?_ (hz s1 vs p))
  have hoL : (s1.heap.push (seqObj "list" vs.toArray 0)).get? s1.heap.objs.size = some (seqObj "list" vs.toArray 0) := Heap.get?_push_size _ rfl
  show wpAny _ _ _ _ _ { s1 with heap := s1.heap.push (seqObj "list" vs.toArray 0) }
  refine wpAny_bind (wpAny_holding (wpAny_call_entry_kw slot_list_sort ⟨_, hoL, rfl⟩ entry_list_sort ?_ (ha2 _)))
  refine hsort s1 vs p _ fun s2 out wq => ⟨_, rfl, ?_⟩
  exact wpAny_pure ⟨_, rfl, h s1 vs s2 out p wq⟩

/-! ### list.sort by a key -/
/-- what stood stands, but at a and c -/
def But (a c : Addr) (h h' : Heap) : Prop := ∀ b o, b ≠ a → b ≠ c → h.get? b = some o → h'.get? b = some o
theorem But.rfl (a c : Addr) (h : Heap) : But a c h h := fun _ _ _ _ e => e
theorem But.trans {a c : Addr} {h h1 h2 : Heap} (x : But a c h h1) (y : But a c h1 h2) : But a c h h2 := fun b o n m e => y b o n m (x b o n m e)
theorem But.upd {a c d : Addr} {h : Heap} {f : Obj → Obj} (hd : d = a ∨ d = c) : But a c h (h.update d f) := fun b o n m e => by
  rw [Heap.get?_update_ne _ _ _ _ (by rcases hd with rfl | rfl <;> assumption)]
  exact e
/-- the keys' order of the sorted items -/
def ByKey (kz : List Int) (vs out : List Value) : Prop := ∃ ps : List (Int × Value), ps.Perm (kz.zip vs) ∧ out = ps.map Prod.snd ∧ ps.Pairwise fun p q => p.1 ≤ q.1
theorem zip_list (keys : Array Value) (vs : List Value) : (keys.zip vs.toArray).toList = keys.toList.zip vs := by simp
theorem byKey_of {keys : Array Value} {vs : List Value} {kz : List Int} {xs : Array Keyed} (hk : IntsAre keys.toList kz) (h1 : SrtO.Srtd (SrtO.lt2 SrtO.ltIv) xs.toList) (h2 : xs.toList.Perm (keys.zip vs.toArray).toList) :
    ByKey kz vs (xs.map (·.2)).toList := by
  rw [zip_list] at h2
  refine ⟨xs.toList.map fun p : Keyed => (SrtO.iv p.1, p.2), ?_, ?_, ?_⟩
  · have e : (keys.toList.zip vs).map (fun p : Keyed => (SrtO.iv p.1, p.2)) = kz.zip vs := by
      rw [← SrtO.iv_ints hk, List.zip_map_left]
      exact List.map_congr_left fun ⟨x, y⟩ _ => rfl
    rw [← e]
    exact h2.map _
  · rw [Array.toList_map, List.map_map]
    rfl
  · rw [List.pairwise_map]
    exact h1.imp fun {x y} q => Int.not_lt.mp (of_decide_eq_false (p := SrtO.iv y.1 < SrtO.iv x.1) q)
theorem sort_key {a : Addr} {id : String} {vs : List Value} {kz : List Int} {n : Nat} {R : PySem.Fin → Shared → Prop} (ho : s.heap.get? a = some (seqObj "list" vs.toArray n)) (hlen : kz.length = vs.length) (hz : vs.length ≤ 1000000)
    (turn : ∀ (i : Nat) (v : Value) (k : Int), vs[i]? = some v → kz[i]? = some k → ∀ (h : Heap) (tk : Nat), (∀ b o, b ≠ a → s.heap.get? b = some o → h.get? b = some o) →
      wpAny (model prog w) A (call (.builtin id) [v]) (fun r s' => ∃ h' tk' t, r = .int k t ∧ s' = { s with heap := h', toks := tk' } ∧ ∀ b o, h.get? b = some o → h'.get? b = some o) (fun _ _ => False) { s with heap := h, toks := tk })
    (h : ∀ h' tk out c, ByKey kz vs out → (∀ b o, b ≠ a → s.heap.get? b = some o → h'.get? b = some o) → h'.get? a = some (seqObj "list" out.toArray c) → R (.done (.ret .none)) { s with heap := h', toks := tk }) :
    wpAny (model prog w) A (Builtin.«list.sort» ⟨[.ref a], [(Str.ofString "key", .builtin id)]⟩) R E s := by
  rw [ksk_t4]
  unfold ksk_tree
  have hz0 : vs.length ≤ sizeLine := Nat.le_trans hz (by decide)
  have ha : a < s.heap.objs.size := Heap.lt_size ho
  refine wpAny_bind (listItems_at ho rfl ?_)
  refine wpAny_bind (listUpdate_at ho rfl ?_ (by rw [List.size_toArray]; exact hz0) (Nat.zero_le _))
  obtain ⟨e1, ho1⟩ : ∃ e1, (s.heap.update a (Obj.mapSeq fun _ => #[])).get? a = some (seqObj "list" #[] e1) := ⟨_, get?_update_seq ho (fun _ => #[])⟩
  refine wpAny_bind (seqEpoch_at ho1 rfl ?_)
  refine wpAny_bind (wpAny_newTuple ?_ (by show vs.length ≤ _; exact hz0))
  refine wpAny_bind (wpAny_newList ?_ (Nat.zero_le _))
  refine wpAny_holding ?_
  obtain ⟨g, eg⟩ : ∃ g, g = (s.heap.update a (Obj.mapSeq fun _ => #[])).push (seqObj "tuple" vs.toArray 0) := ⟨_, rfl⟩
  have hgs : g.objs.size = s.heap.objs.size + 1 := by rw [eg, size_push', Heap.size_update]
  have hga : g.get? a = some (seqObj "list" #[] e1) := by rw [eg]; exact Heap.get?_push_of_some _ ho1
  have gk : ∀ b o, b ≠ a → s.heap.get? b = some o → g.get? b = some o := fun b o n e => by
    rw [eg]
    refine Heap.get?_push_of_some _ ?_
    rw [Heap.get?_update_ne _ _ _ _ n]
    exact e
  show wpAny (model prog w) A _ R E { s with heap := ((s.heap.update a (Obj.mapSeq fun _ => #[])).push (seqObj "tuple" vs.toArray 0)).push (seqObj "list" #[] 0) }
  rw [← eg]
  obtain ⟨kS, ek⟩ : ∃ kS, kS = g.objs.size := ⟨_, rfl⟩
  have hka : a ≠ kS := by rw [ek, hgs]; exact Nat.ne_of_lt (Nat.lt_succ_of_lt ha)
  have old : ∀ b o, s.heap.get? b = some o → b ≠ kS := fun b o e => by rw [ek, hgs]; exact Nat.ne_of_lt (Nat.lt_succ_of_lt (Heap.lt_size e))
  unfold ksk_rest
  refine wpAny_bind (wpAny_rule ?_)
  rw [List.forIn_toArray]
  refine wpAny_bind (ksk_fold (fun i s' => ∃ h' tk kA e, s' = { s with heap := h', toks := tk } ∧ (∀ b o, b ≠ a → s.heap.get? b = some o → h'.get? b = some o) ∧ h'.get? a = some (seqObj "list" #[] e1) ∧ h'.get? kS = some (seqObj "list" kA e) ∧ IntsAre kA.toList (kz.take i)) vs 0 _
    ⟨g.push (seqObj "list" #[] 0), s.toks, #[], 0, rfl, fun b o n e => Heap.get?_push_of_some _ (gk b o n e), Heap.get?_push_of_some _ hga, by rw [ek]; exact Heap.get?_push_size _ rfl, by simpa using IntsAre.nil⟩ ?step ?done)
  case step =>
    rintro j x s' hx ⟨h', tk, kA, e, rfl, k1, k2, k3, hk⟩
    simp only [Nat.zero_add] at hk ⊢
    have hj : j < vs.length := (List.getElem?_eq_some_iff.mp hx).1
    obtain ⟨k, hkj⟩ : ∃ k, kz[j]? = some k := ⟨_, List.getElem?_eq_getElem (by omega)⟩
    have hzz : kA.size ≤ vs.length := by
      have h1 := hk.length
      rw [Array.length_toList, List.length_take] at h1
      omega
    refine wpAny_bind (wpAny_attempt (wpAny_mono (turn j x k hx hkj h' tk k1) (fun v s'' he => ?_) fun _ _ hF => hF.elim))
    obtain ⟨g2, tk2, t2, rfl, rfl, kk⟩ := he
    try dsimp only
    have nk := kk _ _ k3
    rw [← ek]
    obtain ⟨c2, hc2⟩ : ∃ c2, (g2.update kS (Obj.mapSeq (·.push (.int k t2)))).get? kS = some (seqObj "list" (kA.push (.int k t2)) c2) := ⟨_, get?_update_seq nk (·.push (.int k t2))⟩
    have ekk : kz.take (j + 1) = kz.take j ++ [k] := by rw [List.take_add_one, hkj]; simp
    have ea : (kA.push (Value.int k t2)).toList = kA.toList ++ [Value.int k t2] := by simp
    refine wpAny_bind (listUpdate_at nk rfl ?_ (Nat.le_trans hzz hz0) (Nat.le_trans (Nat.le_of_eq (Array.size_push ..)) (Nat.le_trans (Nat.succ_le_succ (Nat.le_trans hzz hz)) (by decide))))
    refine wpAny_pure ⟨rfl, _, _, kA.push (.int k t2), c2, rfl, fun b o nb q => ?_, ?_, hc2, by rw [ea, ekk]; exact ksk_snoc hk⟩
    · rw [Heap.get?_update_ne _ _ _ _ (old b o q)]
      exact kk _ _ (k1 b o nb q)
    · rw [Heap.get?_update_ne _ _ _ _ hka]
      exact kk _ _ k2
  case done =>
    rintro s' ⟨h', tk, kA, e, rfl, k1, k2, k3, hk⟩
    have hk' : IntsAre kA.toList kz := by
      have e3 : kz.take (0 + vs.length) = kz := List.take_of_length_le (by omega)
      rw [e3] at hk
      exact hk
    have hsz : kA.size = vs.length := by
      have h1 := hk'.length
      rw [Array.length_toList] at h1
      omega
    rw [← ek]
    try dsimp only
    refine wpAny_bind (listItems_at k3 rfl ?_)
    unfold ksk_end
    try dsimp only
    simp only [Bool.false_eq_true, if_false]
    have hzs : (kA.zip vs.toArray).size = vs.length := by rw [Array.size_zip, hsz, List.size_toArray, Nat.min_self]
    have tail : ∀ (st : SortSt), SrtO.Srtd (SrtO.lt2 SrtO.ltIv) (arrOf st).toList → (arrOf st).toList.Perm (kA.zip vs.toArray).toList → failedOf st = none → wpAny (model prog w) A (ksk_tail a false e1 (.ref kS) st) R E { s with heap := h', toks := tk } := by
      intro st g1 g2 g3
      have hl : (arrOf st).size = vs.length := by
        rw [← Array.length_toList, g2.length_eq, Array.length_toList, hzs]
      unfold ksk_tail
      try dsimp only
      have u1 : (h'.update kS (Obj.mapSeq fun _ => (#[] : Array Value))).get? a = some (seqObj "list" #[] e1) := by
        rw [Heap.get?_update_ne _ _ _ _ hka]
        exact k2
      refine wpAny_bind (listUpdate_at k3 rfl ?_ (Nat.le_trans (Nat.le_of_eq hsz) hz0) (Nat.zero_le _))
      refine wpAny_bind (wpAny_letGo ?_)
      refine wpAny_bind (seqEpoch_at u1 rfl ?_)
      simp only [Bool.false_eq_true, if_false]
      refine wpAny_bind (listUpdate_at u1 rfl ?_ (Nat.zero_le _) (Nat.le_trans (Nat.le_of_eq (by rw [Array.size_map]; exact hl)) (Nat.le_succ_of_le hz0)))
      obtain ⟨c2, hc2⟩ : ∃ c2, ((h'.update kS (Obj.mapSeq fun _ => (#[] : Array Value))).update a (Obj.mapSeq fun _ => (arrOf st).map (·.2))).get? a = some (seqObj "list" ((arrOf st).map (·.2)) c2) := ⟨_, get?_update_seq u1 fun _ => (arrOf st).map (·.2)⟩
      rw [g3]
      simp only [bne_self_eq_false, Bool.false_eq_true, if_false]
      refine wpAny_pure (h _ _ ((arrOf st).map (·.2)).toList c2 (byKey_of hk' g1 g2) (fun b o nb q => ?_) (by rw [Array.toArray_toList]; exact hc2))
      rw [Heap.get?_update_ne _ _ _ _ nb, Heap.get?_update_ne _ _ _ _ (old b o q)]
      exact k1 b o nb q
    by_cases h2 : vs.toArray.size < 2
    · rw [if_pos h2, if_pos h2]
      refine wpAny_bind (wpAny_pure ?_)
      rw [StateT.run_pure]
      refine wpAny_bind (wpAny_pure ?_)
      try dsimp only
      refine tail (SortSt.mk' general' (kA.zip vs.toArray) #[] 7 none) ?_ (List.Perm.refl _) rfl
      show SrtO.Srtd (SrtO.lt2 SrtO.ltIv) (kA.zip vs.toArray).toList
      have hl : (kA.zip vs.toArray).toList.length < 2 := by
        rw [Array.length_toList, hzs]
        rw [List.size_toArray] at h2
        exact h2
      generalize (kA.zip vs.toArray).toList = l at hl
      match l, hl with
      | [], _ => exact List.Pairwise.nil
      | [x], _ => exact List.pairwise_singleton _ _
      | _ :: _ :: r, hl => exact absurd hl (by rw [List.length_cons, List.length_cons]; omega)
    · rw [if_neg h2, if_neg h2]
      rw [List.size_toArray] at h2
      rw [ksk_kind hk' (by omega)]
      refine wpAny_bind (wpAny_pure ?_)
      refine wpAny_bind (wpAny_mono (SrtO.wpS_sortO (st0 := SortSt.mk' oneType' (kA.zip vs.toArray) #[] 7 none) (P := fun p => p.1 ∈ kA.toList)
        (Q := fun _ st' => SrtO.Srtd (SrtO.lt2 SrtO.ltIv) (arrOf st').toList ∧ (arrOf st').toList.Perm (kA.zip vs.toArray).toList ∧ failedOf st' = none)
        (SrtO.swo2 SrtO.swo_int) (SrtO.int_cmp hk') rfl (fun p hp => ?_) rfl rfl fun st' a1 a2 a3 => ⟨a1, a2.perm, a3⟩) ?_ fun _ _ e => e)
      · have hp' : p ∈ (kA.zip vs.toArray).toList := hp
        rw [zip_list] at hp'
        obtain ⟨x, y⟩ := p
        exact (List.of_mem_zip hp').1
      · rintro ⟨⟨⟩, st'⟩ s' ⟨rfl, g1, g2, g3⟩
        try dsimp only
        exact tail st' g1 g2 g3
end
end K41

/-! K41S3 -/
/-! sorted as rules of the layer: of lists and tuples of tuples, of dicts with tuple keys. -/
namespace K41
open PySem PySem.Spec PyProof.Rows L2

def keyI (k : List Int) : List L2.Key := k.map Sum.inl
theorem keyI_v (k : List Int) : (keyI k).map kV = k.map V.int := by
  unfold keyI
  rw [List.map_map]
  rfl
theorem keyI_inj {k k' : List Int} (h : keyI k = keyI k') : k = k' := by
  refine map_int_inj ?_
  rw [← keyI_v, ← keyI_v, h]
/-- the dict at d has the keys ks -/
def DK (H : Hp) (d : Addr) (ks : List (List Int)) : Prop := ∃ kvs, H d = some (.dT kvs) ∧ kvs.map (·.1) = ks.map keyI

/-- an int of a value -/
def nV : V → Int
  | .int i => i
  | _ => 0
/-- what the tuple holds -/
def cont (H : Hp) : Value → List Int
  | .ref b => match H b with
    | some (.tup ys) => ys.map nV
    | _ => []
  | _ => []
/-- values that are tuples of ints -/
abbrev KU (H : Hp) (ks : List (List Int)) (us : List Value) : Prop := Paired (fun k u => ∃ b, u = Value.ref b ∧ IT H b k) ks us
theorem cont_of {H : Hp} {k : List Int} {u : Value} (h : ∃ b, u = Value.ref b ∧ IT H b k) : cont H u = k := by
  obtain ⟨b, rfl, e⟩ := h
  show (match H b with | some (.tup ys) => ys.map nV | _ => []) = k
  rw [e]
  show (k.map V.int).map nV = k
  rw [List.map_map]
  exact (List.map_congr_left (fun _ _ => rfl)).trans (List.map_id k)
theorem ku_map {H : Hp} : ∀ {ks : List (List Int)} {us : List Value}, KU H ks us → ks = us.map (cont H)
  | _, _, .nil => rfl
  | _, _, .cons r t => by rw [List.map_cons, cont_of r, ← ku_map t]
theorem ku_mem {H : Hp} {ks : List (List Int)} {us : List Value} (h : KU H ks us) {u : Value} (hu : u ∈ us) : ∃ b, u = Value.ref b ∧ IT H b (cont H u) := by
  obtain ⟨k, _, r⟩ := pr_mem h hu
  rw [cont_of r]
  exact r
theorem ku_self {H : Hp} : ∀ {us : List Value}, (∀ u ∈ us, ∃ b, u = Value.ref b ∧ IT H b (cont H u)) → KU H (us.map (cont H)) us
  | [], _ => .nil
  | u :: us, h => .cons (h u List.mem_cons_self) (ku_self fun v hv => h v (List.mem_cons_of_mem _ hv))
theorem ku_rts {H : Hp} : ∀ {ks : List (List Int)} {us : List Value}, KU H ks us → RTs ks (us.map backV) H
  | _, _, .nil => .nil
  | _, _, .cons r t => by
    obtain ⟨b, rfl, e⟩ := r
    exact .cons ⟨b, rfl, e⟩ (ku_rts t)
theorem rts_ku {H : Hp} : ∀ {ks : List (List Int)} {vs : List V} {us : List Value}, RTs ks vs H → Vals vs us → KU H ks us
  | _, _, _, .nil, .nil => .nil
  | _, _, _, .cons r t, .cons r' t' => by
    obtain ⟨b, rfl, e⟩ := r
    cases r'
    exact .cons ⟨b, rfl, e⟩ (rts_ku t t')
section
variable {X : Cx} {pins : List (Addr × Obj)} {σ : L2.St} {H : Hp} {s : Shared}
theorem tupI_of (I : Inv X pins σ H s) {k : List Int} {u : Value} (h : ∃ b, u = Value.ref b ∧ IT H b k) : TupI s.heap u k := by
  obtain ⟨b, rfl, e⟩ := h
  obtain ⟨_, its, r, t⟩ := I.hok b _ e
  exact ⟨b, its.toArray, rfl, t, r.ints⟩
/-- the order asked for, the way sorted is called -/
structure SortW (X : Cx) (kw : List (Str × Value)) (T : List Int → List Int → Prop) (G : List (List Int) → Prop) : Prop where
  a1 : ∀ r, argsOk "sorted" ⟨[.ref r], kw⟩
  a2 : ∀ a, argsOk "list.sort" ⟨[a], kw⟩
  srt : ∀ {pins σ H s1 ks vs}, Inv X pins σ H s1 → KU H ks vs → vs.length ≤ 1000000 → G ks → ∀ R : PySem.Fin → Shared → Prop,
    (∀ (h' : Heap) (tk : Nat) (out : List Value), out.Perm vs → (out.map (cont H)).Pairwise T → (∀ b o, s1.heap.get? b = some o → h'.get? b = some o) → (∃ c, h'.get? s1.heap.objs.size = some (seqObj "list" out.toArray c)) → R (.done (.ret .none)) { s1 with heap := h', toks := tk }) →
    wpAny (model X.prog X.w) X.A.in1.in1 (Builtin.«list.sort» ⟨[.ref s1.heap.objs.size], kw⟩) R X.xe { s1 with heap := s1.heap.push (seqObj "list" vs.toArray 0) }
theorem sortRun {kw : List (Str × Value)} {T : List Int → List Int → Prop} {G : List (List Int) → Prop} {a : Addr} {ks : List (List Int)} {Q : VK} (W : SortW X kw T G) (hz : ks.length ≤ 1000000) (hG : G ks)
    (hcol : ∀ R : List Value → Shared → Prop, (∀ s1 vs, Inv X pins σ H s1 ∧ KU H ks vs → R vs s1) → wpAny (model X.prog X.w) X.A.in1 (collect (.ref a)) R X.xe s)
    (q : ∀ (ks' : List (List Int)) (ys : List V) (p : Addr), ks'.Perm ks → ks'.Pairwise T → RTs ks' ys H → H p = none → Q (.ref p) (upd H p (.lst ys))) :
    wpAny (model X.prog X.w) X.A (call (.builtin "sorted") [.ref a] kw) (EP X pins σ Q) X.xe s := by
  refine sorted_src (P := fun s1 vs => Inv X pins σ H s1 ∧ KU H ks vs) (W := fun s1 s2 vs out => ∃ h' tk, s2 = { s1 with heap := h', toks := tk } ∧ out.Perm vs ∧ (out.map (cont H)).Pairwise T ∧ (∀ b o, s1.heap.get? b = some o → h'.get? b = some o) ∧ (∃ c, h'.get? s1.heap.objs.size = some (seqObj "list" out.toArray c)))
    (W.a1 a) W.a2 hcol (fun s1 vs p => ?_) (fun s1 vs p R hR => ?_) fun s1 vs s2 out p wq => ?_
  · rw [← Paired.length p.2]
    exact Nat.le_trans hz (by decide)
  · refine W.srt p.1 p.2 (by rw [← Paired.length p.2]; exact hz) hG R fun h' tk out h1 h2 h3 h4 => hR _ out ⟨h', tk, rfl, h1, h2, h3, h4⟩
  · obtain ⟨h', tk, rfl, h1, h2, h3, c, h4⟩ := wq
    obtain ⟨I1, ku⟩ := p
    have ho : ∀ u ∈ out, ∃ b, u = Value.ref b ∧ IT H b (cont H u) := fun u hu => ku_mem ku (h1.mem_iff.mp hu)
    have hl : (out.map backV).length ≤ sizeLine := by
      rw [List.length_map, h1.length_eq, ← Paired.length ku]
      exact Nat.le_trans hz (by decide)
    refine ⟨.ref s1.heap.objs.size, upd H s1.heap.objs.size (.lst (out.map backV)), I1.laid (t' := tk) h3 (Nat.le_refl _) ⟨hl, out, c, vals_back fun u hu => ?_, h4⟩, rfl, ?_⟩
    · obtain ⟨b, e, _⟩ := ho u hu
      exact ⟨b, e⟩
    · refine q _ _ _ ?_ h2 (ku_rts (ku_self ho)) (I1.hok.fresh (Nat.le_refl _))
      rw [ku_map ku]
      exact h1.map _
/-- by the tuples themselves -/
theorem sw_plain (hu : X.A.units + 8 < cLine) : SortW X [] (fun x y => HT.lexLt y x = false) fun _ => True where
  a1 := fun r => args_sorted1 _
  a2 := fun a => by first | exact args_list_sort a | (cases a <;> rfl)
  srt := by
    intro pins σ H s1 ks vs I ku hz _ R h
    have hoL : (s1.heap.push (seqObj "list" vs.toArray 0)).get? s1.heap.objs.size = some (seqObj "list" vs.toArray 0) := Heap.get?_push_size _ rfl
    have kp : ∀ b o, s1.heap.get? b = some o → (s1.heap.push (seqObj "list" vs.toArray 0)).get? b = some o := fun b o e => Heap.get?_push_of_some _ e
    refine SrtO.list_sort_ord (s := { s1 with heap := s1.heap.push (seqObj "list" vs.toArray 0) }) (lex_swo (cont H)) hoL (Nat.le_trans hz (by decide)) (fun h2 => ?_) fun out h1 h2 => ?_
    · refine tups_sortable (s := { s1 with heap := s1.heap.push (seqObj "list" vs.toArray 0) }) (by show X.A.units + 1 + 1 < cLine; omega) h2 (fun v hv => (tupI_of I (ku_mem ku hv)).keep fun b o e _ => kp b o e) fun o e => ?_
      have e' : some o = some (seqObj "list" vs.toArray 0) := e.symm.trans hoL
      cases e'
      exact fun z => absurd (Value.type.inj z) (by decide)
    · refine h _ _ out h2.perm ?_ (fun b o e => ?_) (sortedHeap_at hoL)
      · rw [List.pairwise_map]
        exact h1
      · rw [sortedHeap_old (Nat.ne_of_lt (Heap.lt_size e)) (Heap.lt_size (kp b o e))]
        exact kp b o e
theorem byKey_out {H : Hp} {g : List Int → Int} {vs out : List Value} (h : ByKey (vs.map fun v => g (cont H v)) vs out) : out.Perm vs ∧ (out.map (cont H)).Pairwise fun x y => g x ≤ g y := by
  obtain ⟨ps, h1, rfl, h2⟩ := h
  have e : (vs.map fun v => g (cont H v)).zip vs = vs.map fun v => (g (cont H v), v) := by
    clear h1
    induction vs with
    | nil => rfl
    | cons v vs ih => rw [List.map_cons, List.zip_cons_cons, ih, List.map_cons]
  rw [e] at h1
  refine ⟨?_, ?_⟩
  · have q := h1.map Prod.snd
    rw [List.map_map] at q
    exact q.trans (by rw [show (Prod.snd ∘ fun v => (g (cont H v), v)) = id from rfl, List.map_id])
  · rw [List.pairwise_map, List.pairwise_map]
    refine h2.imp_of_mem fun {p q} hp hq r => ?_
    obtain ⟨v, _, rfl⟩ := List.mem_map.mp (h1.mem_iff.mp hp)
    obtain ⟨u, _, rfl⟩ := List.mem_map.mp (h1.mem_iff.mp hq)
    exact r
/-- by a built-in that leaves what stood -/
theorem sw_key {id : String} {g : List Int → Int} (turn : ∀ (h : Heap) (s0 : Shared) (tk : Nat) (v : Value) (k : List Int), TupI h v k → k.length ≤ sizeLine →
      wpAny (model X.prog X.w) X.A.in1.in1 (call (.builtin id) [v]) (fun r s' => ∃ h' tk' t, r = .int (g k) t ∧ s' = { s0 with heap := h', toks := tk' } ∧ ∀ b o, h.get? b = some o → h'.get? b = some o) (fun _ _ => False) { s0 with heap := h, toks := tk }) :
    SortW X [(Str.ofString "key", .builtin id)] (fun x y => g x ≤ g y) fun _ => True where
  a1 := fun r => ksk_s1 _ _
  a2 := fun a => ksk_l1 _ _
  srt := by
    intro pins σ H s1 ks vs I ku hz _ R h
    have hoL : (s1.heap.push (seqObj "list" vs.toArray 0)).get? s1.heap.objs.size = some (seqObj "list" vs.toArray 0) := Heap.get?_push_size _ rfl
    have kp : ∀ b o, s1.heap.get? b = some o → (s1.heap.push (seqObj "list" vs.toArray 0)).get? b = some o := fun b o e => Heap.get?_push_of_some _ e
    refine sort_key (s := { s1 with heap := s1.heap.push (seqObj "list" vs.toArray 0) }) (kz := vs.map fun v => g (cont H v)) hoL (List.length_map ..) hz (fun i v k hv hk h0 tk kk => ?_) fun h' tk out c b1 b2 b3 => ?_
    · rw [List.getElem?_map, hv] at hk
      cases hk
      have m := ku_mem ku (List.mem_of_getElem? hv)
      refine turn h0 _ tk v (cont H v) ((tupI_of I m).keep fun b o e _ => kk b o (Nat.ne_of_lt (Heap.lt_size e)) (kp b o e)) ?_
      obtain ⟨b, _, e⟩ := m
      obtain ⟨z, _⟩ := I.hok b _ e
      rw [List.length_map] at z
      exact z
    · obtain ⟨c1, c2⟩ := byKey_out b1
      exact h h' tk out c1 c2 (fun b o e => b2 b o (Nat.ne_of_lt (Heap.lt_size e)) (kp b o e)) ⟨c, b3⟩
theorem sw_len : SortW X [(Str.ofString "key", .builtin "len")] (fun x y => (x.length : Int) ≤ y.length) fun _ => True :=
  sw_key (g := fun k => (k.length : Int)) fun h s0 tk v k ⟨a, its, e, t, i⟩ hz => by
    subst e
    have hn := line63
    have hl : its.size = k.length := len_ints i
    refine len_tuple (s := { s0 with heap := h, toks := tk }) t (by omega) ⟨h, tk + 2, tk + 1, by show Value.int _ _ = Value.int _ _; rw [hl], rfl, fun _ _ q => q⟩
theorem sw_sum (hh : X.A.handled = none) : SortW X [(Str.ofString "key", .builtin "sum")] (fun x y => x.sum ≤ y.sum) fun _ => True :=
  sw_key (g := fun k => k.sum) fun h s0 tk v k ⟨a, its, e, t, i⟩ hz => by
    subst e
    refine sum_tup (s := { s0 with heap := h, toks := tk }) (its := its.toList) hh (by rw [Array.toArray_toList]; exact t) i fun h' tk' t' kk => ⟨h', tk', t', rfl, rfl, kk⟩
/-! ### what is gathered -/
theorem col_list (I : Inv X pins σ H s) {a : Addr} {ks : List (List Int)} (h : LL H a ks) {A : Around} {E : Value → Shared → Prop} (hz : ks.length ≤ 1000000) (R : List Value → Shared → Prop) (q : ∀ s1 vs, Inv X pins σ H s1 ∧ KU H ks vs → R vs s1) : wpAny (model X.prog X.w) A (collect (.ref a)) R E s := by
  obtain ⟨vs, e, r⟩ := h
  obtain ⟨hzz, its, n, rv, hob⟩ := I.hok a _ e
  have hl : its.length ≤ sizeLine := by rw [← rv.length]; exact hzz
  refine collect_list (vs := its) ⟨_, hob, rfl, n, rfl⟩ (q _ its ⟨?_, rts_ku r rv⟩) hl
  refine I.kept (t' := s.toks) fun b u w => ?_
  have hlt := Heap.lt_size w
  rw [Heap.get?_update_ne _ _ _ _ (Nat.ne_of_lt hlt)]
  exact Heap.get?_push_of_some _ w
theorem col_dict (I : Inv X pins σ H s) {a : Addr} {ks : List (List Int)} (h : DK H a ks) {A : Around} {E : Value → Shared → Prop} (hh : A.handled = none) (hz : ks.length ≤ 1000000) (R : List Value → Shared → Prop) (q : ∀ s1 vs, Inv X pins σ H s1 ∧ KU H ks vs → R vs s1) : wpAny (model X.prog X.w) A (collect (.ref a)) R E s := by
  obtain ⟨kvs, e, ek⟩ := h
  obtain ⟨z, hs, xs, pr, o, es, ep, ho, hx, hdt, he, hn⟩ := I.hok a _ e
  have l1 : es.size = xs.length := size_of_entries he
  have l2 : kvs.length = xs.length := Paired.length pr
  have l3 : kvs.length = ks.length := by
    have := congrArg List.length ek
    rw [List.length_map, List.length_map] at this
    exact this
  refine PySem.W.kdu_collect (kdl_raw hs hx hdt) hh ho (by omega) fun h' tk acc kp it => q _ _ ⟨I.kept kp, ?_⟩
  have pk : Paired (fun k (x : List L2.Key × Addr × Value) => IT H x.2.1 k) ks xs := by
    clear it he hn l1 l2 l3 hz e
    have gen : ∀ (kvs : List (List L2.Key × V)) (xs : List (List L2.Key × Addr × Value)) (ks : List (List Int)), KT H kvs xs → kvs.map (·.1) = ks.map keyI → Paired (fun k (x : List L2.Key × Addr × Value) => IT H x.2.1 k) ks xs := by
      intro kvs xs
      induction kvs generalizing xs with
      | nil =>
        intro ks r e
        cases r
        cases ks with
        | nil => exact .nil
        | cons k ks => simp at e
      | cons p kvs ih =>
        intro ks r e
        cases r with
        | cons r t =>
          cases ks with
          | nil => simp at e
          | cons k ks =>
            rw [List.map_cons, List.map_cons, List.cons.injEq] at e
            refine .cons ?_ (ih _ ks t e.2)
            have r2 := r.2.1
            rw [e.1, keyI_v] at r2
            exact r2
    exact gen kvs xs ks pr ek
  have ea : acc.toList = xs.map fun x => Value.ref x.2.1 := by
    refine List.ext_getElem? fun j => ?_
    have hl : acc.toList.length = xs.length := by rw [Array.length_toList, it.1]; exact l1
    rw [List.getElem?_map]
    cases hj : acc.toList[j]? with
    | none =>
      have h1 := List.getElem?_eq_none_iff.mp hj
      rw [List.getElem?_eq_none (by omega)]
      rfl
    | some v =>
      obtain ⟨en, hen, hv⟩ := it.2 j v (by rw [← Array.getElem?_toList]; exact hj)
      have qe := entry_at he j
      rw [hen] at qe
      cases hb : xs[j]? with
      | none => rw [hb] at qe; cases qe
      | some b =>
        rw [hb] at qe
        have e2 : en = entryOfKey (tupleKind (mixKind X.prog X.w)) b := Option.some.inj qe
        rw [hv, e2]
        rfl
  rw [ea]
  exact pr_mapR (pr_imp pk fun k x _ r => ⟨x.2.1, rfl, r⟩)
/-- sorted(xs) -/
def rSrt (S : Hp → Addr → List (List Int) → Prop) (T : List Int → List Int → Prop) : List V → Hp → VK → Prop := fun vs H Q => ∃ (a : Addr) (ks : List (List Int)), vs = [V.ref a] ∧ S H a ks ∧ ks.length ≤ 1000000 ∧
  ∀ (ks' : List (List Int)) (ys : List V) (p : Addr), ks'.Perm ks → ks'.Pairwise T → RTs ks' ys H → H p = none → Q (.ref p) (upd H p (.lst ys))
abbrev lexT (x y : List Int) : Prop := HT.lexLt y x = false
theorem crSortL (hu : X.A.units + 8 < cLine) : CallR X (.builtin "sorted") (rSrt LL lexT) := by
  intro pins s σ H vs us Q I r h
  obtain ⟨a, ks, rfl, hl, hz, q⟩ := h
  obtain rfl := Vals.ref1 r
  exact sortRun (sw_plain hu) hz trivial (fun R hR => col_list I hl hz R hR) q
theorem crSortD (hu : X.A.units + 8 < cLine) (hc : X.calm = true) : CallR X (.builtin "sorted") (rSrt DK lexT) := by
  intro pins s σ H vs us Q I r h
  obtain ⟨a, ks, rfl, hl, hz, q⟩ := h
  obtain rfl := Vals.ref1 r
  exact sortRun (sw_plain hu) hz trivial (fun R hR => col_dict (A := X.A.in1) I hl (I.ok.hd hc) hz R hR) q
variable {e : Expr} {kn : Str} {t : TA} {p p2 kpos pos : Pos}
/-- sorted(xs, key=f), f a built-in by its name -/
theorem pe_sortKey {id : String} {S : Hp → Addr → List (List Int) → Prop} {T : List Int → List Int → Prop} (W : SortW X [(Str.ofString "key", .builtin id)] T fun _ => True)
    (hcol : ∀ {pins σ H s a ks}, Inv X pins σ H s → S H a ks → ks.length ≤ 1000000 → ∀ R : List Value → Shared → Prop, (∀ s1 vs, Inv X pins σ H s1 ∧ KU H ks vs → R vs s1) → wpAny (model X.prog X.w) X.A.in1 (collect (.ref a)) R X.xe s)
    (ha : PA X [e] t) (hg : Gl X "sorted") (hm : X.mg "sorted" = none) (gk : Gl X kn) (mk : X.mg kn = none) (bk : bootBuiltins kn = some (.builtin id)) (nn : kn ≠ "__name__" := by decide) (nd : (kn == ("__debug__" : Str)) = false := by decide)
    (he : backTo pos (starEach [e] X.env) = (false, eval e X.env) :: backTo pos (starEach [] X.env) := by rfl) (hpl : (backTo pos (starEach [e] X.env)).any (·.1) = false := by rfl) :
    PE X (.Call (.Name "sorted" p) [e] [⟨some "key", .Name kn p2, kpos⟩] pos) (fun σ H Q => t σ H fun vs H1 => rSrt S T vs H1 Q) := by
  refine ⟨fun pins s σ H Q I h => ?_⟩
  refine wpAny_Call_Name_kw (ld_blt I hg hm (by rfl : bootBuiltins "sorted" = some (.builtin "sorted")) ?_ (by decide) (by decide))
  refine PyProof.Rows.callWith_kw (thn (ha.run pos pins s σ H _ I h) fun us s1 ⟨vs, H1, I1, r1, q1⟩ => ?_) he hpl (by rfl) (by rfl)
  show wpAny _ _ (evalAll [(do let v ← eval (.Name kn p2) X.env; standAt pos; pure v)]) _ _ s1
  refine wpAny_evalAll_cons (wpAny_bind (ld_blt I1 gk mk bk (wpAny_bind (wpAny_standAt (wpAny_pure (wpAny_evalAll_nil ?_)))) nn nd))
  obtain ⟨a, ks, rfl, hl, hz, q⟩ := q1
  obtain rfl := Vals.ref1 r1
  exact sortRun W hz trivial (fun R hR => hcol I1 hl hz R hR) q
end
end K41

/-! K41C -/
/-! The small defs. -/
namespace K41
open PySem PySem.Spec PyProof.Rows L2
section
variable {P : Program} {w : World} {K : PySem.W.Frag} {mg : Str → Option Value} {base : Heap}

/-! ### is_whole, is_within, require_within, require_letters -/
def spWhole : Sp := fun vs H Q _ => ∃ n : Int, vs = [.int n] ∧ Q (.bl true) H
theorem sc_whole : FnScope ["value"] ["value"] (defScope (top 11)) := ⟨rfl, rfl, rfl, by decide +kernel, rfl, by decide +kernel, by decide +kernel⟩
theorem ok_whole (T : Tx K mg) : Ok P w K mg base "is_whole" 1 ["value"] spWhole := by
  refine mkOk T.d_is_whole sc_whole (fun _ _ _ _ _ _ us hl => match us, hl with | [_], _ => rfl) (fun vs H Q E h => by obtain ⟨n, rfl, _⟩ := h; rfl) (fun cdv A outer s H vs Q E f hr h => ?_)
  obtain ⟨n, rfl, q⟩ := h
  refine ⟨_, pss_one (ps_ret (pe_and (pe_callB call_isi (by rfl) T.f_isinstance (by decide +kernel) (pa_cons (pv 0) (pa_cons (pe_bltn (v := .ty "int") (by rfl) T.f_int (by decide +kernel) rfl) pa_nil)))
    (pe_one (pe_not (pe_callB call_isi (by rfl) T.f_isinstance (by decide +kernel) (pa_cons (pv 0) (pa_cons (pe_bltn (v := .ty "bool") (by rfl) T.f_bool (by decide +kernel) rfl) pa_nil))))))), ?_⟩
  refine ⟨.int n, rfl, .int n, .ty "int", .type "int", .type "int", true, rfl, .ty _, .base (.int _), kit_ty (by decide +kernel), true, rfl, iteT ?_⟩
  exact ⟨.int n, rfl, .int n, .ty "bool", .type "int", .type "bool", false, rfl, .ty _, .base (.int _), kit_ty (by decide +kernel), false, rfl, q⟩
def spWithin : Sp := fun vs H Q _ => ∃ v l g : Int, vs = [.int v, .int l, .int g] ∧ Q (.bl (decide (l ≤ v ∧ v ≤ g))) H
theorem sc_within : FnScope ["value", "least", "greatest"] ["value", "least", "greatest"] (defScope (top 12)) := ⟨rfl, rfl, rfl, by decide +kernel, rfl, by decide +kernel, by decide +kernel⟩
theorem ok_within (T : Tx K mg) : Ok P w K mg base "is_within" 2 ["value", "least", "greatest"] spWithin := by
  refine mkOk T.d_is_within sc_within (fun _ _ _ _ _ _ us hl => match us, hl with | [_, _, _], _ => rfl) (fun vs H Q E h => by obtain ⟨v, l, g, rfl, _⟩ := h; rfl) (fun cdv A outer s H vs Q E f hr h => ?_)
  obtain ⟨v, l, g, rfl, q⟩ := h
  refine ⟨_, pss_one (ps_ret (pe_and (pcall (ok_whole T) hr (pa_cons (pv 0) pa_nil)) (pe_one (pe_chain op_le op_le (pv 1) (pv 0) (pv 2))))), ?_⟩
  refine ⟨_, rfl, v, rfl, true, rfl, iteT ?_⟩
  refine ⟨_, rfl, _, rfl, l, v, rfl, rfl, _, rfl, ?_⟩
  by_cases h1 : l ≤ v
  · rw [decide_eq_true h1]
    refine iteT ⟨_, rfl, v, g, rfl, rfl, ?_⟩
    simp only [h1, true_and] at q
    exact q
  · rw [decide_eq_false h1]
    refine iteF ?_
    simp only [h1, false_and, decide_false] at q
    exact q
/-- the number is within: nothing is raised -/
def spReq : Sp := fun vs H Q _ => ∃ v l g : Int, vs = [.int v, .int l, .int g] ∧ (l ≤ v ∧ v ≤ g) ∧ Q .non H
theorem sc_req : FnScope ["value", "least", "greatest"] ["value", "least", "greatest"] (defScope (top 13)) := ⟨rfl, rfl, rfl, by decide +kernel, rfl, by decide +kernel, by decide +kernel⟩
theorem ok_req (T : Tx K mg) : Ok P w K mg base "require_within" 3 ["value", "least", "greatest"] spReq := by
  refine mkOk T.d_require_within sc_req (fun _ _ _ _ _ _ us hl => match us, hl with | [_, _, _], _ => rfl) (fun vs H Q E h => by obtain ⟨v, l, g, rfl, _⟩ := h; rfl) (fun cdv A outer s H vs Q E f hr h => ?_)
  obtain ⟨v, l, g, rfl, hin, q⟩ := h
  refine ⟨_, pss_one (ps_if (pt_not (pt_val (pcall (ok_within T) hr (pa_cons (pv 0) (pa_cons (pv 1) (pa_cons (pv 2) pa_nil)))))) (pss_one ps_never) pss_nil), ?_⟩
  refine ⟨_, rfl, _, rfl, _, rfl, v, l, g, rfl, _, rfl, ?_⟩
  rw [decide_eq_true hin]
  exact iteF q
def spReqLetters : Sp := fun vs H Q _ => ∃ n : Int, vs = [.int n] ∧ (1 ≤ n ∧ n ≤ 8) ∧ Q .non H
theorem sc_reqLetters : FnScope ["letters"] ["letters"] (defScope (top 23)) := ⟨rfl, rfl, rfl, by decide +kernel, rfl, by decide +kernel, by decide +kernel⟩
theorem ok_reqLetters (T : Tx K mg) : Ok P w K mg base "require_letters" 4 ["letters"] spReqLetters := by
  refine mkOk T.d_require_letters sc_reqLetters (fun _ _ _ _ _ _ us hl => match us, hl with | [_], _ => rfl) (fun vs H Q E h => by obtain ⟨n, rfl, _⟩ := h; rfl) (fun cdv A outer s H vs Q E f hr h => ?_)
  obtain ⟨n, rfl, hin, q⟩ := h
  obtain ⟨t, hc⟩ := T.c_MAX_LETTERS
  refine ⟨_, pss_one (ps_expr (pcall (ok_req T) hr (pa_cons (pv 0) (pa_cons pe_int (pa_cons (pe_glob (v := .int 8) (by rfl) hc ⟨_, rfl⟩) pa_nil))))), ?_⟩
  exact ⟨_, rfl, n, 1, 8, rfl, hin, q⟩
end
end K41

/-! K41M -/
/-! The mathematics: sets as ascending lists, products as rows of exponents. -/
namespace K41

/-! ### lists -/
theorem nd_le {α : Type} [DecidableEq α] : ∀ {l m : List α}, l.Nodup → (∀ x ∈ l, x ∈ m) → l.length ≤ m.length
  | [], _, _, _ => Nat.zero_le _
  | a :: l, m, hn, hs => by
    have ha : a ∈ m := hs a List.mem_cons_self
    have hn' := List.nodup_cons.mp hn
    have h : l.length ≤ (m.erase a).length := nd_le hn'.2 fun x hx => by
      have hxa : x ≠ a := fun e => hn'.1 (e ▸ hx)
      exact (List.mem_erase_of_ne hxa).mpr (hs x (List.mem_cons_of_mem _ hx))
    rw [List.length_erase_of_mem ha] at h
    have := List.length_pos_of_mem ha
    rw [List.length_cons]
    omega
theorem sorted_uniq {α : Type} {le : α → α → Prop} (anti : ∀ x y, le x y → le y x → x = y) : ∀ {l m : List α}, l.Pairwise le → m.Pairwise le → l.Nodup → m.Nodup → (∀ x, x ∈ l ↔ x ∈ m) → l = m
  | [], [], _, _, _, _, _ => rfl
  | [], b :: m, _, _, _, _, h => by
    have := (h b).mpr List.mem_cons_self
    cases this
  | a :: l, [], _, _, _, _, h => by
    have := (h a).mp List.mem_cons_self
    cases this
  | a :: l, b :: m, hl, hm, nl, nm, h => by
    have hl' := List.pairwise_cons.mp hl
    have hm' := List.pairwise_cons.mp hm
    have nl' := List.nodup_cons.mp nl
    have nm' := List.nodup_cons.mp nm
    have e : a = b := by
      have h1 := (h a).mp List.mem_cons_self
      have h2 := (h b).mpr List.mem_cons_self
      rcases List.mem_cons.mp h1 with z | z
      · exact z
      · rcases List.mem_cons.mp h2 with y | y
        · exact y.symm
        · exact anti _ _ (hl'.1 b y) (hm'.1 a z)
    subst e
    rw [sorted_uniq anti hl'.2 hm'.2 nl'.2 nm'.2 fun x => ⟨fun hx => ?_, fun hx => ?_⟩]
    · rcases List.mem_cons.mp ((h x).mp (List.mem_cons_of_mem _ hx)) with z | z
      · subst z
        exact absurd hx nl'.1
      · exact z
    · rcases List.mem_cons.mp ((h x).mpr (List.mem_cons_of_mem _ hx)) with z | z
      · subst z
        exact absurd hx nm'.1
      · exact z

/-! ### sets: ascending lists -/
abbrev Asc (s : List Int) : Prop := s.Pairwise (· < ·)
theorem asc_nodup {s : List Int} (h : Asc s) : s.Nodup := List.Pairwise.imp (fun {a b} h e => by omega) h
theorem sub_of_asc : ∀ {s t : List Int}, Asc s → Asc t → (∀ x ∈ s, x ∈ t) → s.Sublist t
  | [], t, _, _, _ => List.nil_sublist t
  | a :: s, [], _, _, h => by
    have := h a List.mem_cons_self
    cases this
  | a :: s, b :: t, hs, ht, h => by
    have hs' := List.pairwise_cons.mp hs
    have ht' := List.pairwise_cons.mp ht
    by_cases e : a = b
    · subst e
      refine List.Sublist.cons_cons a (sub_of_asc hs'.2 ht'.2 fun x hx => ?_)
      rcases List.mem_cons.mp (h x (List.mem_cons_of_mem _ hx)) with z | z
      · have := hs'.1 x hx
        omega
      · exact z
    · have ha : a ∈ t := by
        rcases List.mem_cons.mp (h a List.mem_cons_self) with z | z
        · exact absurd z e
        · exact z
      refine List.Sublist.cons b (sub_of_asc hs ht'.2 fun x hx => ?_)
      rcases List.mem_cons.mp (h x hx) with z | z
      · have h1 := ht'.1 a ha
        rcases List.mem_cons.mp hx with y | y
        · omega
        · have := hs'.1 x y
          omega
      · exact z
/-- all sets on n corners, as both programs list them -/
def subs : Nat → List (List Int)
  | 0 => [[]]
  | n + 1 => subs n ++ (subs n).map fun s => s ++ [(n : Int)]
abbrev On (n : Nat) (s : List Int) : Prop := Asc s ∧ ∀ x ∈ s, 0 ≤ x ∧ x < (n : Int)
theorem on_snoc {n : Nat} {s : List Int} (h : On n s) : On (n + 1) (s ++ [(n : Int)]) := by
  refine ⟨List.pairwise_append.mpr ⟨h.1, List.pairwise_singleton _ _, fun a ha b hb => ?_⟩, fun x hx => ?_⟩
  · have e : b = n := List.mem_singleton.mp hb
    have := h.2 a ha
    omega
  · rcases List.mem_append.mp hx with z | z
    · have := h.2 x z
      omega
    · have e : x = n := List.mem_singleton.mp z
      omega
theorem mem_subs : ∀ {n : Nat} {s : List Int}, s ∈ subs n ↔ On n s
  | 0, s => by
    constructor
    · intro h
      have e : s = [] := by simpa [subs] using h
      subst e
      exact ⟨List.Pairwise.nil, fun x hx => nomatch hx⟩
    · intro h
      cases s with
      | nil => simp [subs]
      | cons a s =>
        have := h.2 a List.mem_cons_self
        omega
  | n + 1, s => by
    constructor
    · intro h
      rcases List.mem_append.mp (show s ∈ subs n ++ (subs n).map fun s => s ++ [(n : Int)] from h) with z | z
      · have q := mem_subs.mp z
        exact ⟨q.1, fun x hx => by have := q.2 x hx; omega⟩
      · obtain ⟨t, ht, rfl⟩ := List.mem_map.mp z
        exact on_snoc (mem_subs.mp ht)
    · intro h
      show s ∈ subs n ++ (subs n).map fun s => s ++ [(n : Int)]
      by_cases hn : (n : Int) ∈ s
      · refine List.mem_append_right _ (List.mem_map.mpr ⟨s.dropLast, mem_subs.mpr ⟨h.1.sublist (List.dropLast_sublist s), fun x hx => ?_⟩, ?_⟩)
        all_goals
          have hne : s ≠ [] := fun e => by rw [e] at hn; cases hn
          have hl : s.dropLast ++ [s.getLast hne] = s := List.dropLast_concat_getLast hne
          have hp : Asc (s.dropLast ++ [s.getLast hne]) := by rw [hl]; exact h.1
          have hp' := (List.pairwise_append.mp hp).2.2
          have hlast : s.getLast hne = n := by
            rw [← hl] at hn
            rcases List.mem_append.mp hn with z | z
            · have h1 := hp' _ z _ (List.mem_singleton.mpr rfl)
              have h2 := h.2 _ (List.getLast_mem hne)
              omega
            · exact (List.mem_singleton.mp z).symm
        · have h1 := hp' x hx _ (List.mem_singleton.mpr rfl)
          have h2 := h.2 x (List.dropLast_subset s hx)
          omega
        · show s.dropLast ++ [(n : Int)] = s
          rw [← hlast]
          exact hl
      · refine List.mem_append_left _ (mem_subs.mpr ⟨h.1, fun x hx => ?_⟩)
        have h1 := h.2 x hx
        have h2 : x ≠ n := fun e => hn (e ▸ hx)
        omega
theorem subs_nodup : ∀ n : Nat, (subs n).Nodup
  | 0 => by simp [subs]
  | n + 1 => by
    show (subs n ++ (subs n).map fun s => s ++ [(n : Int)]).Nodup
    refine List.nodup_append.mpr ⟨subs_nodup n, ?_, fun a ha b hb e => ?_⟩
    · exact List.Pairwise.map _ (fun a b h e => h (List.append_cancel_right e)) (subs_nodup n)
    · obtain ⟨t, ht, rfl⟩ := List.mem_map.mp hb
      have := (mem_subs.mp ha).2 n (by rw [e]; simp)
      omega
theorem subs_len : ∀ n : Nat, (subs n).length = 2 ^ n
  | 0 => rfl
  | n + 1 => by
    show (subs n ++ (subs n).map fun s => s ++ [(n : Int)]).length = _
    rw [List.length_append, List.length_map, subs_len n, Nat.pow_succ]
    omega
theorem subs_few {n : Nat} (h : n ≤ 6) : (subs n).length ≤ 64 := by
  rw [subs_len]
  exact Nat.le_trans (Nat.pow_le_pow_right (by decide) h) (by decide)

/-! ### a set without one corner -/
def wo (k : List Int) : List (List Int) := (List.range k.length).map fun i => k.take i ++ k.drop (i + 1)
theorem mem_wo {k x : List Int} : x ∈ wo k ↔ ∃ i, i < k.length ∧ x = k.take i ++ k.drop (i + 1) := by
  unfold wo
  simp only [List.mem_map, List.mem_range]
  constructor
  · rintro ⟨i, h, e⟩
    exact ⟨i, h, e.symm⟩
  · rintro ⟨i, h, e⟩
    exact ⟨i, h, e.symm⟩
theorem wo_sub {k x : List Int} (h : x ∈ wo k) : x.Sublist k := by
  obtain ⟨i, hi, rfl⟩ := mem_wo.mp h
  have e : k = k.take i ++ k.drop i := (List.take_append_drop i k).symm
  have h2 : (k.drop (i + 1)).Sublist (k.drop i) := by
    rw [show k.drop (i + 1) = (k.drop i).drop 1 by rw [List.drop_drop]]
    exact List.drop_sublist 1 _
  have := List.Sublist.append (List.Sublist.refl (k.take i)) h2
  rw [List.take_append_drop] at this
  exact this
theorem wo_len {k x : List Int} (h : x ∈ wo k) : x.length + 1 = k.length := by
  obtain ⟨i, hi, rfl⟩ := mem_wo.mp h
  rw [List.length_append, List.length_take, List.length_drop]
  omega
theorem wo_cons {a : Int} {k : List Int} : wo (a :: k) = k :: (wo k).map (a :: ·) := by
  unfold wo
  rw [List.length_cons, List.range_succ_eq_map, List.map_cons, List.map_map, List.map_map]
  rfl
/-- a smaller part lies within one without a corner -/
theorem sub_wo : ∀ {x k : List Int}, x.Sublist k → x.length < k.length → ∃ y ∈ wo k, x.Sublist y
  | x, [], _, hl => by simp at hl
  | x, a :: k, h, hl => by
    rw [wo_cons]
    cases h with
    | cons _ h => exact ⟨k, List.mem_cons_self, h⟩
    | cons_cons _ h =>
      rename_i x'
      obtain ⟨y, hy, hs⟩ := sub_wo h (by simpa using hl)
      exact ⟨a :: y, List.mem_cons_of_mem _ (List.mem_map.mpr ⟨y, hy, rfl⟩), hs.cons_cons a⟩
/-- what is closed under leaving a corner out has all parts -/
theorem closed_all {P : List Int → Prop} (hc : ∀ x, P x → ∀ y ∈ wo x, P y) : ∀ (n : Nat) {x k : List Int}, k.length ≤ x.length + n → P k → x.Sublist k → P x
  | 0, x, k, hl, hk, hs => by
    rw [hs.eq_of_length (Nat.le_antisymm hs.length_le (by omega))]
    exact hk
  | n + 1, x, k, hl, hk, hs => by
    by_cases e : x.length = k.length
    · rw [hs.eq_of_length e]
      exact hk
    · have h1 := hs.length_le
      obtain ⟨y, hy, h2⟩ := sub_wo hs (by omega)
      have := wo_len hy
      exact closed_all hc n (by omega) (hc k hk y hy) h2
theorem closed_sub {P : List Int → Prop} (hc : ∀ x, P x → ∀ y ∈ wo x, P y) {x k : List Int} (hk : P k) (hs : x.Sublist k) : P x := closed_all hc k.length (by omega) hk hs
theorem on_sub {n : Nat} {x k : List Int} (h : On n k) (hs : x.Sublist k) : On n x := ⟨h.1.sublist hs, fun y hy => h.2 y (hs.subset hy)⟩
theorem on_wo {n : Nat} {x k : List Int} (h : On n k) (hs : x ∈ wo k) : On n x := on_sub h (wo_sub hs)
/-- a smaller set of n corners: within iff a part -/
theorem on_within {n : Nat} {x k : List Int} (hx : On n x) (hk : On n k) : (∀ c ∈ x, c ∈ k) ↔ x.Sublist k := ⟨sub_of_asc hx.1 hk.1, fun h c hc => h.subset hc⟩

/-! ### products -/
def prod (n : Nat) (s : List Int) : List Int := (List.range n).map fun (i : Nat) => if (i : Int) ∈ s then 1 else 0
theorem prod_len (n : Nat) (s : List Int) : (prod n s).length = n := by simp [prod]
theorem prod_get {n i : Nat} {s : List Int} (h : i < n) : (prod n s)[i]? = some (if (i : Int) ∈ s then 1 else 0) := by simp [prod, h]
theorem prod_01 {n : Nat} {s : List Int} {x : Int} (h : x ∈ prod n s) : x = 0 ∨ x = 1 := by
  obtain ⟨i, _, e⟩ := List.mem_map.mp h
  split at e
  · exact .inr e.symm
  · exact .inl e.symm
/-- does a product divide another one -/
def dv (u v : List Int) : Bool := (u.zip v).all fun p => decide (p.1 ≤ p.2)
theorem dv_iff : ∀ {u v : List Int}, u.length = v.length → (dv u v = true ↔ ∀ (i : Nat) (x y : Int), u[i]? = some x → v[i]? = some y → x ≤ y)
  | [], [], _ => by simp [dv]
  | [], _ :: _, h => by simp at h
  | _ :: _, [], h => by simp at h
  | a :: u, b :: v, h => by
    have ih := dv_iff (u := u) (v := v) (by simpa using h)
    have e : dv (a :: u) (b :: v) = (decide (a ≤ b) && dv u v) := rfl
    rw [e, Bool.and_eq_true, decide_eq_true_eq, ih]
    constructor
    · rintro ⟨h1, h2⟩ i x y hx hy
      cases i with
      | zero =>
        simp at hx hy
        omega
      | succ i => exact h2 i x y (by simpa using hx) (by simpa using hy)
    · intro h
      exact ⟨h 0 a b rfl rfl, fun i x y hx hy => h (i + 1) x y (by simpa using hx) (by simpa using hy)⟩
theorem dv_refl (u : List Int) : dv u u = true := (dv_iff rfl).mpr fun i x y h1 h2 => by
  rw [h1] at h2
  cases h2
  exact Int.le_refl _
theorem dv_trans {u v w : List Int} (h1 : u.length = v.length) (h2 : v.length = w.length) (a : dv u v = true) (b : dv v w = true) : dv u w = true := by
  refine (dv_iff (h1.trans h2)).mpr fun i x z hx hz => ?_
  have hi : i < v.length := by
    rw [← h1]
    exact (List.getElem?_eq_some_iff.mp hx).1
  have q1 := (dv_iff h1).mp a i x v[i] hx (by simp [hi])
  have q2 := (dv_iff h2).mp b i v[i] z (by simp [hi]) hz
  omega
theorem dv_sum : ∀ {u v : List Int}, u.length = v.length → dv u v = true → u.sum ≤ v.sum ∧ (u.sum = v.sum → u = v)
  | [], [], _, _ => by simp
  | [], _ :: _, h, _ => by simp at h
  | _ :: _, [], h, _ => by simp at h
  | a :: u, b :: v, h, d => by
    have e : dv (a :: u) (b :: v) = (decide (a ≤ b) && dv u v) := rfl
    rw [e, Bool.and_eq_true, decide_eq_true_eq] at d
    obtain ⟨i1, i2⟩ := dv_sum (u := u) (v := v) (by simpa using h) d.2
    rw [List.sum_cons, List.sum_cons]
    refine ⟨by omega, fun e => ?_⟩
    rw [i2 (by omega), show a = b by omega]
theorem dv_anti {u v : List Int} (h : u.length = v.length) (a : dv u v = true) (b : dv v u = true) : u = v := by
  have h1 := dv_sum h a
  have h2 := dv_sum h.symm b
  exact h1.2 (by omega)
/-- the letters of a product -/
def supp (p : List Int) : List Int := ((List.range p.length).filter fun (i : Nat) => decide (p.getD i 0 > 0)).map fun (i : Nat) => (i : Int)
theorem mem_supp {p : List Int} {x : Int} : x ∈ supp p ↔ ∃ i : Nat, x = i ∧ i < p.length ∧ p.getD i 0 > 0 := by
  unfold supp
  simp only [List.mem_map, List.mem_filter, List.mem_range, decide_eq_true_eq]
  constructor
  · rintro ⟨i, ⟨h1, h2⟩, e⟩
    exact ⟨i, e.symm, h1, h2⟩
  · rintro ⟨i, e, h1, h2⟩
    exact ⟨i, ⟨h1, h2⟩, e.symm⟩
theorem range_asc (n : Nat) : (List.range n).Pairwise (· < ·) := List.pairwise_lt_range
theorem supp_on (p : List Int) : On p.length (supp p) := by
  refine ⟨?_, fun x hx => ?_⟩
  · refine List.Pairwise.map _ (fun a b h => ?_) ((range_asc p.length).filter _)
    omega
  · obtain ⟨i, rfl, h, _⟩ := mem_supp.mp hx
    omega
theorem dv_prod {n : Nat} {s p : List Int} (hs : On n s) (hp : p.length = n) (h0 : ∀ x ∈ p, 0 ≤ x) : dv (prod n s) p = true ↔ ∀ c ∈ s, c ∈ supp p := by
  rw [dv_iff ((prod_len n s).trans hp.symm)]
  constructor
  · intro h c hc
    have hc' := hs.2 c hc
    have hi : c.toNat < n := by omega
    have e : ((c.toNat : Nat) : Int) = c := by omega
    have q := h c.toNat 1 (p.getD c.toNat 0) (by rw [prod_get hi, if_pos (by rw [e]; exact hc)]) (by
      rw [List.getD_eq_getElem?_getD, List.getElem?_eq_getElem (by omega)]
      rfl)
    exact mem_supp.mpr ⟨c.toNat, e.symm, by omega, by omega⟩
  · intro h i x y hx hy
    have hi : i < n := by
      have := (List.getElem?_eq_some_iff.mp hx).1
      rw [prod_len] at this
      exact this
    rw [prod_get hi] at hx
    have hy0 : 0 ≤ y := h0 y (List.mem_of_getElem? hy)
    by_cases hc : (i : Int) ∈ s
    · rw [if_pos hc] at hx
      cases hx
      obtain ⟨j, ej, hj, hg⟩ := mem_supp.mp (h _ hc)
      have e : i = j := by omega
      subst e
      rw [List.getD_eq_getElem?_getD, hy] at hg
      have : y > 0 := hg
      omega
    · rw [if_neg hc] at hx
      cases hx
      exact hy0
theorem supp_prod {n : Nat} {s : List Int} (hs : On n s) (c : Int) : c ∈ supp (prod n s) ↔ c ∈ s := by
  rw [mem_supp]
  constructor
  · rintro ⟨i, rfl, h1, h2⟩
    rw [prod_len] at h1
    rw [List.getD_eq_getElem?_getD, prod_get h1] at h2
    by_cases hc : (i : Int) ∈ s
    · exact hc
    · simp [hc] at h2
  · intro hc
    have hc' := hs.2 c hc
    have hi : c.toNat < n := by omega
    have e : ((c.toNat : Nat) : Int) = c := by omega
    refine ⟨c.toNat, e.symm, by rw [prod_len]; exact hi, ?_⟩
    rw [List.getD_eq_getElem?_getD, prod_get hi, if_pos (by rw [e]; exact hc)]
    decide
theorem prod_pos {n : Nat} {s : List Int} : ∀ x ∈ prod n s, 0 ≤ x := fun x hx => by
  rcases prod_01 hx with e | e <;> omega
theorem dv_prods {n : Nat} {s t : List Int} (hs : On n s) (ht : On n t) : dv (prod n s) (prod n t) = true ↔ s.Sublist t := by
  rw [dv_prod hs (prod_len n t) prod_pos, ← on_within hs ht]
  constructor
  · exact fun h c hc => (supp_prod ht c).mp (h c hc)
  · exact fun h c hc => (supp_prod ht c).mpr (h c hc)
theorem prod_inj {n : Nat} {s t : List Int} (hs : On n s) (ht : On n t) (e : prod n s = prod n t) : s = t := by
  have h1 := (dv_prods hs ht).mp (by rw [e]; exact dv_refl _)
  have h2 := (dv_prods ht hs).mp (by rw [e]; exact dv_refl _)
  exact h1.eq_of_length (Nat.le_antisymm h1.length_le h2.length_le)
end K41

/-! K41N -/
/-! The mathematics, second part: least products, families and their lots. -/
namespace K41

/-! ### the least ones of some products -/
def Least (ps : List (List Int)) (x : List Int) : Prop := x ∈ ps ∧ ∀ y ∈ ps, dv y x = true → y = x
/-- one turn of the program's loop -/
def stepL (found : List (List Int)) (p : List Int) : List (List Int) := if found.any (fun o => dv o p) = true then found else found ++ [p]
structure LInv (done found : List (List Int)) : Prop where
  sub : ∀ x ∈ found, x ∈ done
  cov : ∀ y ∈ done, ∃ z ∈ found, dv z y = true
  nd : found.Nodup
  anti : ∀ x ∈ found, ∀ y ∈ found, dv x y = true → x = y
theorem LInv.nil : LInv [] [] := ⟨fun _ h => (nomatch h), fun _ h => (nomatch h), List.Pairwise.nil, fun _ h => (nomatch h)⟩
theorem LInv.step {n : Nat} {done found : List (List Int)} {p : List Int} (I : LInv done found) (hl : ∀ x ∈ done, x.length = n) (hp : p.length = n) (hs : ∀ x ∈ done, x.sum ≤ p.sum) (hn : p ∉ done) : LInv (done ++ [p]) (stepL found p) := by
  unfold stepL
  by_cases h : found.any (fun o => dv o p) = true
  · rw [if_pos h]
    obtain ⟨z, hz, hd⟩ := List.any_eq_true.mp h
    refine ⟨fun x hx => List.mem_append_left _ (I.sub x hx), fun y hy => ?_, I.nd, I.anti⟩
    rcases List.mem_append.mp hy with q | q
    · exact I.cov y q
    · rw [List.mem_singleton.mp q]
      exact ⟨z, hz, hd⟩
  · rw [if_neg h]
    have no : ∀ x ∈ found, dv x p = true → False := fun x hx d => h (List.any_eq_true.mpr ⟨x, hx, d⟩)
    have no2 : ∀ x ∈ found, dv p x = true → False := fun x hx d => by
      have h1 := dv_sum (hp.trans (hl x (I.sub x hx)).symm) d
      have h2 := hs x (I.sub x hx)
      rw [h1.2 (by omega)] at hn
      exact hn (I.sub x hx)
    refine ⟨fun x hx => ?_, fun y hy => ?_, ?_, fun x hx y hy d => ?_⟩
    · rcases List.mem_append.mp hx with q | q
      · exact List.mem_append_left _ (I.sub x q)
      · exact List.mem_append_right _ q
    · rcases List.mem_append.mp hy with q | q
      · obtain ⟨z, hz, hd⟩ := I.cov y q
        exact ⟨z, List.mem_append_left _ hz, hd⟩
      · rw [List.mem_singleton.mp q]
        exact ⟨p, List.mem_append_right _ (List.mem_singleton.mpr rfl), dv_refl p⟩
    · refine List.nodup_append.mpr ⟨I.nd, List.pairwise_singleton _ _, fun a ha b hb e => ?_⟩
      rw [List.mem_singleton.mp hb] at e
      exact hn (e ▸ I.sub a ha)
    · rcases List.mem_append.mp hx with q | q
      · rcases List.mem_append.mp hy with r | r
        · exact I.anti x q y r d
        · rw [List.mem_singleton.mp r] at d
          exact (no x q d).elim
      · rcases List.mem_append.mp hy with r | r
        · rw [List.mem_singleton.mp q] at d
          exact (no2 y r d).elim
        · rw [List.mem_singleton.mp q, List.mem_singleton.mp r]
/-- behind the first i products -/
theorem linv_take {n : Nat} {once : List (List Int)} (hl : ∀ x ∈ once, x.length = n) (nd : once.Nodup) (srt : once.Pairwise fun x y => x.sum ≤ y.sum) : ∀ i, i ≤ once.length → LInv (once.take i) ((once.take i).foldl stepL [])
  | 0, _ => by
    rw [List.take_zero]
    exact LInv.nil
  | i + 1, h => by
    have ih := linv_take hl nd srt i (by omega)
    have e : once.take (i + 1) = once.take i ++ [once[i]] := by
      rw [List.take_add_one, List.getElem?_eq_getElem (by omega)]
      rfl
    have e0 : once = once.take i ++ once.drop i := (List.take_append_drop i once).symm
    have e1 : once.drop i = once[i] :: once.drop (i + 1) := List.drop_eq_getElem_cons (by omega)
    rw [e, List.foldl_append]
    refine ih.step (n := n) (fun x hx => hl x (List.mem_of_mem_take hx)) (hl _ (List.getElem_mem _)) (fun x hx => ?_) (fun hx => ?_)
    · rw [e0] at srt
      exact (List.pairwise_append.mp srt).2.2 x hx _ (by rw [e1]; exact List.mem_cons_self)
    · have nd2 := nd
      rw [e0] at nd2
      exact (List.nodup_append.mp nd2).2.2 _ hx once[i] (by rw [e1]; exact List.mem_cons_self) rfl
theorem LInv.least {n : Nat} {once found : List (List Int)} (I : LInv once found) (hl : ∀ x ∈ once, x.length = n) (x : List Int) : x ∈ found ↔ Least once x := by
  constructor
  · intro hx
    refine ⟨I.sub x hx, fun y hy d => ?_⟩
    obtain ⟨z, hz, hd⟩ := I.cov y hy
    have l1 := hl z (I.sub z hz)
    have l2 := hl y hy
    have l3 := hl x (I.sub x hx)
    have e := I.anti z hz x hx (dv_trans (l1.trans l2.symm) (l2.trans l3.symm) hd d)
    subst e
    exact dv_anti (l2.trans l3.symm) d hd
  · rintro ⟨h1, h2⟩
    obtain ⟨z, hz, hd⟩ := I.cov x h1
    rw [← h2 z (I.sub z hz) hd]
    exact hz
/-- above each product stands a least one -/
theorem least_below {n : Nat} {ps : List (List Int)} (hl : ∀ x ∈ ps, x.length = n) (h0 : ∀ x ∈ ps, 0 ≤ x.sum) : ∀ (m : Nat) (x : List Int), x ∈ ps → x.sum ≤ m → ∃ y, Least ps y ∧ dv y x = true
  | m, x, hx, hm => by
    by_cases h : ∃ y ∈ ps, dv y x = true ∧ y ≠ x
    · obtain ⟨y, hy, d, ne⟩ := h
      have l := (hl y hy).trans (hl x hx).symm
      have q := dv_sum l d
      have lt : y.sum < x.sum := by
        rcases Int.lt_or_eq_of_le q.1 with z | z
        · exact z
        · exact absurd (q.2 z) ne
      have h1 := h0 y hy
      cases m with
      | zero => omega
      | succ m =>
        obtain ⟨z, hz, dz⟩ := least_below hl h0 m y hy (by omega)
        exact ⟨z, hz, dv_trans ((hl z hz.1).trans (hl y hy).symm) l dz d⟩
    · refine ⟨x, ⟨hx, fun y hy d => ?_⟩, dv_refl x⟩
      exact Classical.byContradiction fun ne => h ⟨y, hy, d, ne⟩
theorem least_under {n : Nat} {ps : List (List Int)} (hl : ∀ x ∈ ps, x.length = n) (h0 : ∀ x ∈ ps, 0 ≤ x.sum) {x : List Int} (hx : x ∈ ps) : ∃ y, Least ps y ∧ dv y x = true :=
  least_below hl h0 x.sum.toNat x hx (by have := h0 x hx; omega)
theorem least_same {ps qs : List (List Int)} (h : ∀ x, x ∈ ps ↔ x ∈ qs) (x : List Int) : Least ps x ↔ Least qs x :=
  ⟨fun q => ⟨(h x).mp q.1, fun y hy => q.2 y ((h y).mpr hy)⟩, fun q => ⟨(h x).mpr q.1, fun y hy => q.2 y ((h y).mp hy)⟩⟩
/-- no more than 24 of them are without order -/
def Few (ps : List (List Int)) : Prop := ∀ A : List (List Int), A.Nodup → (∀ x ∈ A, x ∈ ps) → (∀ x ∈ A, ∀ y ∈ A, dv x y = true → x = y) → A.length ≤ 24
theorem few_short {ps : List (List Int)} (h : ps.length ≤ 24) : Few ps := fun A nd hs _ => Nat.le_trans (nd_le nd hs) h

/-! ### at most twenty sets of six corners are without order -/
/-- the ones that have a nought of their own to the left -/
def repL : Nat → List Int → List Int
  | _, [] => []
  | c, x :: r => if x = 0 then 0 :: repL (c + 1) r else match c with
    | 0 => 0 :: repL 0 r
    | c + 1 => 1 :: repL c r
def chains (n : Nat) : Bool := (subs n).all fun s => (subs n).all fun t => !(repL 0 (prod n s) == repL 0 (prod n t)) || dv (prod n s) (prod n t) || dv (prod n t) (prod n s)
def tops (n : Nat) : List (List Int) := ((subs n).map fun s => repL 0 (prod n s)).eraseDups
theorem chains_ok : ∀ n, n ≤ 6 → chains n = true
  | 0, _ => by decide +kernel
  | 1, _ => by decide +kernel
  | 2, _ => by decide +kernel
  | 3, _ => by decide +kernel
  | 4, _ => by decide +kernel
  | 5, _ => by decide +kernel
  | 6, _ => by decide +kernel
  | n + 7, h => by omega
theorem tops_few : ∀ n, n ≤ 6 → (tops n).length ≤ 20
  | 0, _ => by decide +kernel
  | 1, _ => by decide +kernel
  | 2, _ => by decide +kernel
  | 3, _ => by decide +kernel
  | 4, _ => by decide +kernel
  | 5, _ => by decide +kernel
  | 6, _ => by decide +kernel
  | n + 7, h => by omega
theorem nd_map {α β : Type} {f : α → β} : ∀ {l : List α}, l.Nodup → (∀ x ∈ l, ∀ y ∈ l, f x = f y → x = y) → (l.map f).Nodup
  | [], _, _ => List.Pairwise.nil
  | a :: l, h, hf => by
    have h' := List.nodup_cons.mp h
    rw [List.map_cons]
    refine List.nodup_cons.mpr ⟨fun hm => ?_, nd_map h'.2 fun x hx y hy => hf x (List.mem_cons_of_mem _ hx) y (List.mem_cons_of_mem _ hy)⟩
    obtain ⟨x, hx, e⟩ := List.mem_map.mp hm
    rw [hf x (List.mem_cons_of_mem _ hx) a List.mem_cons_self e] at hx
    exact h'.1 hx
theorem few_prods {n : Nat} (hn : n ≤ 6) {ps : List (List Int)} (hp : ∀ x ∈ ps, ∃ s, On n s ∧ x = prod n s) : Few ps := fun A nd hs anti => by
  have hc := chains_ok n hn
  unfold chains at hc
  rw [List.all_eq_true] at hc
  have inj : (A.map (repL 0)).Nodup := nd_map nd fun x hx y hy e => by
    obtain ⟨s, hs1, rfl⟩ := hp x (hs x hx)
    obtain ⟨t, ht1, rfl⟩ := hp y (hs y hy)
    have q := List.all_eq_true.mp (hc s (mem_subs.mpr hs1)) t (mem_subs.mpr ht1)
    rw [e, beq_self_eq_true, Bool.not_true, Bool.false_or, Bool.or_eq_true] at q
    rcases q with q | q
    · exact anti _ hx _ hy q
    · exact (anti _ hy _ hx q).symm
  have h1 := nd_le inj (m := tops n) fun x hx => by
    obtain ⟨y, hy, rfl⟩ := List.mem_map.mp hx
    obtain ⟨s, hs1, rfl⟩ := hp y (hs y hy)
    exact List.mem_eraseDups.mpr (List.mem_map.mpr ⟨s, mem_subs.mpr hs1, rfl⟩)
  rw [List.length_map] at h1
  exact Nat.le_trans h1 (Nat.le_trans (tops_few n hn) (by decide))
end K41

/-! K41O -/
/-! The mathematics, third part: families and lots, and back. -/
namespace K41
/-- the sets of a family on n corners, as a list -/
structure Fam (n : Nat) (L : List (List Int)) : Prop where
  nd : L.Nodup
  on : ∀ x ∈ L, On n x
  cl : ∀ x ∈ L, ∀ y ∈ wo x, y ∈ L
/-- a least set that is none -/
def MinNon (n : Nat) (L : List (List Int)) (c : List Int) : Prop := On n c ∧ c ∉ L ∧ ∀ y ∈ wo c, y ∈ L
theorem sub_anti {x y : List Int} (h : x.Sublist y) (h' : y.Sublist x) : x = y := h.eq_of_length (Nat.le_antisymm h.length_le h'.length_le)
theorem Fam.sub {n : Nat} {L : List (List Int)} (F : Fam n L) {x y : List Int} (hy : y ∈ L) (h : x.Sublist y) : x ∈ L := closed_sub (P := fun z => z ∈ L) (fun z hz w hw => F.cl z hz w hw) hy h
/-- below a set that is none stands a least one -/
theorem min_below {n : Nat} {L : List (List Int)} : ∀ (m : Nat) {c : List Int}, On n c → c ∉ L → c.length ≤ m → ∃ d, MinNon n L d ∧ d.Sublist c
  | m, c, hc, hn, hl => by
    by_cases h : ∃ y ∈ wo c, y ∉ L
    · obtain ⟨y, hy, ny⟩ := h
      have l := wo_len hy
      cases m with
      | zero => omega
      | succ m =>
        obtain ⟨d, hd, hs⟩ := min_below m (on_wo hc hy) ny (by omega)
        exact ⟨d, hd, hs.trans (wo_sub hy)⟩
    · exact ⟨c, ⟨hc, hn, fun y hy => Classical.byContradiction fun q => h ⟨y, hy, q⟩⟩, List.Sublist.refl c⟩
theorem min_under {n : Nat} {L : List (List Int)} {c : List Int} (hc : On n c) (hn : c ∉ L) : ∃ d, MinNon n L d ∧ d.Sublist c := min_below c.length hc hn (Nat.le_refl _)
theorem MinNon.only {n : Nat} {L : List (List Int)} (F : Fam n L) {c d : List Int} (hc : MinNon n L c) (hd : On n d) (nd : d ∉ L) (h : d.Sublist c) : d = c := by
  by_cases e : d.length = c.length
  · exact h.eq_of_length e
  · have := h.length_le
    obtain ⟨y, hy, hs⟩ := sub_wo h (by omega)
    exact absurd (F.sub (hc.2.2 y hy) hs) nd
/-- the products of some sets -/
abbrev prods (n : Nat) (ss : List (List Int)) : List (List Int) := ss.map (prod n)
theorem mem_prods {n : Nat} {ss : List (List Int)} {x : List Int} : x ∈ prods n ss ↔ ∃ s ∈ ss, x = prod n s := by
  simp only [prods, List.mem_map]
  exact ⟨fun ⟨a, h, e⟩ => ⟨a, h, e.symm⟩, fun ⟨a, h, e⟩ => ⟨a, h, e.symm⟩⟩
/-- least among the products of all sets that are none -/
theorem least_none {n : Nat} {L N : List (List Int)} (F : Fam n L) (hN : ∀ c, c ∈ N ↔ On n c ∧ c ∉ L) (x : List Int) : Least (prods n N) x ↔ ∃ c, MinNon n L c ∧ x = prod n c := by
  constructor
  · rintro ⟨h1, h2⟩
    obtain ⟨c, hc, rfl⟩ := mem_prods.mp h1
    have hc' := (hN c).mp hc
    refine ⟨c, ⟨hc'.1, hc'.2, fun y hy => Classical.byContradiction fun q => ?_⟩, rfl⟩
    have oy := on_wo hc'.1 hy
    have e := h2 (prod n y) (mem_prods.mpr ⟨y, (hN y).mpr ⟨oy, q⟩, rfl⟩) ((dv_prods oy hc'.1).mpr (wo_sub hy))
    have := prod_inj oy hc'.1 e
    have := wo_len hy
    subst y
    omega
  · rintro ⟨c, hc, rfl⟩
    refine ⟨mem_prods.mpr ⟨c, (hN c).mpr ⟨hc.1, hc.2.1⟩, rfl⟩, fun y hy d => ?_⟩
    obtain ⟨t, ht, rfl⟩ := mem_prods.mp hy
    have ht' := (hN t).mp ht
    rw [hc.only F ht'.1 ht'.2 ((dv_prods ht'.1 hc.1).mp d)]
/-- least among the products of the least sets that are none: all of them -/
theorem least_min {n : Nat} {L N : List (List Int)} (F : Fam n L) (hN : ∀ c, c ∈ N ↔ MinNon n L c) (x : List Int) : Least (prods n N) x ↔ ∃ c, MinNon n L c ∧ x = prod n c := by
  constructor
  · rintro ⟨h1, _⟩
    obtain ⟨c, hc, rfl⟩ := mem_prods.mp h1
    exact ⟨c, (hN c).mp hc, rfl⟩
  · rintro ⟨c, hc, rfl⟩
    refine ⟨mem_prods.mpr ⟨c, (hN c).mpr hc, rfl⟩, fun y hy d => ?_⟩
    obtain ⟨t, ht, rfl⟩ := mem_prods.mp hy
    have ht' := (hN t).mp ht
    rw [hc.only F ht'.1 ht'.2.1 ((dv_prods ht'.1 hc.1).mp d)]
/-- the products of a lot, least ones M: what a set's product says -/
theorem back_sets {n : Nat} {L M : List (List Int)} (F : Fam n L) (hM : ∀ x, x ∈ M ↔ ∃ c, MinNon n L c ∧ x = prod n c) {c : List Int} (hc : On n c) : c ∈ L ↔ M.any (fun m => dv m (prod n c)) = false := by
  rw [Bool.eq_false_iff, ne_eq, List.any_eq_true]
  constructor
  · rintro h ⟨m, hm, d⟩
    obtain ⟨t, ht, rfl⟩ := (hM m).mp hm
    exact ht.2.1 (F.sub h ((dv_prods ht.1 hc).mp d))
  · intro h
    refine Classical.byContradiction fun q => h ?_
    obtain ⟨d, hd, hs⟩ := min_under hc q
    exact ⟨prod n d, (hM _).mpr ⟨d, hd, rfl⟩, (dv_prods hd.1 hc).mpr hs⟩
/-- any product: it is in the lot exactly if its letters are no member -/
theorem in_lot {n : Nat} {L M : List (List Int)} (F : Fam n L) (hM : ∀ x, x ∈ M ↔ ∃ c, MinNon n L c ∧ x = prod n c) {p : List Int} (hp : p.length = n) (h0 : ∀ x ∈ p, 0 ≤ x) : M.any (fun m => dv m p) = true ↔ supp p ∉ L := by
  have ho : On n (supp p) := by
    have := supp_on p
    rw [hp] at this
    exact this
  rw [List.any_eq_true]
  constructor
  · rintro ⟨m, hm, d⟩ h
    obtain ⟨t, ht, rfl⟩ := (hM m).mp hm
    exact ht.2.1 (F.sub h ((on_within ht.1 ho).mp ((dv_prod ht.1 hp h0).mp d)))
  · intro h
    obtain ⟨d, hd, hs⟩ := min_under ho h
    exact ⟨prod n d, (hM _).mpr ⟨d, hd, rfl⟩, (dv_prod hd.1 hp h0).mpr fun c hc => hs.subset hc⟩
/-- the sets that a lot without squares leaves are a family -/
theorem left_fam {n : Nat} {U L : List (List Int)} (nd : L.Nodup) (hU : ∀ u ∈ U, ∃ t, On n t ∧ u = prod n t) (hL : ∀ c, c ∈ L ↔ On n c ∧ ∀ u ∈ U, dv u (prod n c) = false) : Fam n L := by
  refine ⟨nd, fun x hx => ((hL x).mp hx).1, fun x hx y hy => ?_⟩
  have hx' := (hL x).mp hx
  have oy := on_wo hx'.1 hy
  refine (hL y).mpr ⟨oy, fun u hu => ?_⟩
  obtain ⟨t, ht, rfl⟩ := hU u hu
  refine Bool.eq_false_iff.mpr fun q => ?_
  have := hx'.2 _ hu
  rw [(dv_prods ht hx'.1).mpr (((dv_prods ht oy).mp q).trans (wo_sub hy))] at this
  cases this
/-- .. and its least sets that are none are those of the least products -/
theorem left_back {n : Nat} {U L : List (List Int)} (nd : L.Nodup) (hU : ∀ u ∈ U, ∃ t, On n t ∧ u = prod n t) (hL : ∀ c, c ∈ L ↔ On n c ∧ ∀ u ∈ U, dv u (prod n c) = false) (x : List Int) : Least U x ↔ ∃ c, MinNon n L c ∧ x = prod n c := by
  have F := left_fam nd hU hL
  have non : ∀ {c}, On n c → c ∉ L → ∃ t, On n t ∧ prod n t ∈ U ∧ t.Sublist c := fun {c} hc hn => by
    have h : ¬ ∀ u ∈ U, dv u (prod n c) = false := fun q => hn ((hL c).mpr ⟨hc, q⟩)
    have ⟨u, h2⟩ := Classical.not_forall.mp h
    have ⟨hu, h3⟩ := Classical.not_forall.mp h2
    obtain ⟨t, ht, rfl⟩ := hU u hu
    refine ⟨t, ht, hu, (dv_prods ht hc).mp ?_⟩
    cases e : dv (prod n t) (prod n c) with
    | true => rfl
    | false => exact absurd e h3
  constructor
  · rintro ⟨h1, h2⟩
    obtain ⟨t, ht, rfl⟩ := hU x h1
    refine ⟨t, ⟨ht, fun q => ?_, fun y hy => Classical.byContradiction fun q => ?_⟩, rfl⟩
    · have := ((hL t).mp q).2 _ h1
      rw [dv_refl] at this
      cases this
    · have oy := on_wo ht hy
      obtain ⟨s, hs, hu, hss⟩ := non oy q
      have e := h2 _ hu ((dv_prods hs ht).mpr (hss.trans (wo_sub hy)))
      have e2 := prod_inj hs ht e
      subst e2
      have := hss.length_le
      have := wo_len hy
      omega
  · rintro ⟨c, hc, rfl⟩
    obtain ⟨t, ht, hu, hs⟩ := non hc.1 hc.2.1
    have nt : t ∉ L := fun q => by
      have := ((hL t).mp q).2 _ hu
      rw [dv_refl] at this
      cases this
    have e := hc.only F ht nt hs
    subst e
    refine ⟨hu, fun y hy d => ?_⟩
    obtain ⟨s, hs1, rfl⟩ := hU y hy
    have ns : s ∉ L := fun q => by
      have := ((hL s).mp q).2 _ hy
      rw [dv_refl] at this
      cases this
    rw [hc.only F hs1 ns ((dv_prods hs1 ht).mp d)]
/-- the least products tell what is left as well as all -/
theorem sum_pos : ∀ {l : List Int}, (∀ x ∈ l, 0 ≤ x) → 0 ≤ l.sum
  | [], _ => by simp
  | a :: l, h => by
    rw [List.sum_cons]
    have h1 := h a List.mem_cons_self
    have h2 := sum_pos (l := l) fun x hx => h x (List.mem_cons_of_mem _ hx)
    omega
theorem left_least {n : Nat} {U M : List (List Int)} (hU : ∀ u ∈ U, ∃ t, On n t ∧ u = prod n t) (hM : ∀ x, x ∈ M ↔ Least U x) {c : List Int} (hc : On n c) : M.any (fun m => dv m (prod n c)) = false ↔ ∀ u ∈ U, dv u (prod n c) = false := by
  have hl : ∀ x ∈ U, x.length = n := fun x hx => by
    obtain ⟨t, _, rfl⟩ := hU x hx
    exact prod_len n t
  have h0 : ∀ x ∈ U, 0 ≤ x.sum := fun x hx => by
    obtain ⟨t, _, rfl⟩ := hU x hx
    exact sum_pos fun y hy => prod_pos y hy
  rw [Bool.eq_false_iff, ne_eq, List.any_eq_true]
  constructor
  · intro h u hu
    refine Bool.eq_false_iff.mpr fun q => h ?_
    obtain ⟨y, hy, d⟩ := least_under hl h0 hu
    exact ⟨y, (hM y).mpr hy, dv_trans ((hl y hy.1).trans (hl u hu).symm) ((hl u hu).trans (prod_len n c).symm) d q⟩
  · rintro h ⟨m, hm, d⟩
    rw [h m ((hM m).mp hm).1] at d
    cases d
/-- the greatest members are told by the sets alone -/
def GreatOf (L : List (List Int)) (x : List Int) : Prop := x ∈ L ∧ ∀ y ∈ L, x ∉ wo y
theorem great_same {L L' : List (List Int)} (h : ∀ x, x ∈ L ↔ x ∈ L') (x : List Int) : GreatOf L x ↔ GreatOf L' x :=
  ⟨fun q => ⟨(h x).mp q.1, fun y hy => q.2 y ((h y).mpr hy)⟩, fun q => ⟨(h x).mpr q.1, fun y hy => q.2 y ((h y).mp hy)⟩⟩
/-- the product with a square is least where no drawn one is 1 or the first letter -/
theorem square_least {n : Nat} {U : List (List Int)} {q : List Int} (hq : q.length = n) (hU : ∀ u ∈ U, ∃ t, On n t ∧ u = prod n t) (h1 : ∀ i : Nat, 1 ≤ i → i < n → q[i]? = some 0)
    (hno : ∀ u ∈ U, ¬ (∀ (i : Nat) (x : Int), 1 ≤ i → u[i]? = some x → x = 0)) : Least (U ++ [q]) q := by
  refine ⟨List.mem_append_right _ (List.mem_singleton.mpr rfl), fun y hy d => ?_⟩
  rcases List.mem_append.mp hy with z | z
  · refine absurd (fun (i : Nat) (x : Int) hi hx => ?_) (hno y z)
    obtain ⟨t, _, rfl⟩ := hU y z
    have hi2 : i < n := by
      have := (List.getElem?_eq_some_iff.mp hx).1
      rw [prod_len] at this
      exact this
    have q1 := (dv_iff ((prod_len n t).trans hq.symm)).mp d i x 0 hx (h1 i hi hi2)
    have q2 := prod_pos x (List.mem_of_getElem? hx)
    omega
  · exact List.mem_singleton.mp z
end K41

/-! K41D -/
/-! without_each, divides, and other defs over tuples. -/
namespace K41
open PySem PySem.Spec PyProof.Rows L2

/-! ### slices and sums of tuples -/
theorem sIx_some (n d i : Nat) : HT.sIx n d (some (i : Int)) = min i n := HT.sIx_nat n d i
theorem cut_take (xs : List V) (i : Nat) (h : i ≤ xs.length) : cutV xs none (some (i : Int)) = xs.take i := by
  unfold cutV
  rw [HT.sIx_none, sIx_some, Nat.min_eq_left h]
  simp
theorem cut_drop (xs : List V) (i : Nat) (h : i ≤ xs.length) : cutV xs (some (i : Int)) none = xs.drop i := by
  unfold cutV
  rw [HT.sIx_none, sIx_some, Nat.min_eq_left h]
  exact List.take_of_length_le (by rw [List.length_drop]; omega)
section
variable {K : PySem.W.Frag} {H : Hp} {a b : Addr} {k k' : List Int}
theorem sl_take {Q : VK} {i : Nat} (h : IT H a k) (hi : i < k.length) (q : ∀ p, H p = none → Q (.ref p) (upd H p (.tup ((k.take i).map V.int)))) : rSlA K (.ref a) none (some (i : Int)) H Q := by
  have hl : (k.map V.int).length = k.length := List.length_map _
  refine ⟨a, k.map V.int, rfl, SqT.of h, fun z => ?_, fun _ p hp => ?_⟩
  · have := z.2
    rw [sIx_some, hl, Nat.min_eq_left (by omega)] at this
    omega
  · rw [cut_take _ _ (by omega), ← List.map_take]
    exact q p hp
theorem sl_drop {Q : VK} {i : Nat} (h : IT H a k) (h0 : 0 < i) (hi : i ≤ k.length) (q : ∀ p, H p = none → Q (.ref p) (upd H p (.tup ((k.drop i).map V.int)))) : rSlA K (.ref a) (some (i : Int)) none H Q := by
  have hl : (k.map V.int).length = k.length := List.length_map _
  refine ⟨a, k.map V.int, rfl, SqT.of h, fun z => ?_, fun _ p hp => ?_⟩
  · have := z.1
    rw [sIx_some, hl, Nat.min_eq_left (by omega)] at this
    omega
  · rw [cut_drop _ _ (by omega), ← List.map_drop]
    exact q p hp
theorem cat_it {Q : VK} (h : IT H a k) (h' : IT H b k') (hl : k.length + k'.length ≤ 1000000) (q : ∀ v H', Same H H' → RT (k ++ k') v H' → Q v H') : rCatA K (.ref a) (.ref b) H Q := by
  refine ⟨a, b, k.map V.int, k'.map V.int, rfl, rfl, SqT.of h, SqT.of h', bigle (by simpa using hl), fun e => ?_, fun e1 e2 => ?_, fun _ _ p hp => ?_⟩
  · have e : k = [] := by simpa using e
    subst e
    exact q _ H (Same.refl H) ⟨b, rfl, h'⟩
  · have e : k' = [] := by simpa using e2
    subst e
    exact q _ H (Same.refl H) ⟨a, rfl, by rw [List.append_nil]; exact h⟩
  · refine q _ _ (same_new hp) ⟨p, rfl, ?_⟩
    show upd H p _ p = _
    rw [upd_same, List.map_append]
theorem get_int {k : List Int} {i : Nat} {x : V} (h : (k.map V.int)[i]? = some x) : ∃ n, k[i]? = some n ∧ x = .int n := by
  rw [List.getElem?_map] at h
  cases e : k[i]? with
  | none =>
    rw [e] at h
    cases h
  | some n =>
    rw [e] at h
    exact ⟨n, rfl, (Option.some.inj h).symm⟩
theorem noPart {σ : L2.St} {H : Hp} {Q : Option Int → Hp → Prop} (h : Q none H) : tNoPart σ H Q := h
theorem yes {σ : L2.St} {H : Hp} {Q : Bool → Hp → Prop} (h : Q true H) : tYes σ H Q := h
theorem fm_some {α β : Type} (l : List α) (f : α → β) : l.filterMap (fun x => some (f x)) = l.map f := by simp
end

section
variable {P : Program} {w : World} {K : PySem.W.Frag} {mg : Str → Option Value} {base : Heap}
/-! ### without_each -/
def spWE : Sp := fun vs H Q _ => ∃ (a : Addr) (k : List Int), vs = [.ref a] ∧ IT H a k ∧ k.length ≤ 1000 ∧ ∀ H' l, Same H H' → H l = none → LL H' l (wo k) → Q (.ref l) H'
theorem sc_WE : FnScope ["chosen", "at"] ["chosen"] (defScope (top 15)) := ⟨rfl, rfl, rfl, by decide +kernel, rfl, by decide +kernel, by decide +kernel⟩
theorem ok_WE (T : Tx K mg) : Ok P w K mg base "without_each" 1 ["chosen"] spWE := by
  refine mkOk T.d_without_each sc_WE (fun _ _ _ _ _ _ us hl => match us, hl with | [_], _ => rfl) (fun vs H Q E h => by obtain ⟨a, k, rfl, _⟩ := h; rfl) (fun cdv A outer s H vs Q E f hr h => ?_)
  obtain ⟨a, k, rfl, hk, hz, q⟩ := h
  refine ⟨_, pss_one (ps_ret (pe_lc (own := [("at", 1)]) (g := gName 1) (tt := tYes) rfl sc_WE.nd (pi_range1 rfl T.f_range (pa_cons (pe_callB call_len_seq (by rfl) T.f_len PySem.boot_len (pa_cons (pv 0) pa_nil)) pa_nil))
    (blkOk_by (N := ["chosen", "at"]) (sc := defScope (top 15)) (by decide +kernel)) (fun _ _ _ _ _ => pg_name (i := 1) sc_WE.nd rfl (Or.inl rfl)) (fun _ _ _ _ _ => pts_nil)
    (fun _ _ _ _ _ => pe_op (op_cK K) (pe_slice (sl_tA K) (pv 0) po_none (po_some (pv 1))) (pe_slice (sl_tA K) (pv 0) (po_some (pe_op op_add (pv 1) pe_int)) po_none)))), ?_⟩
  have hl : (k.map V.int).length = k.length := List.length_map _
  refine ⟨.ref a, rfl, a, _, rfl, .inr (SqT.of hk), _, rfl, by rw [hl]; omega, by rw [hl]; omega, fun D hD => ?_⟩
  rw [hl, Int.toNat_natCast]
  refine lc_map (n := k.length) walk_rng RT (fun _ _ _ _ s r => r.go s) (fun i => k.take i ++ k.drop (i + 1)) hD (by omega) (fun _ _ => trivial) (fun i x H1 H2 Kk hi sm y hk1 => ?_) (fun H1 ys sm hy pr => ?_)
  · obtain ⟨rfl, rfl⟩ := y
    refine ⟨rfl, ?_⟩
    have ha : IT H1 a k := sm _ _ hk
    refine ⟨.ref a, rfl, .int i, rfl, (i : Int), rfl, ?_⟩
    refine sl_take ha hi fun p hp => ?_
    refine ⟨.ref a, rfl, .int i, rfl, i, 1, rfl, rfl, (i : Int) + 1, rfl, ?_⟩
    have e1 : (i : Int) + 1 = ((i + 1 : Nat) : Int) := by omega
    rw [e1]
    have s1 : Same H1 (upd H1 p (.tup ((k.take i).map V.int))) := same_new hp
    refine noPart (sl_drop (i := i + 1) (s1 _ _ ha) (Nat.succ_pos i) hi fun p2 hp2 => ?_)
    have s2 := same_new (o := .tup ((k.drop (i + 1)).map V.int)) hp2
    refine cat_it (k := k.take i) (k' := k.drop (i + 1)) (s2 _ _ upd_same) upd_same (by rw [List.length_take, List.length_drop]; omega) fun v H' s3 r => ?_
    exact hk1 _ _ ((s1.trans s2).trans s3) r
  · exact q H1 D sm hD ⟨ys, hy, pr⟩

/-! ### divides: all([least <= most for least, most in zip(one, other)]) -/
def spDiv : Sp := fun vs H Q _ => ∃ (a b : Addr) (u v : List Int), vs = [.ref a, .ref b] ∧ IT H a u ∧ IT H b v ∧ u.length = v.length ∧ u.length ≤ 1000 ∧ ∀ H', Same H H' → Q (.bl (dv u v)) H'
theorem sc_Div : FnScope ["one", "other", "least", "most"] ["one", "other"] (defScope (top 21)) := ⟨rfl, rfl, rfl, by decide +kernel, rfl, by decide +kernel, by decide +kernel⟩
theorem walk_zipT {a b : Addr} {xs ys : List V} (hn : xs.length = ys.length) : Walk (RZ.ItzT K a b) xs.length (fun H => SqT K H a xs ∧ SqT K H b ys) (YPair (fun i => xs[i]?) (fun i => ys[i]?)) := by
  refine ⟨fun i _ hi q => ?_, fun _ q => ⟨xs, ys, q.1, q.2, by omega⟩, fun i H v H' _ q y => ?_⟩
  · exact ⟨xs, ys, xs[i], ys[i], q.1, q.2, by simp [hi], by simp [hn ▸ hi]⟩
  · obtain ⟨T, x, z, h1, h2, h3, h4, h5⟩ := y
    exact ⟨T, x, z, h1, h2, h3, h4 xs q.1, h5 ys q.2⟩
/-- a value is this Bool -/
def RB (b : Bool) (v : V) (_ : Hp) : Prop := v = .bl b
theorem rb_list : ∀ {bs : List Bool} {ys : List V} {H : Hp}, Paired (fun b v => RB b v H) bs ys → ys = bs.map V.bl
  | _, _, _, .nil => rfl
  | _, _, _, .cons r t => by
    rw [List.map_cons, ← rb_list t]
    congr 1
theorem zip_range : ∀ (u v : List Int), u.length = v.length → (List.range u.length).filterMap (fun i => (u[i]?.bind fun x => v[i]?.map fun y => decide (x ≤ y))) = (u.zip v).map fun p => decide (p.1 ≤ p.2)
  | [], [], _ => rfl
  | [], _ :: _, h => by simp at h
  | _ :: _, [], h => by simp at h
  | x :: u, y :: v, h => by
    rw [List.length_cons, List.range_succ_eq_map, List.filterMap_cons, List.filterMap_map]
    have ih := zip_range u v (by simpa using h)
    simp only [List.getElem?_cons_zero, Option.bind_some, Option.map_some, List.zip_cons_cons, List.map_cons]
    rw [← ih]
    congr 1
theorem ok_Div (T : Tx K mg) : Ok P w K mg base "divides" 1 ["one", "other"] spDiv := by
  refine mkOk T.d_divides sc_Div (fun _ _ _ _ _ _ us hl => match us, hl with | [_, _], _ => rfl) (fun vs H Q E h => by obtain ⟨a, b, u, v, rfl, _⟩ := h; rfl) (fun cdv A outer s H vs Q E f hr h => ?_)
  obtain ⟨a, b, u, v, rfl, ha, hb, hl, hz, q⟩ := h
  refine ⟨_, pss_one (ps_ret (pe_callB (crAll K rfl) (by rfl) T.f_all (by decide +kernel) (pa_cons (pe_lc (own := [("least", 2), ("most", 3)]) (g := gTup K 2 (gCons (gName 2) (gCons (gName 3) gNil))) (tt := tYes) rfl sc_Div.nd
    (pi_zK K (by rfl) T.f_zip (pa_cons (pv 0) (pa_cons (pv 1) pa_nil))) (blkOk_by (N := ["one", "other", "least", "most"]) (sc := defScope (top 21)) (by decide +kernel))
    (fun _ _ _ _ _ => pg_tup rfl (pgs_cons (pg_name (i := 2) sc_Div.nd rfl (Or.inl rfl)) (pgs_cons (pg_name (i := 3) sc_Div.nd rfl (Or.inl rfl)) pgs_nil))) (fun _ _ _ _ _ => pts_nil)
    (fun _ _ _ _ _ => pe_cmpR op_le (pv 2) (pv 3) (nomark _))) pa_nil))), ?_⟩
  have hu : (u.map V.int).length = u.length := List.length_map _
  have hv : (v.map V.int).length = v.length := List.length_map _
  refine ⟨.ref a, rfl, .ref b, rfl, a, b, _, _, rfl, .inr ⟨SqT.of ha, SqT.of hb, fun D hD => ?_⟩⟩
  refine lc_made (n := (u.map V.int).length) (walk_zipT (K := K) (xs := u.map V.int) (ys := v.map V.int) (by rw [hu, hv, hl])) RB (fun _ _ _ _ _ r => r) (fun i => u[i]?.bind fun x => v[i]?.map fun y => decide (x ≤ y)) hD (by omega)
    (fun H1 s => ⟨SqT.of (s _ _ ha), SqT.of (s _ _ hb)⟩) (fun i x H1 H2 Kk N hi sm y hk1 _ => ?_) (fun H1 ys sm hy pr => ?_)
  · obtain ⟨T, x1, x2, rfl, nT, rfl, e1, e2⟩ := y
    have hi1 : i < u.length := by omega
    have hi2 : i < v.length := by omega
    obtain ⟨n1, h1, rfl⟩ := get_int (show (u.map V.int)[i]? = some x1 from e1)
    obtain ⟨n2, h2, rfl⟩ := get_int (show (v.map V.int)[i]? = some x2 from e2)
    refine ⟨T, _, rfl, SqT.of upd_same, rfl, _, _, rfl, _, _, rfl, rfl, ?_⟩
    refine ⟨rfl, yes (iteT ?_)⟩
    refine ⟨_, rfl, _, rfl, _, _, rfl, rfl, ?_⟩
    refine hk1 (decide (n1 ≤ n2)) _ _ ?_ (same_new nT) rfl
    rw [h1, h2]
    rfl
  · rw [hu, zip_range u v hl] at pr
    have e := rb_list pr
    subst e
    refine ⟨D, _, rfl, SqL.of hy, ?_⟩
    have e2 : ((u.zip v).map fun p => decide (p.1 ≤ p.2)).all id = dv u v := by
      unfold dv
      rw [List.all_map]
      rfl
    rw [e2]
    exact q H1 sm
end
end K41

/-! K41E1 -/
/-! Products of sets, in the program and in the law; sets within sets. -/
namespace K41
open PySem PySem.Spec PyProof.Rows L2
theorem in_ints (x : Int) : ∀ k : List Int, inV (.int x) (k.map V.int) = decide (x ∈ k)
  | [] => by simp [inV]
  | y :: k => by
    have ih := in_ints x k
    unfold inV at ih ⊢
    rw [List.map_cons, List.any_cons, ih]
    show ((y == x) || decide (x ∈ k)) = _
    by_cases e : y = x
    · subst e
      simp
    · have e2 : ¬ x = y := fun z => e z.symm
      have e3 : (y == x) = false := by simpa using e
      rw [e3, Bool.false_or]
      simp [e2]
theorem flat_ints (k : List Int) : (k.map V.int).all flatV = true := by
  rw [List.all_map, List.all_eq_true]
  intro x _
  rfl
/-- a value is this int -/
def RI (n : Int) (v : V) (_ : Hp) : Prop := v = .int n
theorem ri_list : ∀ {ns : List Int} {ys : List V} {H : Hp}, Paired (fun b v => RI b v H) ns ys → ys = ns.map V.int
  | _, _, _, .nil => rfl
  | _, _, _, .cons r t => by
    rw [List.map_cons, ← ri_list t]
    congr 1
section
variable {P : Program} {w : World} {K : PySem.W.Frag} {mg : Str → Option Value} {base : Heap}
def spProd : Sp := fun vs H Q _ => ∃ (n : Nat) (a : Addr) (k : List Int), vs = [.int n, .ref a] ∧ IT H a k ∧ n ≤ 1000 ∧ ∀ H' p, Same H H' → H p = none → IT H' p (prod n k) → Q (.ref p) H'
theorem sc_Prod : FnScope ["corners", "chosen", "corner"] ["corners", "chosen"] (defScope (top 66)) := ⟨rfl, rfl, rfl, by decide +kernel, rfl, by decide +kernel, by decide +kernel⟩
theorem ok_Prod (T : Tx K mg) : Ok P w K mg base "product_of_set" 1 ["corners", "chosen"] spProd := by
  refine mkOk T.d_product_of_set sc_Prod (fun _ _ _ _ _ _ us hl => match us, hl with | [_, _], _ => rfl) (fun vs H Q E h => by obtain ⟨n, a, k, rfl, _⟩ := h; rfl) (fun cdv A outer s H vs Q E f hr h => ?_)
  obtain ⟨n, a, k, rfl, hk, hn, q⟩ := h
  refine ⟨_, pss_one (ps_ret (pe_callTy (crTup K) (by rfl) T.f_tuple (by decide +kernel) (pa_cons (pe_lc (own := [("corner", 2)]) (g := gName 2) (tt := tYes) rfl sc_Prod.nd (pi_range1 rfl T.f_range (pa_cons (pv 0) pa_nil))
    (blkOk_by (N := ["corners", "chosen", "corner"]) (sc := defScope (top 66)) (by decide +kernel)) (fun _ _ _ _ _ => pg_name (i := 2) sc_Prod.nd rfl (Or.inl rfl)) (fun _ _ _ _ _ => pts_nil)
    (fun _ _ _ _ _ => pe_ifExp (pt_cmpR (op_inS K) (pv 2) (pv 1) rfl) pe_int pe_int)) pa_nil))), ?_⟩
  refine ⟨.int n, rfl, _, rfl, by omega, by omega, fun D hD => ?_⟩
  rw [Int.toNat_natCast]
  refine lc_map (n := n) walk_rng RI (fun _ _ _ _ _ r => r) (fun i => if (i : Int) ∈ k then 1 else 0) hD (by omega) (fun _ _ => trivial) (fun i x H1 H2 Kk hi sm y hk1 => ?_) (fun H1 ys sm hy pr => ?_)
  · obtain ⟨rfl, rfl⟩ := y
    refine ⟨rfl, .int i, rfl, .ref a, rfl, a, _, rfl, .inr (SqT.of (sm _ _ hk)), rfl, flat_ints k, _, rfl, ?_⟩
    simp only [Bool.false_eq_true, if_false, in_ints]
    by_cases h : (i : Int) ∈ k
    · rw [decide_eq_true h]
      refine iteT (hk1 _ _ (Same.refl _) ?_)
      show V.int 1 = V.int _
      rw [if_pos h]
    · rw [decide_eq_false h]
      refine iteF (hk1 _ _ (Same.refl _) ?_)
      show V.int 0 = V.int _
      rw [if_neg h]
  · have e := ri_list pr
    subst e
    refine ⟨D, _, rfl, .inl ⟨SqL.of hy, fun p hp => ?_⟩⟩
    exact q _ p (sm.trans (same_new hp)) (sm.free hp) upd_same
theorem sc_LProd : FnScope ["_law_size", "_law_one", "_law_corner"] ["_law_size", "_law_one"] (defScope (top 82)) := ⟨rfl, rfl, rfl, by decide +kernel, rfl, by decide +kernel, by decide +kernel⟩
theorem ok_LProd (T : Tx K mg) : Ok P w K mg base "_law_product" 1 ["_law_size", "_law_one"] spProd := by
  refine mkOk T.d_law_product sc_LProd (fun _ _ _ _ _ _ us hl => match us, hl with | [_, _], _ => rfl) (fun vs H Q E h => by obtain ⟨n, a, k, rfl, _⟩ := h; rfl) (fun cdv A outer s H vs Q E f hr h => ?_)
  obtain ⟨n, a, k, rfl, hk, hn, q⟩ := h
  refine ⟨_, pss_one (ps_ret (pe_callTy (crTup K) (by rfl) T.f_tuple (by decide +kernel) (pa_cons (pe_lc (own := [("_law_corner", 2)]) (g := gName 2) (tt := tYes) rfl sc_LProd.nd (pi_range1 rfl T.f_range (pa_cons (pv 0) pa_nil))
    (blkOk_by (N := ["_law_size", "_law_one", "_law_corner"]) (sc := defScope (top 82)) (by decide +kernel)) (fun _ _ _ _ _ => pg_name (i := 2) sc_LProd.nd rfl (Or.inl rfl)) (fun _ _ _ _ _ => pts_nil)
    (fun _ _ _ _ _ => pe_ifExp (pt_cmpR (op_inS K) (pv 2) (pv 1) rfl) pe_int pe_int)) pa_nil))), ?_⟩
  refine ⟨.int n, rfl, _, rfl, by omega, by omega, fun D hD => ?_⟩
  rw [Int.toNat_natCast]
  refine lc_map (n := n) walk_rng RI (fun _ _ _ _ _ r => r) (fun i => if (i : Int) ∈ k then 1 else 0) hD (by omega) (fun _ _ => trivial) (fun i x H1 H2 Kk hi sm y hk1 => ?_) (fun H1 ys sm hy pr => ?_)
  · obtain ⟨rfl, rfl⟩ := y
    refine ⟨rfl, .int i, rfl, .ref a, rfl, a, _, rfl, .inr (SqT.of (sm _ _ hk)), rfl, flat_ints k, _, rfl, ?_⟩
    simp only [Bool.false_eq_true, if_false, in_ints]
    by_cases h : (i : Int) ∈ k
    · rw [decide_eq_true h]
      refine iteT (hk1 _ _ (Same.refl _) ?_)
      show V.int 1 = V.int _
      rw [if_pos h]
    · rw [decide_eq_false h]
      refine iteF (hk1 _ _ (Same.refl _) ?_)
      show V.int 0 = V.int _
      rw [if_neg h]
  · have e := ri_list pr
    subst e
    refine ⟨D, _, rfl, .inl ⟨SqL.of hy, fun p hp => ?_⟩⟩
    exact q _ p (sm.trans (same_new hp)) (sm.free hp) upd_same
end
end K41

/-! K41E2 -/
/-! has_product, is_product_in, is_passed_member, are_long, is_without_squares. -/
namespace K41
open PySem PySem.Spec PyProof.Rows L2
theorem all_map_id {α : Type} (l : List α) (f : α → Bool) : (l.map f).all id = l.all f := by
  rw [List.all_map]
  rfl
theorem any_map_id {α : Type} (l : List α) (f : α → Bool) : (l.map f).any id = l.any f := by
  rw [List.any_map]
  rfl
section
variable {P : Program} {w : World} {K : PySem.W.Frag} {mg : Str → Option Value} {base : Heap}
/-! ### has_product -/
def spHas : Sp := fun vs H Q _ => ∃ (a b : Addr) (M : List (List Int)) (p : List Int), vs = [.ref a, .ref b] ∧ TL H a M ∧ IT H b p ∧ (∀ m ∈ M, m.length = p.length) ∧ p.length ≤ 1000 ∧ M.length ≤ 1000 ∧
  ∀ H', Same H H' → Q (.bl (M.any fun m => dv m p)) H'
theorem sc_Has : FnScope ["members", "product", "member"] ["members", "product"] (defScope (top 47)) := ⟨rfl, rfl, rfl, by decide +kernel, rfl, by decide +kernel, by decide +kernel⟩
theorem ok_Has (T : Tx K mg) : Ok P w K mg base "has_product" 2 ["members", "product"] spHas := by
  refine mkOk T.d_has_product sc_Has (fun _ _ _ _ _ _ us hl => match us, hl with | [_, _], _ => rfl) (fun vs H Q E h => by obtain ⟨a, b, M, p, rfl, _⟩ := h; rfl) (fun cdv A outer s H vs Q E f hr h => ?_)
  obtain ⟨a, b, M, p, rfl, ⟨ws, hM, pr⟩, hp, hl, hz, hz2, q⟩ := h
  refine ⟨_, pss_one (ps_ret (pe_callB (crAny K rfl) (by rfl) T.f_any (by decide +kernel) (pa_cons (pe_lc (own := [("member", 2)]) (g := gName 2) (tt := tYes) rfl sc_Has.nd (pi_tK K (pv 0))
    (blkOk_by (N := ["members", "product", "member"]) (sc := defScope (top 47)) (by decide +kernel)) (fun _ _ _ _ _ => pg_name (i := 2) sc_Has.nd rfl (Or.inl rfl)) (fun _ _ _ _ _ => pts_nil)
    (fun _ _ _ _ _ => pcall (ok_Div T) hr (pa_cons (pv 2) (pa_cons (pv 1) pa_nil)))) pa_nil))), ?_⟩
  refine ⟨.ref a, rfl, a, rfl, ⟨ws, SqT.of hM⟩, fun D hD => ?_⟩
  refine lc_fromM (xs := ws) (ks := M) RT RB (fun _ _ _ _ _ r => r) (fun m => dv m p) walk_tup (fun H1 s => SqT.of (s _ _ hM)) pr hD (by omega) (fun k0 x H1 Kk hk sm r hk1 => ?_) (fun H1 ys sm hy pr2 => ?_)
  · obtain ⟨c, rfl, hc⟩ := r
    refine ⟨rfl, .ref c, rfl, .ref b, rfl, c, b, k0, p, rfl, sm _ _ hc, sm _ _ hp, hl k0 hk, by rw [hl k0 hk]; exact hz, fun H2 s2 => hk1 _ _ s2 rfl⟩
  · have e := rb_list pr2
    subst e
    refine ⟨D, _, rfl, SqL.of hy, ?_⟩
    rw [any_map_id]
    exact q _ sm
/-! ### is_product_in, is_passed_member -/
/-- all numbers within 0 and some bound -/
def inB (b : Int) (k : List Int) : Bool := k.all fun x => decide (0 ≤ x ∧ x ≤ b)
def spIn (b : Int) : Sp := fun vs H Q _ => ∃ (a : Addr) (k : List Int), vs = [.int k.length, .ref a] ∧ IT H a k ∧ k.length ≤ 1000 ∧ ∀ H', Same H H' → Q (.bl (inB b k)) H'
theorem sc_In : FnScope ["letters", "value", "exponent"] ["letters", "value"] (defScope (top 20)) := ⟨rfl, rfl, rfl, by decide +kernel, rfl, by decide +kernel, by decide +kernel⟩
theorem ok_In (T : Tx K mg) : Ok P w K mg base "is_product_in" 3 ["letters", "value"] (spIn 60) := by
  refine mkOk T.d_is_product_in sc_In (fun _ _ _ _ _ _ us hl => match us, hl with | [_, _], _ => rfl) (fun vs H Q E h => by obtain ⟨a, k, rfl, _⟩ := h; rfl) (fun cdv A outer s H vs Q E f hr h => ?_)
  obtain ⟨a, k, rfl, hk, hz, q⟩ := h
  obtain ⟨t, hc⟩ := T.c_MAX_EXPONENT
  refine ⟨_, pss_cons (ps_if (PW.pt (pw_or (pt_not (pt_val (pe_callB (crIsi K) (by rfl) T.f_isinstance (by decide +kernel) (pa_cons (pv 1) (pa_cons (pe_bltn (v := .ty "tuple") (by rfl) T.f_tuple (by decide +kernel) rfl) pa_nil)))))
      (pw_or1 (pt_cmpR op_ne (pe_callB (crLen K) (by rfl) T.f_len PySem.boot_len (pa_cons (pv 1) pa_nil)) (pv 0) (nomark _))))) (pss_one (ps_ret pe_bl)) pss_nil)
    (pss_one (ps_ret (pe_callB (crAll K rfl) (by rfl) T.f_all (by decide +kernel) (pa_cons (pe_lc (own := [("exponent", 2)]) (g := gName 2) (tt := tYes) rfl sc_In.nd (pi_tK K (pv 1))
    (blkOk_by (N := ["letters", "value", "exponent"]) (sc := defScope (top 20)) (by decide +kernel)) (fun _ _ _ _ _ => pg_name (i := 2) sc_In.nd rfl (Or.inl rfl)) (fun _ _ _ _ _ => pts_nil)
    (fun _ _ _ _ _ => pcall (ok_within T) hr (pa_cons (pv 2) (pa_cons pe_int (pa_cons (pe_glob (v := .int 60) (by rfl) hc ⟨_, rfl⟩) pa_nil))))) pa_nil)))), ?_⟩
  have hl : (k.map V.int).length = k.length := List.length_map _
  refine ⟨_, rfl, .ref a, .ty "tuple", .type "tuple", .type "tuple", true, rfl, .ty _, .base (.tup hk), kit_ty (by decide +kernel), true, rfl, iteF ?_⟩
  refine ⟨.ref a, rfl, a, _, rfl, .inr (SqT.of hk), _, rfl, rfl, _, rfl, ?_⟩
  rw [hl, decide_eq_true rfl]
  refine iteF ?_
  refine ⟨.ref a, rfl, a, rfl, ⟨_, SqT.of hk⟩, fun D hD => ?_⟩
  refine lc_map (n := (k.map V.int).length) (walk_tup (xs := k.map V.int)) RB (fun _ _ _ _ _ r => r) (fun i => decide (0 ≤ k.getD i 0 ∧ k.getD i 0 ≤ 60)) hD (by omega) (fun H1 s => SqT.of (s _ _ hk)) (fun i x H1 H2 Kk hi sm y hk1 => ?_) (fun H1 ys sm hy pr => ?_)
  · obtain ⟨rfl, hx⟩ := y
    obtain ⟨n, hn, rfl⟩ := get_int hx
    have e : k.getD i 0 = n := by rw [List.getD_eq_getElem?_getD, hn]; rfl
    refine ⟨rfl, .int n, rfl, n, 0, 60, rfl, hk1 _ _ (Same.refl _) ?_⟩
    show V.bl _ = V.bl _
    rw [e]
  · have e := rb_list pr
    subst e
    refine ⟨D, _, rfl, SqL.of hy, ?_⟩
    have e2 : ((List.range (k.map V.int).length).map fun i => decide (0 ≤ k.getD i 0 ∧ k.getD i 0 ≤ 60)).all id = inB 60 k := by
      rw [all_map_id, hl]
      unfold inB
      rw [Bool.eq_iff_iff, List.all_eq_true, List.all_eq_true]
      constructor
      · intro h x hx
        obtain ⟨i, hi⟩ := List.getElem?_of_mem hx
        have hi2 := (List.getElem?_eq_some_iff.mp hi).1
        have q := h i (List.mem_range.mpr hi2)
        rw [List.getD_eq_getElem?_getD, hi] at q
        exact q
      · intro h i hi
        have hi2 : i < k.length := List.mem_range.mp hi
        have q := h k[i] (List.getElem_mem hi2)
        rw [List.getD_eq_getElem?_getD, List.getElem?_eq_getElem hi2]
        exact q
    rw [e2]
    exact q _ sm
end
end K41

/-! K41E3 -/
/-! is_passed_member, are_long, is_without_squares, is_set_on. -/
namespace K41
open PySem PySem.Spec PyProof.Rows L2
theorem ri_pair (H : Hp) : ∀ k : List Int, Paired (fun n v => RI n v H) k (k.map V.int)
  | [] => .nil
  | x :: k => .cons rfl (ri_pair H k)
theorem walk_zipM {K : PySem.W.Frag} {a b : Addr} {xs ys : List V} {n : Nat} (hn : n = min xs.length ys.length) : Walk (RZ.ItzT K a b) n (fun H => SqT K H a xs ∧ SqT K H b ys) (YPair (fun i => xs[i]?) (fun i => ys[i]?)) := by
  subst hn
  refine ⟨fun i _ hi q => ?_, fun _ q => ⟨xs, ys, q.1, q.2, by omega⟩, fun i H v H' _ q y => ?_⟩
  · have h1 : i < xs.length := by omega
    have h2 : i < ys.length := by omega
    exact ⟨xs, ys, xs[i], ys[i], q.1, q.2, by simp [h1], by simp [h2]⟩
  · obtain ⟨T, x, z, h1, h2, h3, h4, h5⟩ := y
    exact ⟨T, x, z, h1, h2, h3, h4 xs q.1, h5 ys q.2⟩
section
variable {P : Program} {w : World} {K : PySem.W.Frag} {mg : Str → Option Value} {base : Heap}
theorem sc_Pass : FnScope ["letters", "value", "exponent"] ["letters", "value"] (defScope (top 43)) := ⟨rfl, rfl, rfl, by decide +kernel, rfl, by decide +kernel, by decide +kernel⟩
theorem ok_Pass (T : Tx K mg) : Ok P w K mg base "is_passed_member" 3 ["letters", "value"] (spIn 8) := by
  refine mkOk T.d_is_passed_member sc_Pass (fun _ _ _ _ _ _ us hl => match us, hl with | [_, _], _ => rfl) (fun vs H Q E h => by obtain ⟨a, k, rfl, _⟩ := h; rfl) (fun cdv A outer s H vs Q E f hr h => ?_)
  obtain ⟨a, k, rfl, hk, hz, q⟩ := h
  obtain ⟨t, hc⟩ := T.c_MAX_MEMBER_EXPONENT
  refine ⟨_, pss_cons (ps_if (PW.pt (pw_or (pt_not (pt_val (pe_callB (crIsi K) (by rfl) T.f_isinstance (by decide +kernel) (pa_cons (pv 1) (pa_cons (pe_bltn (v := .ty "tuple") (by rfl) T.f_tuple (by decide +kernel) rfl) pa_nil)))))
      (pw_or1 (pt_cmpR op_ne (pe_callB (crLen K) (by rfl) T.f_len PySem.boot_len (pa_cons (pv 1) pa_nil)) (pv 0) (nomark _))))) (pss_one (ps_ret pe_bl)) pss_nil)
    (pss_one (ps_ret (pe_callB (crAll K rfl) (by rfl) T.f_all (by decide +kernel) (pa_cons (pe_lc (own := [("exponent", 2)]) (g := gName 2) (tt := tYes) rfl sc_Pass.nd (pi_tK K (pv 1))
    (blkOk_by (N := ["letters", "value", "exponent"]) (sc := defScope (top 43)) (by decide +kernel)) (fun _ _ _ _ _ => pg_name (i := 2) sc_Pass.nd rfl (Or.inl rfl)) (fun _ _ _ _ _ => pts_nil)
    (fun _ _ _ _ _ => pcall (ok_within T) hr (pa_cons (pv 2) (pa_cons pe_int (pa_cons (pe_glob (v := .int 8) (by rfl) hc ⟨_, rfl⟩) pa_nil))))) pa_nil)))), ?_⟩
  have hl : (k.map V.int).length = k.length := List.length_map _
  refine ⟨_, rfl, .ref a, .ty "tuple", .type "tuple", .type "tuple", true, rfl, .ty _, .base (.tup hk), kit_ty (by decide +kernel), true, rfl, iteF ?_⟩
  refine ⟨.ref a, rfl, a, _, rfl, .inr (SqT.of hk), _, rfl, rfl, _, rfl, ?_⟩
  rw [hl, decide_eq_true rfl]
  refine iteF ?_
  refine ⟨.ref a, rfl, a, rfl, ⟨_, SqT.of hk⟩, fun D hD => ?_⟩
  refine lc_fromM (xs := k.map V.int) (ks := k) RI RB (fun _ _ _ _ _ r => r) (fun x => decide (0 ≤ x ∧ x ≤ 8)) walk_tup (fun H1 s => SqT.of (s _ _ hk)) (ri_pair H k) hD (by omega) (fun n x H1 Kk hk0 sm r hk1 => ?_) (fun H1 ys sm hy pr => ?_)
  · obtain rfl : x = .int n := r
    exact ⟨rfl, .int n, rfl, n, 0, 8, rfl, hk1 _ _ (Same.refl _) rfl⟩
  · have e := rb_list pr
    subst e
    refine ⟨D, _, rfl, SqL.of hy, ?_⟩
    rw [all_map_id]
    exact q _ sm
/-! ### are_long: none is -/
def spLong : Sp := fun vs H Q _ => ∃ (a : Addr) (ks : List (List Int)), vs = [.ref a] ∧ LL H a ks ∧ ks.length ≤ 1000 ∧ (∀ k ∈ ks, 0 < k.length ∧ ∀ x ∈ k, x ≤ 60) ∧ ∀ H', Same H H' → Q (.bl false) H'
theorem sc_Long : FnScope ["products", "product"] ["products"] (defScope (top 32)) := ⟨rfl, rfl, rfl, by decide +kernel, rfl, by decide +kernel, by decide +kernel⟩
theorem ok_Long (T : Tx K mg) : Ok P w K mg base "are_long" 1 ["products"] spLong := by
  refine mkOk T.d_are_long sc_Long (fun _ _ _ _ _ _ us hl => match us, hl with | [_], _ => rfl) (fun vs H Q E h => by obtain ⟨a, k, rfl, _⟩ := h; rfl) (fun cdv A outer s H vs Q E f hr h => ?_)
  obtain ⟨a, ks, rfl, ⟨ws, hL, pr⟩, hz, hin, q⟩ := h
  obtain ⟨t, hc⟩ := T.c_MAX_EXPONENT
  refine ⟨_, pss_one (ps_ret (pe_callB (crAny K rfl) (by rfl) T.f_any (by decide +kernel) (pa_cons (pe_lc (own := [("product", 1)]) (g := gName 1) (tt := tYes) rfl sc_Long.nd (pi_lK K (pv 0))
    (blkOk_by (N := ["products", "product"]) (sc := defScope (top 32)) (by decide +kernel)) (fun _ _ _ _ _ => pg_name (i := 1) sc_Long.nd rfl (Or.inl rfl)) (fun _ _ _ _ _ => pts_nil)
    (fun _ _ _ _ _ => pe_cmpR op_gt (pe_callB (crMaxT K rfl) (by rfl) T.f_max (by decide +kernel) (pa_cons (pv 1) pa_nil)) (pe_glob (v := .int 60) (by rfl) hc ⟨_, rfl⟩) (nomark _))) pa_nil))), ?_⟩
  refine ⟨.ref a, rfl, a, rfl, ⟨ws, SqL.of hL⟩, fun D hD => ?_⟩
  refine lc_fromM (xs := ws) (ks := ks) RT RB (fun _ _ _ _ _ r => r) (fun _ => false) walk_list (fun H1 s => SqL.of (s _ _ hL)) pr hD (by omega) (fun k0 x H1 Kk hk sm r hk1 => ?_) (fun H1 ys sm hy pr2 => ?_)
  · obtain ⟨c, rfl, hc0⟩ := r
    refine ⟨rfl, .ref c, rfl, c, k0, rfl, SqT.of (sm _ _ hc0), (hin k0 hk).1, fun m hm _ => ?_⟩
    refine ⟨m, 60, rfl, rfl, hk1 _ _ (Same.refl _) ?_⟩
    show V.bl _ = V.bl _
    rw [decide_eq_false (by have := (hin k0 hk).2 m hm; omega)]
  · have e := rb_list pr2
    subst e
    refine ⟨D, _, rfl, SqL.of hy, ?_⟩
    have e2 : (ks.map fun _ => false).any id = false := by
      rw [any_map_id, List.any_eq_false]
      intro x _ h
      cases h
    rw [e2]
    exact q _ sm
/-! ### is_without_squares -/
def noSq (M : List (List Int)) : Bool := M.all fun m => m.all fun x => decide (x < 2)
def spSq : Sp := fun vs H Q _ => ∃ (a : Addr) (M : List (List Int)), vs = [.ref a] ∧ TL H a M ∧ M.length ≤ 100 ∧ (∀ m ∈ M, m.length ≤ 100) ∧ ∀ H', Same H H' → Q (.bl (noSq M)) H'
theorem sc_Sq : FnScope ["members", "member", "exponent"] ["members"] (defScope (top 64)) := ⟨rfl, rfl, rfl, by decide +kernel, rfl, by decide +kernel, by decide +kernel⟩
def lessV (m : List Int) : List V := m.map fun x => V.bl (decide (x < 2))
theorem lessV_len (M : List (List Int)) (h : ∀ m ∈ M, m.length ≤ 100) : (M.flatMap lessV).length ≤ 100 * M.length := by
  induction M with
  | nil => simp
  | cons a M ih =>
    rw [List.flatMap_cons, List.length_append, List.length_cons]
    have h1 : (lessV a).length ≤ 100 := by
      unfold lessV
      rw [List.length_map]
      exact h a List.mem_cons_self
    have h2 := ih fun m hm => h m (List.mem_cons_of_mem _ hm)
    omega
theorem ok_Sq (T : Tx K mg) : Ok P w K mg base "is_without_squares" 1 ["members"] spSq := by
  refine mkOk T.d_is_without_squares sc_Sq (fun _ _ _ _ _ _ us hl => match us, hl with | [_], _ => rfl) (fun vs H Q E h => by obtain ⟨a, k, rfl, _⟩ := h; rfl) (fun cdv A outer s H vs Q E f hr h => ?_)
  obtain ⟨a, M, rfl, ⟨ws, hM, pr⟩, hz, hl, q⟩ := h
  refine ⟨_, pss_one (ps_ret (pe_callB (crAll K rfl) (by rfl) T.f_all (by decide +kernel) (pa_cons (pe_lc2 (own := [("member", 1), ("exponent", 2)]) (vs1 := [2]) (g := gName 1) (tt := tYes) (g1 := gName 2) (tt1 := tYes) rfl sc_Sq.nd (pi_tK K (pv 0))
    (blkOk_by (N := ["members", "member", "exponent"]) (sc := defScope (top 64)) (by decide +kernel)) (by decide) (fun _ _ _ _ _ => pg_name (i := 1) sc_Sq.nd rfl (Or.inl rfl)) (fun _ _ _ _ _ => pts_nil)
    (fun _ _ _ _ _ => pi_tK K (pv 1)) (fun _ _ _ _ _ => pg_name (i := 2) sc_Sq.nd rfl (Or.inl rfl)) (fun _ _ _ _ _ => pts_nil)
    (fun _ _ _ _ _ => pe_cmpR op_lt (pv 2) pe_int (nomark _))) pa_nil))), ?_⟩
  refine ⟨.ref a, rfl, a, rfl, ⟨ws, SqT.of hM⟩, fun D hD => ?_⟩
  have hw : M.length = ws.length := Paired.length pr
  have hlen := lessV_len M hl
  have tkle : ∀ i, ((M.take i).flatMap lessV).length ≤ 100 * 100 := fun i => by
    have h1 := lessV_len (M.take i) fun m hm => hl m (List.mem_of_mem_take hm)
    have h2 : (M.take i).length ≤ M.length := by
      rw [List.length_take]
      omega
    omega
  refine ⟨fun i m H1 => m = M.length - i ∧ i ≤ M.length ∧ Same H H1 ∧ H1 D = some (.lst ((M.take i).flatMap lessV)), ⟨M.length, by omega, by omega, same_new hD, upd_same⟩, fun i m H1 hW => ?_⟩
  obtain ⟨rfl, hi, sm, hy⟩ := hW
  by_cases hlt : i < M.length
  · refine .inr ⟨⟨ws, ws[i]'(by omega), SqT.of (sm _ _ hM), List.getElem?_eq_getElem (by omega)⟩, fun H2 => Same H H2 ∧ H2 D = some (.lst ((M.take (i + 1)).flatMap lessV)), fun H2 h2 => ⟨M.length - (i + 1), by omega, rfl, hlt, h2⟩, fun x H2 yl => ?_⟩
    obtain ⟨rfl, fx⟩ := yl
    obtain ⟨k0, e0, c, rfl, hc⟩ := pr_get pr (fx ws (SqT.of (sm _ _ hM)))
    have hc1 : IT H2 c k0 := sm _ _ hc
    have hk0 : k0.length ≤ 100 := hl k0 (List.mem_of_getElem? e0)
    have enext : (M.take (i + 1)).flatMap lessV = (M.take i).flatMap lessV ++ lessV k0 := by
      rw [List.take_add_one, e0, List.flatMap_append]
      simp
    refine ⟨rfl, yes (iteT ?_)⟩
    refine ⟨.ref c, rfl, c, rfl, ⟨_, SqT.of hc1⟩, fun j k H3 => k = k0.length - j ∧ j ≤ k0.length ∧ Same H H3 ∧ H3 D = some (.lst ((M.take i).flatMap lessV ++ (lessV k0).take j)), ⟨k0.length, by omega, by omega, sm, by rw [List.take_zero, List.append_nil]; exact hy⟩, fun j k H3 hW1 => ?_⟩
    obtain ⟨rfl, hj, sm3, hy3⟩ := hW1
    have hlv : (lessV k0).length = k0.length := by unfold lessV; rw [List.length_map]
    by_cases hjt : j < k0.length
    · refine .inr ⟨⟨k0.map V.int, .int k0[j], SqT.of (sm3 _ _ hc), by rw [List.getElem?_map, List.getElem?_eq_getElem hjt]; rfl⟩, fun H4 => Same H H4 ∧ H4 D = some (.lst ((M.take i).flatMap lessV ++ (lessV k0).take (j + 1))), fun H4 h4 => ⟨k0.length - (j + 1), by omega, rfl, hjt, h4⟩, fun x H4 yl => ?_⟩
      obtain ⟨rfl, fx2⟩ := yl
      obtain ⟨n, en, rfl⟩ := get_int (fx2 _ (SqT.of (sm3 _ _ hc)))
      refine ⟨rfl, yes (iteT ?_)⟩
      have tk := tkle i
      refine ⟨.int n, rfl, n, 2, rfl, rfl, _, hy3, big (by rw [List.length_append, List.length_take]; omega), same_mut sm3 hD, ?_⟩
      have e2 : (lessV k0)[j]? = some (V.bl (decide (n < 2))) := by
        unfold lessV
        rw [List.getElem?_map, en]
        rfl
      rw [upd_same, List.append_assoc, List.take_add_one, e2]
      rfl
    · have ej : j = k0.length := by omega
      refine .inl ⟨⟨_, SqT.of (sm3 _ _ hc), by rw [List.length_map]; omega⟩, sm3, ?_⟩
      rw [hy3, enext, List.take_of_length_le (l := lessV k0) (show (lessV k0).length ≤ j by omega)]
  · have ei : i = M.length := by omega
    refine .inl ⟨⟨ws, SqT.of (sm _ _ hM), by omega⟩, D, (M.flatMap fun m => m.map fun x => decide (x < 2)), rfl, SqL.of ?_, ?_⟩
    · rw [hy, ei, List.take_length]
      congr 2
      rw [List.map_flatMap]
      congr 1
      funext m
      unfold lessV
      rw [List.map_map]
      rfl
    · have e2 : (M.flatMap fun m => m.map fun x => decide (x < 2)).all id = noSq M := by
        unfold noSq
        rw [List.all_flatMap]
        congr 1
        funext m
        exact all_map_id m _
      rw [e2]
      exact q _ sm
/-! ### is_set_on -/
def spOn : Sp := fun vs H Q _ => ∃ (n : Nat) (a : Addr) (k : List Int), vs = [.int n, .ref a] ∧ IT H a k ∧ On n k ∧ k.length ≤ 1000 ∧ ∀ H', Same H H' → Q (.bl true) H'
theorem sc_On : FnScope ["corners", "value", "corner", "one", "other"] ["corners", "value"] (defScope (top 54)) := ⟨rfl, rfl, rfl, by decide +kernel, rfl, by decide +kernel, by decide +kernel⟩
theorem all_true : ∀ (l : List Bool), (∀ b ∈ l, b = true) → l.all id = true := fun l h => List.all_eq_true.mpr fun b hb => h b hb
theorem ok_On (T : Tx K mg) : Ok P w K mg base "is_set_on" 3 ["corners", "value"] spOn := by
  refine mkOk T.d_is_set_on sc_On (fun _ _ _ _ _ _ us hl => match us, hl with | [_, _], _ => rfl) (fun vs H Q E h => by obtain ⟨n, a, k, rfl, _⟩ := h; rfl) (fun cdv A outer s H vs Q E f hr h => ?_)
  obtain ⟨n, a, k, rfl, hk, ho, hz, q⟩ := h
  refine ⟨_, pss_cons (ps_if (PW.pt (pw_or (pt_not (pt_val (pe_callB (crIsi K) (by rfl) T.f_isinstance (by decide +kernel) (pa_cons (pv 1) (pa_cons (pe_bltn (v := .ty "tuple") (by rfl) T.f_tuple (by decide +kernel) rfl) pa_nil)))))
      (pw_or1 (pt_not (pt_val (pe_callB (crAll K rfl) (by rfl) T.f_all (by decide +kernel) (pa_cons (pe_lc (own := [("corner", 2)]) (g := gName 2) (tt := tYes) rfl sc_On.nd (pi_tK K (pv 1))
        (blkOk_by (N := ["corners", "value", "corner", "one", "other"]) (sc := defScope (top 54)) (by decide +kernel)) (fun _ _ _ _ _ => pg_name (i := 2) sc_On.nd rfl (Or.inl rfl)) (fun _ _ _ _ _ => pts_nil)
        (fun _ _ _ _ _ => pcall (ok_within T) hr (pa_cons (pv 2) (pa_cons pe_int (pa_cons (pe_op op_sub (pv 0) pe_int) pa_nil))))) pa_nil))))))) (pss_one (ps_ret pe_bl)) pss_nil)
    (pss_one (ps_ret (pe_callB (crAll K rfl) (by rfl) T.f_all (by decide +kernel) (pa_cons (pe_lc (own := [("one", 3), ("other", 4)]) (g := gTup K 2 (gCons (gName 3) (gCons (gName 4) gNil))) (tt := tYes) rfl sc_On.nd
      (pi_zK K (by rfl) T.f_zip (pa_cons (pv 1) (pa_cons (pe_slice (sl_tA K) (pv 1) (po_some pe_int) po_none) pa_nil)))
    (blkOk_by (N := ["corners", "value", "corner", "one", "other"]) (sc := defScope (top 54)) (by decide +kernel)) (fun _ _ _ _ _ => pg_tup rfl (pgs_cons (pg_name (i := 3) sc_On.nd rfl (Or.inl rfl)) (pgs_cons (pg_name (i := 4) sc_On.nd rfl (Or.inl rfl)) pgs_nil))) (fun _ _ _ _ _ => pts_nil)
    (fun _ _ _ _ _ => pe_cmpR op_lt (pv 3) (pv 4) (nomark _))) pa_nil)))), ?_⟩
  have hl : (k.map V.int).length = k.length := List.length_map _
  refine ⟨_, rfl, .ref a, .ty "tuple", .type "tuple", .type "tuple", true, rfl, .ty _, .base (.tup hk), kit_ty (by decide +kernel), true, rfl, iteF ?_⟩
  refine ⟨.ref a, rfl, a, rfl, ⟨_, SqT.of hk⟩, fun D hD => ?_⟩
  refine lc_fromM (xs := k.map V.int) (ks := k) RI RB (fun _ _ _ _ _ r => r) (fun _ => true) walk_tup (fun H1 s => SqT.of (s _ _ hk)) (ri_pair H k) hD (by omega) (fun m x H1 Kk hk0 sm r hk1 => ?_) (fun H1 ys sm hy pr => ?_)
  · obtain rfl : x = .int m := r
    have h1 := ho.2 m hk0
    refine ⟨rfl, .int m, rfl, .int n, rfl, n, 1, rfl, rfl, m, 0, (n : Int) - 1, rfl, ?_⟩
    rw [decide_eq_true (by omega)]
    exact hk1 _ _ (Same.refl _) rfl
  · have e := rb_list pr
    subst e
    refine ⟨D, _, rfl, SqL.of hy, ?_⟩
    rw [all_true _ (fun b hb => by obtain ⟨_, _, e⟩ := List.mem_map.mp hb; exact e.symm)]
    refine ⟨true, rfl, iteF ?_⟩
    have hk1 : IT H1 a k := sm _ _ hk
    -- the zip with what is behind the first
    have go : ∀ (b : Addr) (H2 : Hp), Same H H2 → IT H2 a k → IT H2 b (k.drop 1) → ∀ D2, H2 D2 = none → ∀ (g : TG) (te : TE) (vs : List Nat) (σ : L2.St), (g = gTup K 2 (gCons (gName 3) (gCons (gName 4) gNil))) →
        (te = tOp (rI0 fun i j => .bl (decide (i < j))) (tVar 3) (tVar 4)) → vs = [3, 4] → (∃ v0 v1 v2 v3 v4, σ = [v0, v1, v2, v3, v4]) →
        ∃ W : Nat → Nat → Hp → Prop, (∃ m, W 0 m (upd H2 D2 (.lst []))) ∧ ∀ i m H, W i m H →
      ((RZ.ItzT K a b).stop i H ∧ (∃ (c : Addr) (bs : List Bool), [V.ref D2] = [V.ref c] ∧ SqL K H c (bs.map V.bl) ∧ Q (.bl (bs.all id)) H)) ∨ ((RZ.ItzT K a b).go i H ∧ ∃ Nx : Hp → Prop, (∀ H', Nx H' → ∃ m', m' < m ∧ W (i + 1) m' H') ∧ ∀ x H', (RZ.ItzT K a b).yld i H x H' → g x (wipe σ vs) H' fun σ2 H2 => wipe σ2 vs = wipe σ vs ∧ tYes σ2 H2 fun b H3 =>
        if b = true then te σ2 H3 fun y H4 => ∃ acc, H4 D2 = some (.lst acc) ∧ acc.length < sizeLine ∧ Nx (upd H4 D2 (.lst (acc ++ [y]))) else Nx H3) := by
      intro b H2 s2 ha hb D2 hD2 g te vs σ hg hte hvs ⟨v0, v1, v2, v3, v4, hσ⟩
      subst hg hte hvs hσ
      refine lc_map (n := min (k.map V.int).length ((k.drop 1).map V.int).length) (walk_zipM (xs := k.map V.int) (ys := (k.drop 1).map V.int) rfl) RB (fun _ _ _ _ _ r => r) (fun _ => true) hD2 (by omega) (fun H3 s3 => ⟨SqT.of (s3 _ _ ha), SqT.of (s3 _ _ hb)⟩) (fun i x H3 H4 Kk hi sm3 y hk1 => ?_) (fun H3 ys sm3 hy3 pr3 => ?_)
      · obtain ⟨T2, x1, x2, rfl, nT, rfl, e1, e2⟩ := y
        obtain ⟨n1, h1, rfl⟩ := get_int (show (k.map V.int)[i]? = some x1 from e1)
        obtain ⟨n2, h2, rfl⟩ := get_int (show ((k.drop 1).map V.int)[i]? = some x2 from e2)
        refine ⟨T2, _, rfl, SqT.of upd_same, rfl, _, _, rfl, _, _, rfl, rfl, rfl, ?_⟩
        refine ⟨_, rfl, _, rfl, n1, n2, rfl, rfl, hk1 _ _ (same_new nT) ?_⟩
        rw [List.getElem?_drop, Nat.add_comm 1 i] at h2
        obtain ⟨l1, g1⟩ := List.getElem?_eq_some_iff.mp h1
        obtain ⟨l2, g2⟩ := List.getElem?_eq_some_iff.mp h2
        have lt := List.pairwise_iff_getElem.mp ho.1 i (i + 1) l1 l2 (Nat.lt_succ_self i)
        show V.bl _ = V.bl true
        rw [decide_eq_true (by rw [g1, g2] at lt; exact lt)]
      · have e := rb_list pr3
        subst e
        refine ⟨D2, _, rfl, SqL.of hy3, ?_⟩
        rw [all_true _ (fun b hb => by obtain ⟨_, _, e⟩ := List.mem_map.mp hb; exact e.symm)]
        exact q _ (s2.trans sm3)
    refine ⟨.ref a, rfl, .ref a, rfl, 1, rfl, noPart ?_⟩
    cases k with
    | nil =>
      refine ⟨a, _, rfl, SqT.of hk1, fun _ => ?_, fun z => absurd ⟨by rfl, by rfl⟩ z⟩
      exact ⟨a, a, _, _, rfl, .inr ⟨SqT.of hk1, SqT.of hk1, fun D2 hD2 => go a H1 sm hk1 hk1 D2 hD2 _ _ _ _ rfl rfl rfl ⟨_, _, _, _, _, rfl⟩⟩⟩
    | cons x r =>
      refine sl_drop (i := 1) hk1 (by decide) (by simp) fun p hp => ?_
      have s1 := same_new (o := .tup (((x :: r).drop 1).map V.int)) hp
      exact ⟨a, p, _, _, rfl, .inr ⟨SqT.of (s1 _ _ hk1), SqT.of upd_same, fun D2 hD2 => go p _ (sm.trans s1) (s1 _ _ hk1) upd_same D2 hD2 _ _ _ _ rfl rfl rfl ⟨_, _, _, _, _, rfl⟩⟩⟩
end
end K41

/-! K41F1 -/
/-! by_size, all_sets. -/
namespace K41
open PySem PySem.Spec PyProof.Rows L2
theorem u8 {a c : Nat} (h : a + 64 < c) : a + 8 < c := by omega
theorem u1 {a c : Nat} (h : a + 64 < c) : a + 1 < c := by omega
section
variable {X : Cx} {e : Expr} {p : Pos} {es : List Expr} {te : TE} {t : TA}
theorem pa_starK (K : PySem.W.Frag) (he : PE X e te) (hr : PA X es t) (hK : X.K = K := by rfl) (hs : starEach (.Starred e p :: es) X.env = (true, eval e X.env) :: starEach es X.env := by rfl) : PA X (.Starred e p :: es) (StX.tStar K te t) := by
  subst hK
  exact StX.pa_star he hr hs
end
theorem rts_app {k k' : List (List Int)} {v v' : List V} {H : Hp} (h : RTs k v H) (h' : RTs k' v' H) : RTs (k ++ k') (v ++ v') H := pr_app h h'
section
variable {P : Program} {w : World} {K : PySem.W.Frag} {mg : Str → Option Value} {base : Heap}
/-! ### by_size -/
def spBS : Sp := fun vs H Q _ => ∃ (a : Addr) (ks : List (List Int)), vs = [.ref a] ∧ LL H a ks ∧ ks.length ≤ 1000 ∧ ∀ H' p ks', Same H H' → H p = none → ks'.Perm ks → LL H' p ks' → Q (.ref p) H'
theorem sc_BS : FnScope ["sets"] ["sets"] (defScope (top 56)) := ⟨rfl, rfl, rfl, by decide +kernel, rfl, by decide +kernel, by decide +kernel⟩
theorem ok_BS (T : Tx K mg) : Ok P w K mg base "by_size" 1 ["sets"] spBS := by
  refine mkOk T.d_by_size sc_BS (fun _ _ _ _ _ _ us hl => match us, hl with | [_], _ => rfl) (fun vs H Q E h => by obtain ⟨a, k, rfl, _⟩ := h; rfl) (fun cdv A outer s H vs Q E f hr h => ?_)
  obtain ⟨a, ks, rfl, hl, hz, q⟩ := h
  refine ⟨_, pss_one (ps_ret (pe_sortKey sw_len (fun I h hz R => col_list I h hz R) (pa_cons (pe_callB (crSortL (u8 hr.units)) (by rfl) T.f_sorted (by decide +kernel) (pa_cons (pv 0) pa_nil)) pa_nil) (by rfl) T.f_sorted (by rfl) T.f_len (by rfl))), ?_⟩
  refine ⟨.ref a, rfl, a, ks, rfl, hl, by omega, fun ks1 ys p h1 _ r1 hp => ?_⟩
  refine ⟨p, ks1, rfl, ⟨ys, upd_same, rts_go (tups_of (same_new hp)) r1⟩, by rw [h1.length_eq]; omega, fun ks2 zs p2 h2 _ r2 hp2 => ?_⟩
  refine q _ p2 ks2 ((same_new hp).trans (same_new hp2)) ?_ (h2.trans h1) ⟨zs, upd_same, rts_go (tups_of (same_new hp2)) r2⟩
  cases e : H p2 with
  | none => rfl
  | some o =>
    have z := same_new (o := .lst ys) hp p2 o e
    rw [hp2] at z
    cases z
/-! ### all_sets -/
def spAS : Sp := fun vs H Q _ => ∃ (n : Nat), vs = [.int n] ∧ n ≤ 6 ∧ ∀ H' p ks', Same H H' → H p = none → ks'.Perm (subs n) → LL H' p ks' → Q (.ref p) H'
theorem sc_AS : FnScope ["corners", "found", "corner", "chosen"] ["corners"] (defScope (top 55)) := ⟨rfl, rfl, rfl, by decide +kernel, rfl, by decide +kernel, by decide +kernel⟩
theorem on_few {n : Nat} {s : List Int} (h : On n s) : s.length ≤ n := by
  have h1 := nd_le (m := (List.range n).map fun i : Nat => (i : Int)) (asc_nodup h.1) fun x hx => by
    obtain ⟨h2, h3⟩ := h.2 x hx
    exact List.mem_map.mpr ⟨x.toNat, List.mem_range.mpr (by omega), by omega⟩
  rw [List.length_map, List.length_range] at h1
  exact h1
theorem fresh_of {H H' : Hp} {p : Addr} (s : Same H H') (h : H' p = none) : H p = none := by
  cases e : H p with
  | none => rfl
  | some o =>
    have z := s p o e
    rw [h] at z
    cases z
theorem ok_AS (T : Tx K mg) : Ok P w K mg base "all_sets" 2 ["corners"] spAS := by
  refine mkOk T.d_all_sets sc_AS (fun _ _ _ _ _ _ us hl => match us, hl with | [_], _ => rfl) (fun vs H Q E h => by obtain ⟨a, rfl, _⟩ := h; rfl) (fun cdv A outer s H vs Q E f hr h => ?_)
  obtain ⟨n, rfl, hn, q⟩ := h
  refine ⟨_, pss_cons (ps_set (i := 1) sc_AS.nd rfl (Or.inl rfl) (pe_lst (pa_cons (pe_tup pa_nil) pa_nil)))
    (pss_cons (ps_for PassesOwn.never rfl (pi_range1 rfl T.f_range (pa_cons (pv 0) pa_nil)) (pg_name (i := 2) sc_AS.nd rfl (Or.inr rfl))
      (pss_one (ps_set (i := 1) sc_AS.nd rfl (Or.inl rfl) (pe_lst (pa_starK K (pv 1) (pa_starK K (pe_lc (own := [("chosen", 3)]) (g := gName 3) (tt := tYes) rfl sc_AS.nd (pi_lK K (pv 1))
        (blkOk_by (N := ["corners", "found", "corner", "chosen"]) (sc := defScope (top 55)) (by decide +kernel)) (fun _ _ _ _ _ => pg_name (i := 3) sc_AS.nd rfl (Or.inl rfl)) (fun _ _ _ _ _ => pts_nil)
        (fun _ _ _ _ _ => pe_tup (pa_starK K (pv 3) (pa_cons (pv 2) pa_nil)))) pa_nil))))))
    (pss_one (ps_ret (pcall (ok_BS T) hr (pa_cons (pv 1) pa_nil))))), ?_⟩
  refine ⟨bigle (by decide), fun p0 hp0 => ⟨bigle (by show 1 ≤ _; decide), fun p1 hp1 => ?_⟩⟩
  have e0 : RTs [[]] [V.ref p0] (upd (upd H p0 (.tup [])) p1 (.lst [V.ref p0])) := .cons ⟨p0, rfl, by
    show upd (upd H p0 _) p1 _ p0 = _
    rw [upd_ne (ne_of_none upd_same hp1), upd_same]
    rfl⟩ .nil
  have sm0 : Same H (upd (upd H p0 (.tup [])) p1 (.lst [V.ref p0])) := (same_new hp0).trans (same_new hp1)
  refine ⟨_, rfl, n, rfl, by omega, by omega, ?_⟩
  rw [Int.toNat_natCast]
  refine for_it (n := n) walk_rng (fun i σ H1 => ∃ l c d, σ = [some (V.int n), some (V.ref l), c, d] ∧ Same H H1 ∧ LL H1 l (subs i)) ⟨p1, _, _, rfl, sm0, _, upd_same, e0⟩ (fun _ _ _ _ _ => trivial) (fun i x σ H1 H2 hi hP y => ?_) (fun σ H1 hP => ?_)
  · obtain ⟨l, c, d, rfl, sm, ⟨vs, hl, rv⟩⟩ := hP
    obtain ⟨rfl, rfl⟩ := y
    have hlen := subs_few (n := i) (by omega)
    have hlv : (subs i).length = vs.length := Paired.length rv
    refine ⟨_, rfl, l, vs, rfl, .inr (SqL.of hl), ?_⟩
    refine ⟨_, rfl, l, rfl, ⟨vs, SqL.of hl⟩, fun D hD => ?_⟩
    refine lc_fromM (xs := vs) (ks := subs i) RT RT (fun _ _ _ _ s r => r.go s) (fun k => k ++ [(i : Int)]) walk_list (fun H2 s => SqL.of (s _ _ hl)) rv hD (by omega) (fun k0 x H2 Kk hk0 sm2 r hk1 => ?_) (fun H2 ys sm2 hy pr => ?_)
    · obtain ⟨b, rfl, hb⟩ := r
      have hk6 : k0.length ≤ 1000 := by
        have h2 := on_few (mem_subs.mp hk0)
        omega
      refine ⟨rfl, _, rfl, b, _, rfl, .inl (SqT.of (sm2 _ _ hb)), _, rfl, bigle ?_, fun p hp => hk1 _ _ (same_new hp) ⟨p, rfl, ?_⟩⟩
      · rw [List.length_append, List.length_map]
        show k0.length + 1 ≤ _
        omega
      · show upd H2 p _ p = _
        rw [upd_same, List.map_append]
        rfl
    · refine ⟨D, ys, rfl, .inr (SqL.of hy), ?_⟩
      have hly : (subs i).length = ys.length := by
        have h := Paired.length pr
        rw [List.length_map] at h
        exact h
      refine ⟨bigle ?_, fun p hp => ⟨p, _, _, rfl, (sm.trans sm2).trans (same_new hp), vs ++ (ys ++ []), upd_same, ?_⟩⟩
      · rw [List.length_append, List.length_append, List.length_nil]
        omega
      · rw [List.append_nil]
        exact rts_app (rts_go (tups_of (sm2.trans (same_new hp))) rv) (rts_go (tups_of (same_new hp)) pr)
  · obtain ⟨l, c, d, rfl, sm, hl⟩ := hP
    refine ⟨_, rfl, l, subs n, rfl, hl, by have := subs_few hn; omega, fun H2 p ks' sm2 hp pm hL => ?_⟩
    exact q H2 p ks' (sm.trans sm2) (fresh_of sm hp) pm hL
end
end K41

/-! K41Dc -/
/-! Dict comprehensions whose keys are tuples: one clause, two clauses. -/
namespace K41
open PySem PySem.Spec PyProof.Rows L2
/-- knows what σ0 knows -/
def Grown (σ0 σ : L2.St) : Prop := σ0.length = σ.length ∧ ∀ (j : Nat) v, σ0[j]? = some (some v) → σ[j]? = some (some v)
theorem grown_wipe {σ : L2.St} {vs : List Nat} {σ0 : L2.St} (h : wipe σ vs = σ0) : Grown σ0 σ := by
  subst h
  exact ⟨wipe_length _ _, fun j v e => (wipe_some e).1⟩
section
variable {X : Cx} {s3 : Shared} {H3 : Hp} {scope : Scope} {ce : Env} {fp0 : List Addr}
/-- a clause's loop: tb what a turn that the tests let through does -/
theorem loop_run {e : Expr} {lv : Nat} {tg : Expr} {ifs : List Expr} {pp : Pos} {it D : Addr} {fp : List Addr} {tn : Nat → Heap → Prop} {J : It} {vs : List Nat} {σ0 : L2.St} {pins : List (Addr × Obj)} {g : TG} {tt : TT} {body : Sem Unit} {tb : L2.St → Hp → (Hp → Prop) → Prop}
    {Qd : Hp → Prop} {R : Result → Shared → Prop} {H : Hp} {s : Shared} {W : Nat → Nat → Hp → Prop} {m0 : Nat} (hc : X.calm = true)
    (hden : ∀ (Q : PySem.Fin → Shared → Prop) (E : Value → Shared → Prop) (s : Shared), wpAny (model X.prog X.w) X.A ((compTurn e lv (.ref it) (.ref D) ce).onRaise (fun x => do noteFrame x ce; theTreesLotGoes x)) Q E s →
      wpAny (model X.prog X.w) (X.A.under (.compLoop e lv (.ref it) (.ref D) ce)) ((model X.prog X.w).den (.compLoop e lv (.ref it) (.ref D) ce)) Q E s)
    (hT : compTurn e lv (.ref it) (.ref D) ce = (do
      standAt pp
      match ← pyNext (.ref it) with
      | none => pure (.done .next)
      | some v =>
        letOwnedTupleGo tg (.ref it) v
        assign tg ce v
        let mut ok := true
        for c in ifs do
          if ok then ok ← isTrue c ce (eval c ce)
        if ok then body
        again (.compLoop e lv (.ref it) (.ref D) ce)))
    (T : Turn X.prog X.w X.K tg J fp it tn) (pg : PG (X.blk s3 H3 scope ce fp0) tg g) (pt : PTs (X.blk s3 H3 scope ce fp0) ifs tt)
    (hb : ∀ (pins' : List (Addr × Obj)) (s : Shared) (σ : L2.St) (H : Hp) (N : Hp → Prop), Inv (X.blk s3 H3 scope ce fp0) pins' σ H s → wipe σ vs = σ0 → tb σ H N →
      wpAny (model X.prog X.w) X.A body (fun _ s' => ∃ σ' H', Inv (X.blk s3 H3 scope ce fp0) pins' σ' H' s' ∧ Grown σ0 σ' ∧ N H') (fun _ _ => False) s)
    (stat : ∀ {H' : Hp}, (∀ b ∈ fp, H' b = none) → ∀ b ∈ fp, FpOk (X.blk s3 H3 scope ce fp0) pins H' b)
    (I : Inv (X.blk s3 H3 scope ce fp0) pins σ0 H s) (st : tn 0 s.heap) (nf : ∀ b ∈ fp, H b = none) (w0 : W 0 m0 H)
    (turn : ∀ i m H, W i m H → (J.stop i H ∧ Qd H) ∨ (J.go i H ∧ ∃ Nx : Hp → Prop, (∀ H', Nx H' → ∃ m', m' < m ∧ W (i + 1) m' H') ∧ ∀ x H', J.yld i H x H' →
      g x σ0 H' fun σ2 H2 => wipe σ2 vs = σ0 ∧ tt σ2 H2 fun b H3 => if b = true then tb σ2 H3 Nx else Nx H3))
    (hR : ∀ H' s', Inv (X.blk s3 H3 scope ce fp0) pins σ0 H' s' → Qd H' → R (.ok .next) s') :
    codeAny (model X.prog X.w) X.A (.compLoop e lv (.ref it) (.ref D) ce) R s := by
  refine codeAny_loop rfl (fun n s' => ∃ i H', Inv (X.blk s3 H3 scope ce fp0) pins σ0 H' s' ∧ tn i s'.heap ∧ (∀ b ∈ fp, H' b = none) ∧ W i n H') ?_ m0 ⟨0, H, I, st, nf, w0⟩
  rintro n s5 ⟨i, H5, I5, st5, n5, w5⟩
  refine hden _ _ s5 (wpAny_noted ?_)
  rw [hT]
  rcases turn i n H5 w5 with ⟨stop, qq⟩ | ⟨go, Nx, hNx, step⟩
  · refine wpAny_bind (wpAny_standAt (wpAny_bind (thnF (T.done (X.blk s3 H3 scope ce fp0) rfl rfl rfl hc i _ s5 σ0 H5 (fun _ _ => False) I5 (stat n5) st5 stop) fun r s6 ⟨hr, I6⟩ => ?_)))
    subst hr
    exact wpAny_pure (hR H5 s6 I6 qq)
  · refine wpAny_bind (wpAny_standAt (wpAny_bind (thnF (T.item (X.blk s3 H3 scope ce fp0) rfl rfl rfl hc i _ s5 σ0 H5 (fun _ _ => False) I5 (stat n5) st5 go) fun r s6 ⟨u, hr, h6⟩ => ?_)))
    subst hr
    refine wpAny_bind (thnF h6 fun _ s7 ⟨x, H7, I7, r7, y7, st7, n7⟩ => ?_)
    have I7' := I7.pinned (stat n7) (T.obj _ _ st7)
    refine wpAny_bind (thnF (pg.run _ s7 _ H7 x u _ I7' r7 (step x H7 y7)) fun _ s8 ⟨σ8, H8, I8, hw8, q8⟩ => ?_)
    refine wpAny_bind (thnF (pt.run _ s8 σ8 H8 _ I8 q8) fun b s9 ⟨H9, I9, q9⟩ => ?_)
    have fin : ∀ {σ9 : L2.St} {s' : Shared} {H' : Hp}, Inv (X.blk s3 H3 scope ce fp0) (pins ++ pinsAt fp s7.heap) σ9 H' s' → Grown σ0 σ9 → Nx H' →
        ∃ m, m < n ∧ ∃ i H', Inv (X.blk s3 H3 scope ce fp0) pins σ0 H' s' ∧ tn i s'.heap ∧ (∀ b ∈ fp, H' b = none) ∧ W i m H' := fun {σ9 s' H'} I' gr nx => by
      obtain ⟨m', hm, w'⟩ := hNx H' nx
      have pin' : ∀ b ∈ fp, ∀ o, s7.heap.get? b = some o → s'.heap.get? b = some o ∧ H' b = none := fun b hb o e =>
        let z := I'.pin (b, o) (List.mem_append_right _ (List.mem_append_right _ (mem_pinsAt hb e)))
        ⟨z.1, z.2.1⟩
      refine ⟨m', hm, i + 1, H', (I'.unpinned (pins := pins)).weak gr.1 gr.2, T.keep _ _ _ st7 fun b hb o e => (pin' b hb o e).1, fun b hb => ?_, w'⟩
      obtain ⟨o, e, _⟩ := T.obj _ _ st7 b hb
      exact (pin' b hb o e).2
    cases b with
    | false =>
      simp only [Bool.false_eq_true, if_false] at q9 ⊢
      first
        | exact wpAny_pure ⟨rfl, fin I9 (grown_wipe hw8) q9⟩
        | exact wpAny_bind (wpAny_pure (wpAny_pure ⟨rfl, fin I9 (grown_wipe hw8) q9⟩))
    | true =>
      simp only [if_true] at q9 ⊢
      refine wpAny_bind (thnF (hb _ s9 σ8 H9 _ I9 hw8 q9) fun _ s10 ⟨σ10, H10, I10, g10, nx⟩ => ?_)
      exact wpAny_pure ⟨rfl, fin I10 g10 nx⟩
end
/-- d[k] = v of a dict with tuple keys, by a comprehension -/
theorem t_dictSet {X : Cx} {pins : List (Addr × Obj)} {σ : L2.St} {H : Hp} {s : Shared} {E : Value → Shared → Prop} {D b : Addr} {kvs : List (List L2.Key × V)} {k : List L2.Key} {v : V} {r : Value} {Q : Unit → Shared → Prop} (hu : X.A.units + 1 < cLine) (I : Inv X pins σ H s) (hD : H D = some (.dT kvs)) (hz : kvs.length < sizeLine)
    (hb : H b = some (.tup (k.map kV))) (rv : RelV v r) (h : ∀ s', Inv X pins σ (upd H D (.dT (putK kvs k v))) s' → Q () s') : wpAny (model X.prog X.w) X.A (dictSet D (.ref b) r) Q E s := by
  obtain ⟨z, hd, xs, rel, dd⟩ := dt_of I.hok hD
  have hzz : xs.length ≤ sizeLine := by rw [← Paired.length rel]; exact z
  have hl : (putK kvs k v).length ≤ sizeLine := by have := length_putK kvs k v; omega
  refine wpAny_dictSet_heap (hsz := hzz) (show (tupleKind (mixKind X.prog X.w)).room X.A from Nat.lt_of_succ_lt hu) (key_of I.hok hb) dd fun h' dd' hs => h _ ?_
  obtain ⟨o, es, ep, ho, h2, h3, h4, _, h5⟩ := dd'
  refine d_write I (by rw [hD]; exact True.intro) hs ⟨o, ho⟩ ⟨hl, hd, _, (rel.put k hb rv).keeps fun c ys ec => ?_, o, es, ep, ho, h2, h3, h4, h5⟩
  rw [upd_ne (ne_of ec hD fun z => nomatch z)]
  exact ec
/-- what a leaf puts into the dict -/
def tbPut (tk tv : TE) (D : Addr) : L2.St → Hp → (Hp → Prop) → Prop := fun σ H N => tk σ H fun y H4 => tv σ H4 fun z H5 => ∃ kvs k b, y = .ref b ∧ H5 b = some (.tup (List.map kV k)) ∧ H5 D = some (.dT kvs) ∧ kvs.length < sizeLine ∧ N (upd H5 D (.dT (putK kvs k z)))
section
variable {X : Cx}
/-- {k: v for target in iter if ..} -/
def tDt (wi : TI) (g : TG) (tt : TT) (tb : Addr → L2.St → Hp → (Hp → Prop) → Prop) (vs : List Nat) : TE := fun σ H Q => wi σ H fun J H1 => ∀ D, H1 D = none → ∃ W : Nat → Nat → Hp → Prop, (∃ m, W 0 m (upd H1 D (.dT []))) ∧ ∀ i m H, W i m H →
  (J.stop i H ∧ Q (.ref D) H) ∨ (J.go i H ∧ ∃ Nx : Hp → Prop, (∀ H', Nx H' → ∃ m', m' < m ∧ W (i + 1) m' H') ∧ ∀ x H', J.yld i H x H' → g x (wipe σ vs) H' fun σ2 H2 => wipe σ2 vs = wipe σ vs ∧ tt σ2 H2 fun b H3 => if b = true then tb D σ2 H3 Nx else Nx H3)
abbrev AtBlk (X : Cx) (scope : Scope) (P : Cx → Prop) : Prop := ∀ (s : Shared) (H : Hp) (C : Addr) (cl : List (Str × Addr)) (fp : List Addr), P (X.blk s H scope (compEnvC scope cl C X.env) fp)
theorem dt_core {pins : List (Addr × Obj)} {s : Shared} {σ : L2.St} {H : Hp} {Q : VK} {kx vx tg iter : Expr} {ifs : List Expr} {rest : List Comprehension} {scope : Scope} {own : List (Str × Nat)} {pos pos' : Pos} {wi : TI} {g : TG} {tt : TT} {tb : Addr → L2.St → Hp → (Hp → Prop) → Prop} {body : Addr → Env → Sem Unit} {use : Option (Value → Sem Unit)} {Qf : Value → Shared → Prop}
    (hc : X.calm = true) (hN : X.N.Nodup) (I : Inv X pins σ H s) (hi : PI X tg iter wi) (ok : BlkOk X.N X.env.scope scope own)
    (hg : AtBlk X scope fun Y => PG Y tg g) (ht : AtBlk X scope fun Y => PTs Y ifs tt) (hs : ∀ x, foldedSetIterable iter X.env x = pure x)
    (hT : ∀ (it D : Addr) (ce : Env), compTurn (.DictComp kx vx (⟨tg, iter, ifs, 0⟩ :: rest) scope pos) 0 (.ref it) (.ref D) ce = (do
      standAt iter.pos
      match ← pyNext (.ref it) with
      | none => pure (.done .next)
      | some v =>
        letOwnedTupleGo tg (.ref it) v
        assign tg ce v
        let mut ok := true
        for c in ifs do
          if ok then ok ← isTrue c ce (eval c ce)
        if ok then body D ce
        again (.compLoop (.DictComp kx vx (⟨tg, iter, ifs, 0⟩ :: rest) scope pos) 0 (.ref it) (.ref D) ce)))
    (hb : ∀ (s3 : Shared) (H3 : Hp) (C : Addr) (cl : List (Str × Addr)) (fp : List Addr) (D : Addr) (pins' : List (Addr × Obj)) (s : Shared) (σ1 : L2.St) (H : Hp) (N : Hp → Prop), Inv (X.blk s3 H3 scope (compEnvC scope cl C X.env) fp) pins' σ1 H s → wipe σ1 (own.map (·.2)) = wipe σ (own.map (·.2)) → tb D σ1 H N →
      wpAny (model X.prog X.w) X.A (body D (compEnvC scope cl C X.env)) (fun _ s' => ∃ σ' H', Inv (X.blk s3 H3 scope (compEnvC scope cl C X.env) fp) pins' σ' H' s' ∧ Grown (wipe σ (own.map (·.2))) σ' ∧ N H') (fun _ _ => False) s)
    (h : tDt wi g tt tb (own.map (·.2)) σ H Q)
    (hRR : ∀ D C s' m H', Inv X pins σ H' s' → Q (.ref D) H' → s'.heap.Ns C m → FpOk X pins H' C → compPost (model X.prog X.w) X.A X.xe use Qf (.ref D) C (.ok .next) s') :
    wpAny (model X.prog X.w) X.A (comprehension (.DictComp kx vx (⟨tg, iter, ifs, 0⟩ :: rest) scope pos) scope X.env pos' newDict false (eval iter X.env) use) Qf X.xe s := by
  have hfree : ∀ y ∈ scope.names, y.2 = .free → ∃ c, X.env.cells.lookup y.1 = some c := fun y hy e => (ok.free y hy e).elim (fun k => I.ok.has _ (.inl k)) fun k => I.ok.has _ (.inr k)
  refine wpAny_comprehension_free (use := use) rfl hs (closure_ok hfree) ok.kind (fun y hy e => by rw [ok.uniq y hy, e])
    (thn (hi.run pins s σ H _ I h) fun xv s1 hx => thn hx fun itv s2 h2 => ?_)
  obtain ⟨it, fp, tn, J, H2, e, I2, T, st2, f2, q⟩ := h2
  subst e
  refine wpAny_newObj_type (newEnv_comp ?_)
  obtain ⟨D, hD⟩ : ∃ D, s2.heap.objs.size = D := ⟨_, rfl⟩
  rw [hD]
  have hDn : H2 D = none := I2.hok.fresh (Nat.le_of_eq hD)
  obtain ⟨W, ⟨m0, w0⟩, turn⟩ := q D hDn
  obtain ⟨s3, hs3⟩ : ∃ s3 : Shared, s3 = { s2 with heap := s2.heap.push { cls := .type "dict", data := .dict #[] } } := ⟨_, rfl⟩
  have h3 : s3.heap = s2.heap.push { cls := .type "dict", data := .dict #[] } := by rw [hs3]
  have I3 : Inv X pins σ (upd H2 D (.dT [])) s3 := by
    rw [hs3]
    refine I2.laid (t' := s2.toks) (fun b o e => Heap.get?_push_of_some _ e) (Nat.le_of_eq hD) ?_
    rw [← hD]
    exact dt_empty s2.heap I2.big
  have f3 : ∀ b ∈ fp, FpOk X pins (upd H2 D (.dT [])) b ∧ b < s3.heap.objs.size := fun b hb => by
    obtain ⟨o, e, _⟩ := T.obj _ _ st2 b hb
    have hlt := Heap.lt_size e
    refine ⟨⟨?_, (f2 b hb).2⟩, by rw [h3, Heap.size_push]; exact Nat.lt_succ_of_lt hlt⟩
    rw [upd_ne (by rw [← hD]; exact Nat.ne_of_lt hlt)]
    exact (f2 b hb).1
  have st3 : tn 0 s3.heap := T.keep _ _ _ st2 fun b _ o e => by rw [h3]; exact Heap.get?_push_of_some _ e
  have I4 := block_start I3 ok hN f3
  have nfp : ∀ b ∈ fp, (upd H2 D (.dT [])) b = none := fun b hb => (f3 b hb).1.1
  have st4 : tn 0 (pushCells (s3.heap.push { cls := .type "dict", data := .dict #[] }) scope.names) := T.keep _ _ _ st3 fun b _ o e => pushCells_keeps _ _ _ _ (Heap.get?_push_of_some _ e)
  rw [← hs3]
  have loop : codeAny (model X.prog X.w) X.A (.compLoop (.DictComp kx vx (⟨tg, iter, ifs, 0⟩ :: rest) scope pos) 0 (.ref it) (.ref D) (compEnvC scope (cellsFrom (s3.heap.objs.size + 1) scope.names (cloFrom X.env.cells scope.names [])) s3.heap.objs.size X.env)) (compPost (model X.prog X.w) X.A X.xe use Qf (.ref D) s3.heap.objs.size)
      { s3 with heap := pushCells (s3.heap.push { cls := .type "dict", data := .dict #[] }) scope.names } := by
    refine loop_run (s3 := s3) (H3 := upd H2 D (.dT [])) (scope := scope) (fp0 := fp) (pins := []) (vs := own.map (·.2)) (σ0 := wipe σ (own.map (·.2))) (Qd := Q (.ref D)) hc (fun _ _ _ h => h) (hT it D _) T (hg _ _ _ _ _) (ht _ _ _ _ _) (hb _ _ _ _ _ D) (fun {H'} hn b hb' => ?_) I4 st4 nfp w0 turn fun H' s' I6 qq => ?_
    · exact ⟨hn b hb', (I4.ok.exf b hb').1, I4.ok.exfs b hb', .inl hb', fun x c e => (I4.ok.exf b hb').2 x c e, fun p hp => absurd (show p ∈ ([] : List (Addr × Obj)) ++ [] from hp) (by simp)⟩
    · have I7 : Inv X pins σ H' s' := I3.call' (ch := fp) I6.os I6.base I6.hok I6.bare fun b hb => ⟨(f3 b hb).1.2.2.2.1, (f3 b hb).1.2.1, (f3 b hb).1.2.2.2.2.1, (f3 b hb).1.2.2.2.2.2⟩
      have nC : H' s3.heap.objs.size = none := I6.free
      obtain ⟨m, hn, _⟩ := I6.loc
      exact hRR D s3.heap.objs.size s' m H' I7 qq hn (I3.fpOk (Nat.le_refl _) nC)
  exact codeAny_compStart_dict loop (T.self X.A 0 _ _ _ st4 loop)

/-- the leaf -/
def bPut (kx vx : Expr) (D : Addr) (env : Env) : Sem Unit := do
  let kv ← eval kx env
  let vv ← holding [kv] (eval vx env)
  standAt { kx.pos with endLine := vx.pos.endLine, endCol := vx.pos.endCol }
  holding [kv, vv] (dictSet D kv vv)
theorem leaf_put {kx vx : Expr} {scope : Scope} {tk tv : TE} {vs : List Nat} {σ0 : L2.St} (hu : X.A.units + 1 < cLine) (hk : AtBlk X scope fun Y => PE Y kx tk) (he : AtBlk X scope fun Y => PE Y vx tv)
    (s3 : Shared) (H3 : Hp) (C : Addr) (cl : List (Str × Addr)) (fp : List Addr) (D : Addr) (pins' : List (Addr × Obj)) (s : Shared) (σ1 : L2.St) (H : Hp) (N : Hp → Prop) (I : Inv (X.blk s3 H3 scope (compEnvC scope cl C X.env) fp) pins' σ1 H s) (hw : wipe σ1 vs = σ0) (q : tbPut tk tv D σ1 H N) :
    wpAny (model X.prog X.w) X.A (bPut kx vx D (compEnvC scope cl C X.env)) (fun _ s' => ∃ σ' H', Inv (X.blk s3 H3 scope (compEnvC scope cl C X.env) fp) pins' σ' H' s' ∧ Grown σ0 σ' ∧ N H') (fun _ _ => False) s := by
  unfold bPut
  refine wpAny_bind (thnF ((hk s3 H3 C cl fp).run _ s σ1 H _ I q) fun z s10 ⟨yk, H10, I10, r10, q10⟩ => ?_)
  refine wpAny_bind (wpAny_holding (thnF ((he s3 H3 C cl fp).run _ s10 σ1 H10 _ I10 q10) fun z2 s11 ⟨yv, H11, I11, r11, kvs, k, b, ek, hb, hD, hz, nx⟩ => ?_))
  subst ek
  cases r10
  refine wpAny_bind (wpAny_standAt (wpAny_holding ?_))
  exact t_dictSet (X := X.blk s3 H3 scope (compEnvC scope cl C X.env) fp) hu I11 hD hz hb r11 fun s12 I12 => ⟨σ1, _, I12, grown_wipe hw, nx⟩
/-- {k: v for ..} as a value -/
theorem pe_dt {kx vx tg iter : Expr} {ifs : List Expr} {rest : List Comprehension} {scope : Scope} {own : List (Str × Nat)} {pos : Pos} {wi : TI} {g : TG} {tt : TT} {tb : Addr → L2.St → Hp → (Hp → Prop) → Prop} {body : Addr → Env → Sem Unit}
    (hc : X.calm = true) (hN : X.N.Nodup) (hi : PI X tg iter wi) (ok : BlkOk X.N X.env.scope scope own) (hg : AtBlk X scope fun Y => PG Y tg g) (ht : AtBlk X scope fun Y => PTs Y ifs tt)
    (hb : ∀ (σ : L2.St) (s3 : Shared) (H3 : Hp) (C : Addr) (cl : List (Str × Addr)) (fp : List Addr) (D : Addr) (pins' : List (Addr × Obj)) (s : Shared) (σ1 : L2.St) (H : Hp) (N : Hp → Prop), Inv (X.blk s3 H3 scope (compEnvC scope cl C X.env) fp) pins' σ1 H s → wipe σ1 (own.map (·.2)) = wipe σ (own.map (·.2)) → tb D σ1 H N →
      wpAny (model X.prog X.w) X.A (body D (compEnvC scope cl C X.env)) (fun _ s' => ∃ σ' H', Inv (X.blk s3 H3 scope (compEnvC scope cl C X.env) fp) pins' σ' H' s' ∧ Grown (wipe σ (own.map (·.2))) σ' ∧ N H') (fun _ _ => False) s)
    (hT : ∀ (it D : Addr) (ce : Env), compTurn (.DictComp kx vx (⟨tg, iter, ifs, 0⟩ :: rest) scope pos) 0 (.ref it) (.ref D) ce = (do
      standAt iter.pos
      match ← pyNext (.ref it) with
      | none => pure (.done .next)
      | some v =>
        letOwnedTupleGo tg (.ref it) v
        assign tg ce v
        let mut ok := true
        for c in ifs do
          if ok then ok ← isTrue c ce (eval c ce)
        if ok then body D ce
        again (.compLoop (.DictComp kx vx (⟨tg, iter, ifs, 0⟩ :: rest) scope pos) 0 (.ref it) (.ref D) ce)) := by intro _ _ _; rfl)
    (hs : ∀ x, foldedSetIterable iter X.env x = pure x := by intro _; rfl) : PE X (.DictComp kx vx (⟨tg, iter, ifs, 0⟩ :: rest) scope pos) (tDt wi g tt tb (own.map (·.2))) := by
  refine ⟨fun pins s σ H Q I h => ?_⟩
  rw [arm_eval_DictComp]
  refine dt_core hc hN I hi ok hg ht hs hT (hb σ) h fun D C s' m H' I' q hn f => ⟨m, hn, fun h'' sb => ?_⟩
  obtain ⟨f0, f1, f2, f3, f4, f5⟩ := f
  exact ⟨.ref D, H', I'.turned (t' := s'.toks) (fun b o hb e => (sb.2 b hb).trans e) f0 f1 f3 f4 f5, rfl, q⟩
/-- name = {k: v for ..} on one line, the name a local -/
theorem ps_setDt {i : Nat} {y : Str} {py : Pos} {kx vx tg iter : Expr} {ifs : List Expr} {rest : List Comprehension} {scope : Scope} {own : List (Str × Nat)} {pos spos : Pos} {wi : TI} {g : TG} {tt : TT} {tb : Addr → L2.St → Hp → (Hp → Prop) → Prop} {body : Addr → Env → Sem Unit}
    (hc : X.calm = true) (hN : X.N.Nodup) (hy : X.N[i]? = some y) (hyl : X.env.scope.names.lookup y = some .local) (hsw : swapsWith (.DictComp kx vx (⟨tg, iter, ifs, 0⟩ :: rest) scope pos) (some (.Name y py)) spos.line X.env = pure true)
    (hi : PI X tg iter wi) (ok : BlkOk X.N X.env.scope scope own) (hg : AtBlk X scope fun Y => PG Y tg g) (ht : AtBlk X scope fun Y => PTs Y ifs tt)
    (hb : ∀ (σ : L2.St) (s3 : Shared) (H3 : Hp) (C : Addr) (cl : List (Str × Addr)) (fp : List Addr) (D : Addr) (pins' : List (Addr × Obj)) (s : Shared) (σ1 : L2.St) (H : Hp) (N : Hp → Prop), Inv (X.blk s3 H3 scope (compEnvC scope cl C X.env) fp) pins' σ1 H s → wipe σ1 (own.map (·.2)) = wipe σ (own.map (·.2)) → tb D σ1 H N →
      wpAny (model X.prog X.w) X.A (body D (compEnvC scope cl C X.env)) (fun _ s' => ∃ σ' H', Inv (X.blk s3 H3 scope (compEnvC scope cl C X.env) fp) pins' σ' H' s' ∧ Grown (wipe σ (own.map (·.2))) σ' ∧ N H') (fun _ _ => False) s)
    (hT : ∀ (it D : Addr) (ce : Env), compTurn (.DictComp kx vx (⟨tg, iter, ifs, 0⟩ :: rest) scope pos) 0 (.ref it) (.ref D) ce = (do
      standAt iter.pos
      match ← pyNext (.ref it) with
      | none => pure (.done .next)
      | some v =>
        letOwnedTupleGo tg (.ref it) v
        assign tg ce v
        let mut ok := true
        for c in ifs do
          if ok then ok ← isTrue c ce (eval c ce)
        if ok then body D ce
        again (.compLoop (.DictComp kx vx (⟨tg, iter, ifs, 0⟩ :: rest) scope pos) 0 (.ref it) (.ref D) ce)) := by intro _ _ _; rfl)
    (hs : ∀ x, foldedSetIterable iter X.env x = pure x := by intro _; rfl) : PS X (.Assign [.Name y py] (.DictComp kx vx (⟨tg, iter, ifs, 0⟩ :: rest) scope pos) spos) (tAsg (tDt wi g tt tb (own.map (·.2))) (gName i)) := by
  refine ⟨fun pins s σ H D I h => ?_⟩
  rw [exec_Assign_Name_used _ _ _ _ hsw]
  refine wpAny_bind (wpAny_standAt (wpAny_bind ?_))
  show wpAny _ X.A (do let _ ← comprehension (.DictComp kx vx (⟨tg, iter, ifs, 0⟩ :: rest) scope pos) scope X.env (firstIterPos (⟨tg, iter, ifs, 0⟩ :: rest) pos) newDict false (eval iter X.env) (some (assign (.Name y py) X.env))) _ _ s
  have h : tDt wi g tt tb (own.map (·.2)) σ H (fun x H1 => gName i x σ H1 D.nx) := h
  refine wpAny_bind (thn (dt_core (Qf := fun _ s' => SP X pins D .next s') hc hN I hi ok hg ht hs hT (hb σ) h fun L C s' m H' I' q hn f => ?_) fun _ s' hq => wpAny_pure (wpAny_pure hq))
  show wpAny _ _ (assign (.Name y py) X.env (.ref L)) _ _ _
  refine wpAny_assign_Name (store_ok2 (v := V.ref L) I' hN hy (.inl hyl) rfl (fun s2 I2 ⟨a, sb, ha⟩ => ?_) (.inr hyl))
  obtain ⟨f0, f1, f2, f3, f4, f5⟩ := f
  have haC : C ≠ a := by
    rcases ha with z | z
    · rw [z]; exact f1
    · exact fun e => f4 y a z e.symm
  refine ⟨m, hn.sameBut sb haC, fun h3 sb3 => ?_⟩
  exact ⟨_, H', I2.turned (t' := s2.toks) (fun b o hb e => (sb3.2 b hb).trans e) f0 f1 f3 f4 f5, q⟩

/-! ### the second clause -/
def tb2 (wi1 : TI) (g1 : TG) (tt1 : TT) (tl : Addr → L2.St → Hp → (Hp → Prop) → Prop) (vs1 : List Nat) (D : Addr) : L2.St → Hp → (Hp → Prop) → Prop := fun σ H N => wi1 σ H fun J1 H4 => ∃ W1 : Nat → Nat → Hp → Prop, (∃ m, W1 0 m H4) ∧ ∀ j k H, W1 j k H →
  (J1.stop j H ∧ N H) ∨ (J1.go j H ∧ ∃ Nx1 : Hp → Prop, (∀ H', Nx1 H' → ∃ k', k' < k ∧ W1 (j + 1) k' H') ∧ ∀ x H', J1.yld j H x H' → g1 x (wipe σ vs1) H' fun σ3 H5 => wipe σ3 vs1 = wipe σ vs1 ∧ tt1 σ3 H5 fun b H6 => if b = true then tl D σ3 H6 Nx1 else Nx1 H6)
def b2 (e i1 : Expr) (D : Addr) (env : Env) : Sem Unit := do
  let x ← eval i1 env
  standAt i1.pos
  let x ← foldedSetIterable i1 env x
  let _ ← runOwn (.compStart e 1 (← holding [x] (pyIter x)) (.ref D) env) env
theorem compStart1_dt {kx vx t0 i0 t1 i1 : Expr} {ifs0 ifs1 : List Expr} {scope : Scope} {pos : Pos} {it acc : Value} {env : Env} {prog : Program} {w : World} {A : Around} {R : Result → Shared → Prop} {s : Shared}
    (h0 : codeAny (model prog w) A (.compLoop (.DictComp kx vx [⟨t0, i0, ifs0, 0⟩, ⟨t1, i1, ifs1, 0⟩] scope pos) 1 it acc env) R s)
    (h : wpAny (model prog w) A (pyIter it) (fun it' s' => codeAny (model prog w) A (.compLoop (.DictComp kx vx [⟨t0, i0, ifs0, 0⟩, ⟨t1, i1, ifs1, 0⟩] scope pos) 1 it' acc env) R s') (notedBy (model prog w) A env fun x s' => R (.error x) s') s) :
    codeAny (model prog w) A (.compStart (.DictComp kx vx [⟨t0, i0, ifs0, 0⟩, ⟨t1, i1, ifs1, 0⟩] scope pos) 1 it acc env) R s := by
  refine codeAny_of_tree ?_
  show wpAny _ _ ((compStart (.DictComp kx vx [⟨t0, i0, ifs0, 0⟩, ⟨t1, i1, ifs1, 0⟩] scope pos) 1 it acc env).onRaise (fun x => do noteFrame x env; standAt theWindowsPlace)) _ _ s
  refine wpAny_notedAt ?_
  unfold compStart
  show wpAny _ _ (ask >>= _) _ _ s
  refine wpAny_bind (wpAny_askSetting (wpAny_ite ?_))
  split
  · first
      | exact wpAny_bind (wpAny_pure (wpAny_pure (And.intro rfl h0)))
      | exact wpAny_pure (And.intro rfl h0)
  · first
      | exact wpAny_bind (wpAny_rule (wpAny_bind (wpAny_standAt (wpAny_bind (wpAny_mono h (fun it' s' h' => wpAny_pure (And.intro rfl h')) fun _ _ x => x)))))
      | (refine wpAny_bind (wpAny_rule ?_); show wpAny _ _ (standAt i1.pos >>= _) _ _ s; exact wpAny_bind (wpAny_standAt (wpAny_bind (wpAny_mono h (fun it' s' h' => wpAny_pure (And.intro rfl h')) fun _ _ x => x))))
theorem leaf_two {kx vx t0 i0 t1 i1 : Expr} {ifs0 ifs1 : List Expr} {scope : Scope} {pos : Pos} {wi1 : TI} {g1 : TG} {tt1 : TT} {tk tv : TE} {vs vs1 : List Nat} {σ0 : L2.St} (hc : X.calm = true) (hu : X.A.units + 1 < cLine) (hv : ∀ i ∈ vs1, i ∈ vs)
    (hi1 : AtBlk X scope fun Y => PI Y t1 i1 wi1) (hg1 : AtBlk X scope fun Y => PG Y t1 g1) (ht1 : AtBlk X scope fun Y => PTs Y ifs1 tt1) (hk : AtBlk X scope fun Y => PE Y kx tk) (he : AtBlk X scope fun Y => PE Y vx tv)
    (hs1 : ∀ env x, foldedSetIterable i1 env x = pure x)
    (hT1 : ∀ (it D : Addr) (ce : Env), compTurn (.DictComp kx vx [⟨t0, i0, ifs0, 0⟩, ⟨t1, i1, ifs1, 0⟩] scope pos) 1 (.ref it) (.ref D) ce = (do
      standAt i1.pos
      match ← pyNext (.ref it) with
      | none => pure (.done .next)
      | some v =>
        letOwnedTupleGo t1 (.ref it) v
        assign t1 ce v
        let mut ok := true
        for c in ifs1 do
          if ok then ok ← isTrue c ce (eval c ce)
        if ok then bPut kx vx D ce
        again (.compLoop (.DictComp kx vx [⟨t0, i0, ifs0, 0⟩, ⟨t1, i1, ifs1, 0⟩] scope pos) 1 (.ref it) (.ref D) ce)))
    (s3 : Shared) (H3 : Hp) (C : Addr) (cl : List (Str × Addr)) (fp : List Addr) (D : Addr) (pins' : List (Addr × Obj)) (s : Shared) (σ1 : L2.St) (H : Hp) (N : Hp → Prop) (I : Inv (X.blk s3 H3 scope (compEnvC scope cl C X.env) fp) pins' σ1 H s) (hw : wipe σ1 vs = σ0) (q : tb2 wi1 g1 tt1 (tbPut tk tv) vs1 D σ1 H N) :
    wpAny (model X.prog X.w) X.A (b2 (.DictComp kx vx [⟨t0, i0, ifs0, 0⟩, ⟨t1, i1, ifs1, 0⟩] scope pos) i1 D (compEnvC scope cl C X.env)) (fun _ s' => ∃ σ' H', Inv (X.blk s3 H3 scope (compEnvC scope cl C X.env) fp) pins' σ' H' s' ∧ Grown σ0 σ' ∧ N H') (fun _ _ => False) s := by
  unfold b2
  refine wpAny_bind (thnF ((hi1 s3 H3 C cl fp).run _ s σ1 H _ I q) fun xv s10 hx => ?_)
  refine wpAny_bind (wpAny_standAt (wpAny_bind (wpAny_of_eq (hs1 _ xv) (wpAny_bind (wpAny_holding (thnF hx fun itv s11 h11 => ?_))))))
  obtain ⟨it1, fp1, tn1, J1, H11, e1, I11, T1, st11, f11, W1, ⟨m1, w1⟩, turn1⟩ := h11
  subst e1
  have gr : Grown σ0 (wipe σ1 vs1) := by
    subst hw
    refine ⟨by rw [wipe_length, wipe_length], fun j v e => ?_⟩
    obtain ⟨x1, x2⟩ := wipe_some e
    rw [wipe_out fun z => x2 (hv j z)]
    exact x1
  refine wpAny_bind (wpAny_runOwn ?_)
  rw [Around.mark_none]
  have loop1 : codeAny (model X.prog X.w) X.A (.compLoop (.DictComp kx vx [⟨t0, i0, ifs0, 0⟩, ⟨t1, i1, ifs1, 0⟩] scope pos) 1 (.ref it1) (.ref D) (compEnvC scope cl C X.env))
      (fun r s' => r = .ok .next ∧ ∃ H', Inv (X.blk s3 H3 scope (compEnvC scope cl C X.env) fp) pins' (wipe σ1 vs1) H' s' ∧ N H') s11 := by
    refine loop_run (s3 := s3) (H3 := H3) (scope := scope) (fp0 := fp) (pins := pins') (vs := vs1) (σ0 := wipe σ1 vs1) (Qd := N) hc (fun _ _ _ h => h) (hT1 it1 D _) T1 (hg1 _ _ _ _ _) (ht1 _ _ _ _ _)
      (fun pins2 s σ2 H N2 I2 hw2 q2 => leaf_put hu hk he s3 H3 C cl fp D pins2 s σ2 H N2 I2 hw2 q2) (fun {H'} hn b hb => ⟨hn b hb, (f11 b hb).2⟩) (I11.weak (wipe_length _ _) fun j v e => (wipe_some e).1) st11 (fun b hb => (f11 b hb).1) w1 turn1 fun H' s' I' n => ⟨rfl, H', I', n⟩
  refine codeAny_mono (compStart1_dt loop1 (T1.self X.A 0 _ _ _ st11 loop1)) fun r s' hr => ?_
  obtain ⟨rfl, H', I', n⟩ := hr
  first
    | exact wpAny_pure ⟨_, H', I', gr, n⟩
    | exact wpAny_bind (wpAny_pure (wpAny_pure ⟨_, H', I', gr, n⟩))
    | exact ⟨_, H', I', gr, n⟩

theorem compTurn_dt1 (kx vx tg iter : Expr) (ifs : List Expr) (scope : Scope) (pos : Pos) (it D : Addr) (ce : Env) : compTurn (.DictComp kx vx [⟨tg, iter, ifs, 0⟩] scope pos) 0 (.ref it) (.ref D) ce = (do
      standAt iter.pos
      match ← pyNext (.ref it) with
      | none => pure (.done .next)
      | some v =>
        letOwnedTupleGo tg (.ref it) v
        assign tg ce v
        let mut ok := true
        for c in ifs do
          if ok then ok ← isTrue c ce (eval c ce)
        if ok then bPut kx vx D ce
        again (.compLoop (.DictComp kx vx [⟨tg, iter, ifs, 0⟩] scope pos) 0 (.ref it) (.ref D) ce)) := by rfl
theorem compTurn_dt2i (kx vx t0 i0 t1 i1 : Expr) (ifs0 ifs1 : List Expr) (scope : Scope) (pos : Pos) (it D : Addr) (ce : Env) : compTurn (.DictComp kx vx [⟨t0, i0, ifs0, 0⟩, ⟨t1, i1, ifs1, 0⟩] scope pos) 0 (.ref it) (.ref D) ce = (do
      standAt i0.pos
      match ← pyNext (.ref it) with
      | none => pure (.done .next)
      | some v =>
        letOwnedTupleGo t0 (.ref it) v
        assign t0 ce v
        let mut ok := true
        for c in ifs0 do
          if ok then ok ← isTrue c ce (eval c ce)
        if ok then
          let x ← eval i1 ce
          standAt i1.pos
          let x ← foldedSetIterable i1 ce x
          let _ ← runOwn (.compStart (.DictComp kx vx [⟨t0, i0, ifs0, 0⟩, ⟨t1, i1, ifs1, 0⟩] scope pos) 1 (← holding [x] (pyIter x)) (.ref D) ce) ce
        again (.compLoop (.DictComp kx vx [⟨t0, i0, ifs0, 0⟩, ⟨t1, i1, ifs1, 0⟩] scope pos) 0 (.ref it) (.ref D) ce)) := by rfl
theorem compTurn_dt2 (kx vx t0 i0 t1 i1 : Expr) (ifs0 ifs1 : List Expr) (scope : Scope) (pos : Pos) (it D : Addr) (ce : Env) : compTurn (.DictComp kx vx [⟨t0, i0, ifs0, 0⟩, ⟨t1, i1, ifs1, 0⟩] scope pos) 0 (.ref it) (.ref D) ce = (do
      standAt i0.pos
      match ← pyNext (.ref it) with
      | none => pure (.done .next)
      | some v =>
        letOwnedTupleGo t0 (.ref it) v
        assign t0 ce v
        let mut ok := true
        for c in ifs0 do
          if ok then ok ← isTrue c ce (eval c ce)
        if ok then b2 (.DictComp kx vx [⟨t0, i0, ifs0, 0⟩, ⟨t1, i1, ifs1, 0⟩] scope pos) i1 D ce
        again (.compLoop (.DictComp kx vx [⟨t0, i0, ifs0, 0⟩, ⟨t1, i1, ifs1, 0⟩] scope pos) 0 (.ref it) (.ref D) ce)) := by
  rw [compTurn_dt2i]
  unfold b2
  simp only [bind_assoc, pure_bind]
theorem compTurn_dt3 (kx vx t0 i0 t1 i1 : Expr) (ifs0 ifs1 : List Expr) (scope : Scope) (pos : Pos) (it D : Addr) (ce : Env) : compTurn (.DictComp kx vx [⟨t0, i0, ifs0, 0⟩, ⟨t1, i1, ifs1, 0⟩] scope pos) 1 (.ref it) (.ref D) ce = (do
      standAt i1.pos
      match ← pyNext (.ref it) with
      | none => pure (.done .next)
      | some v =>
        letOwnedTupleGo t1 (.ref it) v
        assign t1 ce v
        let mut ok := true
        for c in ifs1 do
          if ok then ok ← isTrue c ce (eval c ce)
        if ok then bPut kx vx D ce
        again (.compLoop (.DictComp kx vx [⟨t0, i0, ifs0, 0⟩, ⟨t1, i1, ifs1, 0⟩] scope pos) 1 (.ref it) (.ref D) ce)) := by rfl
theorem pe_dt1 {kx vx tg iter : Expr} {ifs : List Expr} {scope : Scope} {own : List (Str × Nat)} {pos : Pos} {wi : TI} {g : TG} {tt : TT} {tk tv : TE} (hc : X.calm = true) (hu : X.A.units + 1 < cLine) (hN : X.N.Nodup) (hi : PI X tg iter wi) (ok : BlkOk X.N X.env.scope scope own)
    (hg : AtBlk X scope fun Y => PG Y tg g) (ht : AtBlk X scope fun Y => PTs Y ifs tt) (hk : AtBlk X scope fun Y => PE Y kx tk) (he : AtBlk X scope fun Y => PE Y vx tv) (hs : ∀ x, foldedSetIterable iter X.env x = pure x := by intro _; rfl) :
    PE X (.DictComp kx vx [⟨tg, iter, ifs, 0⟩] scope pos) (tDt wi g tt (tbPut tk tv) (own.map (·.2))) :=
  pe_dt (body := bPut kx vx) hc hN hi ok hg ht (fun σ => leaf_put hu hk he) (fun it D ce => compTurn_dt1 kx vx tg iter ifs scope pos it D ce) hs
theorem ps_setDt1 {i : Nat} {y : Str} {py : Pos} {kx vx tg iter : Expr} {ifs : List Expr} {scope : Scope} {own : List (Str × Nat)} {pos spos : Pos} {wi : TI} {g : TG} {tt : TT} {tk tv : TE} (hc : X.calm = true) (hu : X.A.units + 1 < cLine) (hN : X.N.Nodup) (hy : X.N[i]? = some y) (hyl : X.env.scope.names.lookup y = some .local)
    (hsw : swapsWith (.DictComp kx vx [⟨tg, iter, ifs, 0⟩] scope pos) (some (.Name y py)) spos.line X.env = pure true) (hi : PI X tg iter wi) (ok : BlkOk X.N X.env.scope scope own)
    (hg : AtBlk X scope fun Y => PG Y tg g) (ht : AtBlk X scope fun Y => PTs Y ifs tt) (hk : AtBlk X scope fun Y => PE Y kx tk) (he : AtBlk X scope fun Y => PE Y vx tv) (hs : ∀ x, foldedSetIterable iter X.env x = pure x := by intro _; rfl) :
    PS X (.Assign [.Name y py] (.DictComp kx vx [⟨tg, iter, ifs, 0⟩] scope pos) spos) (tAsg (tDt wi g tt (tbPut tk tv) (own.map (·.2))) (gName i)) :=
  ps_setDt (body := bPut kx vx) hc hN hy hyl hsw hi ok hg ht (fun σ => leaf_put hu hk he) (fun it D ce => compTurn_dt1 kx vx tg iter ifs scope pos it D ce) hs
theorem pe_dt2 {kx vx t0 i0 t1 i1 : Expr} {ifs0 ifs1 : List Expr} {scope : Scope} {own : List (Str × Nat)} {vs1 : List Nat} {pos : Pos} {wi wi1 : TI} {g g1 : TG} {tt tt1 : TT} {tk tv : TE} (hc : X.calm = true) (hu : X.A.units + 1 < cLine) (hN : X.N.Nodup) (hi : PI X t0 i0 wi) (ok : BlkOk X.N X.env.scope scope own)
    (hv : ∀ i ∈ vs1, i ∈ own.map (·.2)) (hg : AtBlk X scope fun Y => PG Y t0 g) (ht : AtBlk X scope fun Y => PTs Y ifs0 tt) (hi1 : AtBlk X scope fun Y => PI Y t1 i1 wi1) (hg1 : AtBlk X scope fun Y => PG Y t1 g1) (ht1 : AtBlk X scope fun Y => PTs Y ifs1 tt1)
    (hk : AtBlk X scope fun Y => PE Y kx tk) (he : AtBlk X scope fun Y => PE Y vx tv) (hs : ∀ x, foldedSetIterable i0 X.env x = pure x := by intro _; rfl) (hs1 : ∀ env x, foldedSetIterable i1 env x = pure x := by intro _ _; rfl) :
    PE X (.DictComp kx vx [⟨t0, i0, ifs0, 0⟩, ⟨t1, i1, ifs1, 0⟩] scope pos) (tDt wi g tt (tb2 wi1 g1 tt1 (tbPut tk tv) vs1) (own.map (·.2))) :=
  pe_dt (body := b2 (.DictComp kx vx [⟨t0, i0, ifs0, 0⟩, ⟨t1, i1, ifs1, 0⟩] scope pos) i1) hc hN hi ok hg ht (fun σ => leaf_two hc hu hv hi1 hg1 ht1 hk he hs1 (fun it D ce => compTurn_dt3 kx vx t0 i0 t1 i1 ifs0 ifs1 scope pos it D ce))
    (fun it D ce => compTurn_dt2 kx vx t0 i0 t1 i1 ifs0 ifs1 scope pos it D ce) hs
theorem sw_dt {kx vx : Expr} {gs : List Comprehension} {scope : Scope} {pos py : Pos} {y : Str} {l : Nat} {env : Env} (hk : env.scope.kind = .function) (hy : env.scope.names.lookup y = some .local) (hl : (py.line == pos.line) = true)
    (ha : (scope.names.any fun (n, k) => n == y && (k == .local || k == .cell)) = false) : swapsWith (.DictComp kx vx gs scope pos) (some (.Name y py)) l env = pure true := by
  have ky : env.kindOf y = some .local := hy
  have hb : env.blockKind = .function := by unfold Env.blockKind; rw [hk]; rfl
  unfold swapsWith
  simp only [hb, ky, ha, Expr.pos, hl]
  rfl
end
end K41

/-! K41P -/
/-! Tuples of ints, lists and tuples of them, as data that == and in compare; dicts with tuple keys. -/
namespace K41
open PySem PySem.Spec PyProof.Rows L2
def pT (k : List Int) : PyData := .tuple (k.map .int)
def pL (ks : List (List Int)) : PyData := .list (ks.map pT)
def pTT (ks : List (List Int)) : PyData := .tuple (ks.map pT)
theorem lay_ints : ∀ k : List Int, PyData.canLayAll0 (k.map .int) = true ∧ PyData.depthAll (k.map .int) = 0
  | [] => ⟨by rw [List.map_nil, PyData.canLayAll0], by rw [List.map_nil, PyData.depthAll]⟩
  | x :: k => by
    obtain ⟨h1, h2⟩ := lay_ints k
    refine ⟨?_, ?_⟩
    · rw [List.map_cons, PyData.canLayAll0, h1, PyData.canLay0]
      rfl
    · rw [List.map_cons, PyData.depthAll, h2, PyData.depth]
      rfl
theorem lay_tup (k : List Int) : (pT k).canLay0 = true ∧ (pT k).depth = 1 := by
  obtain ⟨h1, h2⟩ := lay_ints k
  unfold pT
  exact ⟨by rw [PyData.canLay0, h1], by rw [PyData.depth, h2]⟩
theorem lay_tups : ∀ ks : List (List Int), PyData.canLayAll0 (ks.map pT) = true ∧ PyData.depthAll (ks.map pT) ≤ 1
  | [] => ⟨by rw [List.map_nil, PyData.canLayAll0], by rw [List.map_nil, PyData.depthAll]; decide⟩
  | k :: ks => by
    obtain ⟨h1, h2⟩ := lay_tups ks
    obtain ⟨h3, h4⟩ := lay_tup k
    refine ⟨?_, ?_⟩
    · rw [List.map_cons, PyData.canLayAll0, h1, h3]
      rfl
    · rw [List.map_cons, PyData.depthAll, h4]
      omega
theorem sh_T (k : List Int) : SeqAt.shaped (pT k) = true := by
  obtain ⟨h1, h2⟩ := lay_tup k
  unfold SeqAt.shaped
  rw [h1, h2]
  rfl
theorem sh_L (ks : List (List Int)) : SeqAt.shaped (pL ks) = true := by
  obtain ⟨h1, h2⟩ := lay_tups ks
  unfold SeqAt.shaped pL
  rw [PyData.canLay0, h1, PyData.depth, Bool.true_and]
  exact decide_eq_true (by omega)
theorem sh_TT (ks : List (List Int)) : SeqAt.shaped (pTT ks) = true := by
  obtain ⟨h1, h2⟩ := lay_tups ks
  unfold SeqAt.shaped pTT
  rw [PyData.canLay0, h1, PyData.depth, Bool.true_and]
  exact decide_eq_true (by omega)
theorem eqv_ints : ∀ k l : List Int, PyData.eqvAll (k.map .int) (l.map .int) = decide (k = l)
  | [], [] => by rw [List.map_nil, PyData.eqvAll]; rfl
  | [], _ :: _ => by rw [List.map_nil, List.map_cons, PyData.eqvAll]; simp
  | _ :: _, [] => by rw [List.map_nil, List.map_cons, PyData.eqvAll]; simp
  | x :: k, y :: l => by
    rw [List.map_cons, List.map_cons, PyData.eqvAll, eqv_ints k l, PyData.eqv]
    by_cases h : x = y
    · subst h
      simp
    · simp [h]
theorem eqv_T (k l : List Int) : PyData.eqv (pT k) (pT l) = decide (k = l) := by
  unfold pT
  rw [PyData.eqv, eqv_ints]
theorem eqv_Ts : ∀ k l : List (List Int), PyData.eqvAll (k.map pT) (l.map pT) = decide (k = l)
  | [], [] => by rw [List.map_nil, PyData.eqvAll]; rfl
  | [], _ :: _ => by rw [List.map_nil, List.map_cons, PyData.eqvAll]; simp
  | _ :: _, [] => by rw [List.map_nil, List.map_cons, PyData.eqvAll]; simp
  | x :: k, y :: l => by
    rw [List.map_cons, List.map_cons, PyData.eqvAll, eqv_Ts k l, eqv_T]
    by_cases h : x = y
    · subst h
      simp
    · simp [h]
theorem eqv_L (k l : List (List Int)) : PyData.eqv (pL k) (pL l) = decide (k = l) := by
  unfold pL
  rw [PyData.eqv, eqv_Ts]
theorem eqv_TT (k l : List (List Int)) : PyData.eqv (pTT k) (pTT l) = decide (k = l) := by
  unfold pTT
  rw [PyData.eqv, eqv_Ts]
theorem any_T (ks : List (List Int)) (k : List Int) : ((ks.map pT).any fun z => PyData.eqv z (pT k)) = decide (k ∈ ks) := by
  induction ks with
  | nil => simp
  | cons x ks ih =>
    rw [List.map_cons, List.any_cons, ih, eqv_T]
    by_cases h : x = k
    · simp [h]
    · have h' : ¬ k = x := fun e => h e.symm
      simp [h, h']
section
variable {K : PySem.W.Frag} {H : Hp} {a : Addr} {k : List Int} {ks : List (List Int)}
theorem dpa_ints : ∀ k : List Int, DpAll K H (k.map V.int) (k.map .int)
  | [] => .nil
  | x :: k => .cons (.int x) (dpa_ints k)
theorem dp_it (h : IT H a k) : Dp K H (.ref a) (pT k) := .tup (SqT.of h) (dpa_ints k)
theorem dpa_rts : ∀ {ks : List (List Int)} {vs : List V}, RTs ks vs H → DpAll K H vs (ks.map pT)
  | _, _, .nil => .nil
  | _, _, .cons r t => by
    obtain ⟨b, rfl, e⟩ := r
    exact .cons (dp_it e) (dpa_rts t)
theorem dp_ll (h : LL H a ks) : Dp K H (.ref a) (pL ks) := by
  obtain ⟨vs, e, r⟩ := h
  exact .lst (SqL.of e) (dpa_rts r)
theorem dp_tl (h : TL H a ks) : Dp K H (.ref a) (pTT ks) := by
  obtain ⟨vs, e, r⟩ := h
  exact .tup (SqT.of e) (dpa_rts r)
/-- x in l, x not in l; l == m, l != m -/
theorem in_ll {b : Addr} {Q : VK} (hb : IT H b k) (h : LL H a ks) (q : Q (.bl (decide (k ∈ ks))) H) : rInD K (.ref b) (.ref a) H Q := ⟨pT k, ks.map pT, dp_it hb, dp_ll h, sh_T k, sh_L ks, by rw [any_T]; exact q⟩
theorem ni_ll {b : Addr} {Q : VK} (hb : IT H b k) (h : LL H a ks) (q : Q (.bl (!decide (k ∈ ks))) H) : rNotInD K (.ref b) (.ref a) H Q := ⟨pT k, ks.map pT, dp_it hb, dp_ll h, sh_T k, sh_L ks, by rw [any_T]; exact q⟩
theorem eq_ll {b : Addr} {ls : List (List Int)} {Q : VK} (h : LL H a ks) (h' : LL H b ls) (q : Q (.bl (decide (ks = ls))) H) : rEqD K (.ref a) (.ref b) H Q := ⟨pL ks, pL ls, dp_ll h, dp_ll h', sh_L ks, sh_L ls, by rw [eqv_L]; exact q⟩
theorem ne_ll {b : Addr} {ls : List (List Int)} {Q : VK} (h : LL H a ks) (h' : LL H b ls) (q : Q (.bl (!decide (ks = ls))) H) : rNeD K (.ref a) (.ref b) H Q := ⟨pL ks, pL ls, dp_ll h, dp_ll h', sh_L ks, sh_L ls, by rw [eqv_L]; exact q⟩
theorem eq_tl {b : Addr} {ls : List (List Int)} {Q : VK} (h : TL H a ks) (h' : TL H b ls) (q : Q (.bl (decide (ks = ls))) H) : rEqD K (.ref a) (.ref b) H Q := ⟨pTT ks, pTT ls, dp_tl h, dp_tl h', sh_TT ks, sh_TT ls, by rw [eqv_TT]; exact q⟩
theorem ne_it {b : Addr} {l : List Int} {Q : VK} (h : IT H a k) (h' : IT H b l) (q : Q (.bl (!decide (k = l))) H) : rNeD K (.ref a) (.ref b) H Q := ⟨pT k, pT l, dp_it h, dp_it h', sh_T k, sh_T l, by rw [eqv_T]; exact q⟩
end

/-! ### dicts with tuple keys -/
def addK (ks : List (List Int)) (k : List Int) : List (List Int) := if k ∈ ks then ks else ks ++ [k]
theorem mem_addK {ks : List (List Int)} {k x : List Int} : x ∈ addK ks k ↔ x ∈ ks ∨ x = k := by
  unfold addK
  by_cases h : k ∈ ks
  · rw [if_pos h]
    exact ⟨.inl, fun z => z.elim id fun e => e ▸ h⟩
  · rw [if_neg h]
    simp
theorem nd_addK {ks : List (List Int)} {k : List Int} (h : ks.Nodup) : (addK ks k).Nodup := by
  unfold addK
  by_cases e : k ∈ ks
  · rw [if_pos e]
    exact h
  · rw [if_neg e]
    refine List.nodup_append.mpr ⟨h, by simp, fun x hx y hy => ?_⟩
    rw [List.mem_singleton.mp hy]
    exact fun z => e (z ▸ hx)
theorem len_addK (ks : List (List Int)) (k : List Int) : (addK ks k).length ≤ ks.length + 1 := by
  unfold addK
  split
  · omega
  · rw [List.length_append, List.length_singleton]
    omega
def dd (ks : List (List Int)) : List (List Int) := ks.foldl addK []
theorem dd_snoc (ks : List (List Int)) (k : List Int) : dd (ks ++ [k]) = addK (dd ks) k := by
  unfold dd
  rw [List.foldl_append]
  rfl
theorem fold_addK : ∀ (l acc : List (List Int)), acc.Nodup → (∀ x, x ∈ l.foldl addK acc ↔ x ∈ acc ∨ x ∈ l) ∧ (l.foldl addK acc).Nodup ∧ (l.foldl addK acc).length ≤ acc.length + l.length
  | [], acc, h => ⟨fun x => by simp, h, by simp⟩
  | k :: l, acc, h => by
    obtain ⟨h1, h2, h3⟩ := fold_addK l (addK acc k) (nd_addK h)
    refine ⟨fun x => ?_, h2, ?_⟩
    · rw [List.foldl_cons, h1, mem_addK, List.mem_cons]
      exact ⟨fun z => z.elim (fun z => z.elim .inl fun e => .inr (.inl e)) fun e => .inr (.inr e), fun z => z.elim (fun e => .inl (.inl e)) fun z => z.elim (fun e => .inl (.inr e)) .inr⟩
    · have := len_addK acc k
      rw [List.foldl_cons, List.length_cons]
      omega
theorem mem_dd {ks : List (List Int)} {x : List Int} : x ∈ dd ks ↔ x ∈ ks := ((fold_addK ks [] List.nodup_nil).1 x).trans (by simp)
theorem nd_dd (ks : List (List Int)) : (dd ks).Nodup := (fold_addK ks [] List.nodup_nil).2.1
theorem len_dd (ks : List (List Int)) : (dd ks).length ≤ ks.length := by
  have h := (fold_addK ks [] List.nodup_nil).2.2
  rw [List.length_nil, Nat.zero_add] at h
  exact h
theorem keyI_mem {ks : List (List Int)} {k : List Int} : keyI k ∈ ks.map keyI ↔ k ∈ ks := by
  rw [List.mem_map]
  exact ⟨fun ⟨x, h, e⟩ => keyI_inj e ▸ h, fun h => ⟨k, h, rfl⟩⟩
theorem any_key (kvs : List (List L2.Key × V)) (q : List L2.Key) : (kvs.any fun kv => decide (kv.1 = q)) = true ↔ q ∈ kvs.map (·.1) := by
  rw [List.any_eq_true, List.mem_map]
  exact ⟨fun ⟨p, h, e⟩ => ⟨p, h, of_decide_eq_true e⟩, fun ⟨p, h, e⟩ => ⟨p, h, decide_eq_true e⟩⟩
theorem put_keys {kvs : List (List L2.Key × V)} {ks : List (List Int)} {k : List Int} (v : V) (e : kvs.map (·.1) = ks.map keyI) : (putK kvs (keyI k) v).map (·.1) = (addK ks k).map keyI := by
  unfold putK addK
  by_cases h : k ∈ ks
  · rw [if_pos ((any_key kvs _).mpr (by rw [e]; exact keyI_mem.mpr h)), if_pos h, List.map_map, ← e]
    refine List.map_congr_left fun p _ => ?_
    show (if p.1 = keyI k then (p.1, v) else p).1 = p.1
    split <;> rfl
  · rw [if_neg (fun z => h (by have z2 := (any_key kvs _).mp z; rw [e] at z2; exact keyI_mem.mp z2)), if_neg h, List.map_append, List.map_append, e]
    rfl
section
variable {H : Hp} {d b : Addr} {k : List Int} {ks : List (List Int)}
theorem dk_get (h : DK H d ks) (hb : IT H b k) : ∃ o, DGet H d (.ref b) o ∧ o.isSome = decide (k ∈ ks) := by
  obtain ⟨kvs, e, ek⟩ := h
  refine ⟨_, DGet.t (k := keyI k) e (by rw [keyI_v]; exact hb), ?_⟩
  rw [← valV_any]
  by_cases h : k ∈ ks
  · rw [decide_eq_true h]
    exact (any_key kvs _).mpr (by rw [ek]; exact keyI_mem.mpr h)
  · rw [decide_eq_false h]
    refine Bool.eq_false_iff.mpr fun z => h ?_
    have z2 := (any_key kvs _).mp z
    rw [ek] at z2
    exact keyI_mem.mp z2
theorem dk_put {v : V} (h : DK H d ks) (hb : IT H b k) (hl : ks.length ≤ 1000000) : ∃ o, DPut H d (.ref b) v (upd H d o) ∧ (∀ xs, o ≠ .tup xs) ∧ DK (upd H d o) d (addK ks k) := by
  obtain ⟨kvs, e, ek⟩ := h
  have hlen : kvs.length = ks.length := by
    have := congrArg List.length ek
    rw [List.length_map, List.length_map] at this
    exact this
  exact ⟨_, DPut.t (k := keyI k) e (by rw [keyI_v]; exact hb) (by rw [hlen]; exact big hl), (fun _ z => nomatch z), _, upd_same, put_keys v ek⟩
theorem DK.go {H' : Hp} (h : DK H d ks) (s : Same H H') : DK H' d ks := by
  obtain ⟨kvs, e, ek⟩ := h
  exact ⟨kvs, s _ _ e, ek⟩
theorem DK.not_tup (h : DK H d ks) (xs : List V) : H d ≠ some (.tup xs) := fun z => by
  obtain ⟨kvs, e, _⟩ := h
  rw [e] at z
  cases z
end
section
variable {J : It} {G : Hp → Prop} {g : TG} {tt : TT} {tk tv : TE} {vs : List Nat} {σ : L2.St} {H1 : Hp} {D : Addr} {Qd : Hp → Prop}
/-- {k: True for k in xs}, xs tuples of ints -/
theorem dt_from {xs : List V} {ks : List (List Int)} (w : Walk J xs.length G (YAt xs)) (hG : ∀ H, Same H1 H → G H) (hp : RTs ks xs H1) (hD : H1 D = none) (hn : ks.length ≤ 1000)
    (hs : ∀ (k0 : List Int) (b : Addr) (kvs : List (List L2.Key × V)) (H : Hp) (N : Hp → Prop), k0 ∈ ks → H b = some (.tup (List.map kV (keyI k0))) → H D = some (.dT kvs) → kvs.length < sizeLine → N (upd H D (.dT (putK kvs (keyI k0) (.bl true)))) →
      g (.ref b) (wipe σ vs) H fun σ2 H2 => wipe σ2 vs = wipe σ vs ∧ tt σ2 H2 fun b H3 => if b = true then tbPut tk tv D σ2 H3 N else N H3)
    (hd : ∀ H, Same H1 H → DK H D (dd ks) → Qd H) :
    ∃ W : Nat → Nat → Hp → Prop, (∃ m, W 0 m (upd H1 D (.dT []))) ∧ ∀ i m H, W i m H →
      (J.stop i H ∧ Qd H) ∨ (J.go i H ∧ ∃ Nx : Hp → Prop, (∀ H', Nx H' → ∃ m', m' < m ∧ W (i + 1) m' H') ∧ ∀ x H', J.yld i H x H' → g x (wipe σ vs) H' fun σ2 H2 => wipe σ2 vs = wipe σ vs ∧ tt σ2 H2 fun b H3 => if b = true then tbPut tk tv D σ2 H3 Nx else Nx H3) := by
  have hl : ks.length = xs.length := Paired.length hp
  refine ⟨fun i m H => m = xs.length - i ∧ i ≤ xs.length ∧ Same H1 H ∧ DK H D (dd (ks.take i)), ⟨xs.length, by simp, Nat.zero_le _, same_new hD, [], upd_same, rfl⟩, ?_⟩
  rintro i m H ⟨rfl, hi, sm, hk⟩
  have hg := hG H sm
  by_cases hlt : i < xs.length
  · refine .inr ⟨w.goes i H hlt hg, fun H' => Same H1 H' ∧ DK H' D (dd (ks.take (i + 1))), fun H' h' => ⟨xs.length - (i + 1), by omega, rfl, hlt, h'⟩, fun x H' y => ?_⟩
    obtain ⟨rfl, hx⟩ := w.yields i H x H' hlt hg y
    obtain ⟨k0, e0, b, rfl, hb⟩ := pr_get hp hx
    obtain ⟨kvs, e, ek⟩ := hk
    have hle : kvs.length ≤ 1000 := by
      have h1 := congrArg List.length ek
      rw [List.length_map, List.length_map] at h1
      have h2 := len_dd (ks.take i)
      rw [List.length_take] at h2
      omega
    refine hs k0 b kvs _ _ (List.mem_of_getElem? e0) (by rw [keyI_v]; exact sm _ _ hb) e (big (by omega)) ⟨same_mut sm hD, _, upd_same, ?_⟩
    rw [List.take_add_one, e0]
    show _ = (dd (ks.take i ++ [k0])).map keyI
    rw [dd_snoc]
    exact put_keys _ ek
  · have ei : i = xs.length := by omega
    subst ei
    rw [← hl, List.take_length] at hk
    exact .inl ⟨w.stops H hg, hd H sm hk⟩
end
end K41

/-! K41F2 -/
/-! few_least_of. -/
namespace K41
open PySem PySem.Spec PyProof.Rows L2
def tNo : TE := fun _ _ _ => False
theorem pe_never {X : Cx} {e : Expr} : PE X e tNo := ⟨fun _ _ _ _ _ _ h => h.elim⟩
/-- a source of tuples: a list, a tuple -/
def Seq (H : Hp) (a : Addr) (ks : List (List Int)) : Prop := LL H a ks ∨ TL H a ks
theorem Seq.walk {K : PySem.W.Frag} {H : Hp} {a : Addr} {ks : List (List Int)} (h : Seq H a ks) {tl : TE} {σ : L2.St} {R : It → Hp → Prop} (ht : ∀ {Q : VK}, Q (.ref a) H → tl σ H Q)
    (q : ∀ (J : It) (xs : List V) (G : Hp → Prop), RTs ks xs H → Walk J xs.length G (YAt xs) → (∀ H', Same H H' → G H') → R J H) : iSeq K tl σ H R := by
  rcases h with ⟨vs, e, r⟩ | ⟨vs, e, r⟩
  · exact .inl (ht ⟨a, rfl, ⟨vs, SqL.of e⟩, q _ vs _ r walk_list fun H' s => SqL.of (s _ _ e)⟩)
  · exact .inr (ht ⟨a, rfl, ⟨vs, SqT.of e⟩, q _ vs _ r walk_tup fun H' s => SqT.of (s _ _ e)⟩)
theorem rts_at {ks : List (List Int)} {vs : List V} {H : Hp} (r : RTs ks vs H) {i : Nat} {x : V} (h : vs[i]? = some x) : ∃ k b, ks[i]? = some k ∧ x = .ref b ∧ IT H b k := by
  obtain ⟨k, e, b, rfl, hb⟩ := pr_get r h
  exact ⟨k, b, e, rfl, hb⟩
section
variable {P : Program} {w : World} {K : PySem.W.Frag} {mg : Str → Option Value} {base : Heap}
def spFL : Sp := fun vs H Q _ => ∃ (a : Addr) (ks : List (List Int)) (n : Nat), vs = [.ref a] ∧ Seq H a ks ∧ ks.length ≤ 500 ∧ 0 < n ∧ n ≤ 8 ∧ (∀ k ∈ ks, k.length = n ∧ ∀ x ∈ k, x ≤ 60) ∧ Few ks ∧
  ∀ H' p ks', Same H H' → H p = none → ks'.Nodup → ks'.Pairwise lexT → (∀ k, k ∈ ks' ↔ Least ks k) → TL H' p ks' → Q (.ref p) H'
theorem sc_FL : FnScope ["products", "once", "found", "product", "one"] ["products"] (defScope (top 33)) := ⟨rfl, rfl, rfl, by decide +kernel, rfl, by decide +kernel, by decide +kernel⟩
theorem ok_FL (T : Tx K mg) : Ok P w K mg base "few_least_of" 2 ["products"] spFL := by
  refine mkOk T.d_few_least_of sc_FL (fun _ _ _ _ _ _ us hl => match us, hl with | [_], _ => rfl) (fun vs H Q E h => by obtain ⟨a, k, n, rfl, _⟩ := h; rfl) (fun cdv A outer s H vs Q E f hr h => ?_)
  obtain ⟨a, ks, n, rfl, hsq, hz, hn0, hn8, hk, few, q⟩ := h
  obtain ⟨t, hc⟩ := T.c_MAX_MEMBERS
  refine ⟨_, pss_cons (ps_set (i := 1) sc_FL.nd rfl (Or.inl rfl) (pe_sortKey (S := DK) (sw_sum (by exact hr.hd)) (fun I h hz R => col_dict (A := (A.deeper (envOfC "few_least_of" (defScope (top 33)) s.heap.objs.size f cdv)).in1) I h hr.hd hz R)
      (pa_cons (pe_dt1 (own := [("one", 4)]) (g := gName 4) (tt := tYes) rfl (u1 hr.units) sc_FL.nd (pi_sK K (pv 0)) (blkOk_by (N := ["products", "once", "found", "product", "one"]) (sc := defScope (top 33)) (by decide +kernel))
        (fun _ _ _ _ _ => pg_name (i := 4) sc_FL.nd rfl (Or.inl rfl)) (fun _ _ _ _ _ => pts_nil) (fun _ _ _ _ _ => pv 4) (fun _ _ _ _ _ => pe_bl)) pa_nil)
      (by rfl) T.f_sorted (by rfl) T.f_sum (by rfl)))
    (pss_cons (ps_if (PW.pt (pw_and (pt_val (pcall (ok_Long T) (hr.mono (by decide)) (pa_cons (pv 1) pa_nil))) (pw_and1 (pt_val pe_never)))) (pss_one ps_never) pss_nil)
    (pss_cons (ps_set (i := 2) sc_FL.nd rfl (Or.inl rfl) (pe_lst pa_nil))
    (pss_cons (ps_for PassesOwn.never rfl (pi_lK K (pv 1)) (pg_name (i := 3) sc_FL.nd rfl (Or.inr rfl))
      (pss_one (ps_if (pt_not (pt_val (pe_callB (crAny K rfl) (by rfl) T.f_any (by decide +kernel) (pa_cons (pe_lc (own := [("one", 4)]) (g := gName 4) (tt := tYes) rfl sc_FL.nd (pi_lK K (pv 2))
          (blkOk_by (N := ["products", "once", "found", "product", "one"]) (sc := defScope (top 33)) (by decide +kernel)) (fun _ _ _ _ _ => pg_name (i := 4) sc_FL.nd rfl (Or.inl rfl)) (fun _ _ _ _ _ => pts_nil)
          (fun _ _ _ _ _ => pcall (ok_Div T) (hr.mono (by decide)) (pa_cons (pv 4) (pa_cons (pv 3) pa_nil)))) pa_nil))))
        (pss_cons (ps_expr (pe_bm PySem.F.plainAttrs_list PySem.F.slot_list_append PySem.F.type_list_append mt_append (pv 2) (pa_cons (pv 3) pa_nil)))
          (pss_one (ps_if (pt_cmpR op_gt (pe_callB (crLen K) (by rfl) T.f_len PySem.boot_len (pa_cons (pv 2) pa_nil)) (pe_glob (v := .int 24) (by rfl) hc ⟨_, rfl⟩) (nomark _)) (pss_one ps_never) pss_nil))) pss_nil)))
    (pss_one (ps_ret (pe_callTy (crTup K) (by rfl) T.f_tuple (by decide +kernel) (pa_cons (pe_callB (crSortL (u8 hr.units)) (by rfl) T.f_sorted (by decide +kernel) (pa_cons (pv 2) pa_nil)) pa_nil))))))), ?_⟩
  refine Seq.walk hsq (fun hq => ⟨_, rfl, hq⟩) fun J xs G rv wk hG D hD => ?_
  refine dt_from wk hG rv hD (by omega) (fun k0 b kvs H1 N hk0 hb hd hl hN => ⟨rfl, yes (iteT ⟨_, rfl, _, _, _, rfl, hb, hd, hl, hN⟩)⟩) fun H1 sm hdk => ?_
  have hdl := len_dd ks
  refine ⟨D, dd ks, rfl, hdk, by omega, fun once ys p1 pm srt r1 hp1 => ?_⟩
  have sm1 : Same H (upd H1 p1 (.lst ys)) := sm.trans (same_new hp1)
  have r1' : RTs once ys (upd H1 p1 (.lst ys)) := rts_go (tups_of (same_new hp1)) r1
  have honce : ∀ x, x ∈ once ↔ x ∈ ks := fun x => pm.mem_iff.trans mem_dd
  have hon : once.Nodup := pm.nodup_iff.mpr (nd_dd ks)
  have hol : ∀ x ∈ once, x.length = n := fun x hx => (hk x ((honce x).mp hx)).1
  have hlen : once.length ≤ 500 := by rw [pm.length_eq]; omega
  have hyl : once.length = ys.length := Paired.length r1
  refine ⟨_, rfl, p1, once, rfl, ⟨ys, upd_same, r1'⟩, by omega, fun x hx => ⟨by rw [hol x hx]; exact hn0, (hk x ((honce x).mp hx)).2⟩, fun H2 sm2 => ?_⟩
  refine ⟨false, rfl, bigle (by decide), fun p2 hp2 => ?_⟩
  have sm2' : Same H (upd H2 p2 (.lst [])) := sm1.trans (sm2.trans (same_new hp2))
  have hfp2 : H p2 = none := fresh_of (sm1.trans sm2) hp2
  have hy2 : H2 p1 = some (.lst ys) := sm2 _ _ upd_same
  have r2 : RTs once ys H2 := rts_go (tups_of sm2) r1'
  refine ⟨_, rfl, p1, rfl, ⟨ys, SqL.of ((same_new hp2) _ _ hy2)⟩, ?_⟩
  refine for_it (walk_list (xs := ys)) (fun i σ H3 => ∃ c d, σ = [some (V.ref a), some (V.ref p1), some (.ref p2), c, d] ∧ Same H2 H3 ∧ LL H3 p2 ((once.take i).foldl stepL [])) ⟨_, _, rfl, same_new hp2, [], upd_same, .nil⟩ (fun i σ H3 _ hP => ?_) (fun i x σ H3 H4 hi hP y => ?_) (fun σ H3 hP => ?_)
  · obtain ⟨c, d, _, s3, _⟩ := hP
    exact SqL.of (s3 _ _ hy2)
  · obtain ⟨c, d, rfl, s3, ⟨vs, hv, rv3⟩⟩ := hP
    obtain ⟨rfl, hx⟩ := y
    obtain ⟨k0, b, e0, rfl, hb⟩ := rts_at r2 hx
    have hko : k0 ∈ once := List.mem_of_getElem? e0
    have enext : (once.take (i + 1)).foldl stepL [] = stepL ((once.take i).foldl stepL []) k0 := by
      rw [List.take_add_one, e0, List.foldl_append]
      rfl
    have I0 := linv_take hol hon srt i (by omega)
    have I1 := linv_take hol hon srt (i + 1) (by omega)
    rw [enext] at I1
    obtain ⟨fo, hfo⟩ : ∃ fo, fo = (once.take i).foldl stepL [] := ⟨_, rfl⟩
    rw [← hfo] at I0 I1 rv3
    have hfl : fo.length ≤ 24 := few fo I0.nd (fun x hx => (honce x).mp (List.mem_of_mem_take (I0.sub x hx))) I0.anti
    have hfl1 : (stepL fo k0).length ≤ 24 := few _ I1.nd (fun x hx => (honce x).mp (List.mem_of_mem_take (I1.sub x hx))) I1.anti
    refine ⟨_, rfl, p2, rfl, ⟨vs, SqL.of hv⟩, fun D2 hD2 => ?_⟩
    refine lc_fromM (xs := vs) (ks := fo) RT RB (fun _ _ _ _ _ r => r) (fun o => dv o k0) walk_list (fun H5 s5 => SqL.of (s5 _ _ hv)) rv3 hD2 (by omega) (fun o x H5 Kk ho s5 r hk1 => ?_) (fun H5 ys5 s5 hy5 pr5 => ?_)
    · obtain ⟨c5, rfl, hc5⟩ := r
      refine ⟨rfl, _, rfl, _, rfl, c5, b, o, k0, rfl, s5 _ _ hc5, s5 _ _ (s3 _ _ hb), ?_, ?_, fun H6 s6 => hk1 _ _ s6 rfl⟩
      · rw [hol k0 hko, hol o (List.mem_of_mem_take (I0.sub o ho))]
      · rw [hol o (List.mem_of_mem_take (I0.sub o ho))]
        omega
    · have e5 := rb_list pr5
      subst e5
      refine ⟨D2, _, rfl, SqL.of hy5, ?_⟩
      rw [any_map_id]
      have hv5 : H5 p2 = some (.lst vs) := s5 _ _ hv
      by_cases hany : fo.any (fun o => dv o k0) = true
      · rw [hany]
        refine ⟨true, rfl, iteF ⟨_, _, rfl, s3.trans s5, vs, hv5, ?_⟩⟩
        rw [enext, ← hfo]
        unfold stepL
        rw [if_pos hany]
        exact rts_go (tups_of s5) rv3
      · rw [Bool.eq_false_iff.mpr hany]
        have hvl : vs.length ≤ 24 := by rw [← rts_len rv3]; exact hfl
        have est : stepL fo k0 = fo ++ [k0] := by
          unfold stepL
          rw [if_neg hany]
        have hlen6 : (vs ++ [V.ref b]).length ≤ 24 := by
          rw [est, List.length_append, List.length_singleton] at hfl1
          rw [List.length_append, List.length_singleton, ← rts_len rv3]
          exact hfl1
        have s6 : Same H2 (upd H5 p2 (.lst (vs ++ [V.ref b]))) := same_mut (s3.trans s5) hp2
        refine ⟨false, rfl, iteT ⟨_, rfl, .inl ⟨rfl, _, SqL.of hv5⟩, _, rfl, p2, vs, _, rfl, rfl, hv5, big (by omega), ?_⟩⟩
        refine ⟨_, rfl, p2, _, rfl, .inl (SqL.of upd_same), _, 24, rfl, rfl, _, rfl, ?_⟩
        have hnot : decide ((24 : Int) < ((vs ++ [V.ref b]).length : Int)) = false := decide_eq_false (by omega)
        rw [hnot]
        refine iteF ⟨_, _, rfl, s6, vs ++ [.ref b], upd_same, ?_⟩
        rw [enext, ← hfo, est]
        have ts : TupS H5 (upd H5 p2 (.lst (vs ++ [V.ref b]))) := tups_upd hv5 fun _ z => nomatch z
        exact rts_app (rts_go ((tups_of s5).trans ts) rv3) (.cons ⟨b, rfl, ts _ _ (s5 _ _ (s3 _ _ hb))⟩ .nil)
  · obtain ⟨c, d, rfl, s3, hL⟩ := hP
    have I0 := linv_take hol hon srt once.length (Nat.le_refl _)
    rw [← hyl, List.take_length] at hL
    rw [List.take_length] at I0
    have hfl : (once.foldl stepL []).length ≤ 24 := few _ I0.nd (fun x hx => (honce x).mp (I0.sub x hx)) I0.anti
    refine ⟨_, rfl, p2, _, rfl, hL, by omega, fun fs zs p3 pm3 srt3 r3 hp3 => ?_⟩
    refine ⟨p3, zs, rfl, .inl ⟨SqL.of upd_same, fun p4 hp4 => ?_⟩⟩
    have s4 : Same H (upd (upd H3 p3 (.lst zs)) p4 (.tup zs)) := (sm1.trans sm2).trans (s3.trans ((same_new hp3).trans (same_new hp4)))
    refine q _ p4 fs s4 ?_ (pm3.nodup_iff.mpr I0.nd) srt3 (fun k => ?_) ⟨zs, upd_same, rts_go (tups_of ((same_new hp3).trans (same_new hp4))) r3⟩
    · exact fresh_of ((sm1.trans sm2).trans (s3.trans (same_new hp3))) hp4
    · rw [pm3.mem_iff, I0.least hol]
      exact least_same honce k
end
end K41

/-! K41F3 -/
/-! closed_downward, greatest_of. -/
namespace K41
open PySem PySem.Spec PyProof.Rows L2
section
variable {P : Program} {w : World} {K : PySem.W.Frag} {mg : Str → Option Value} {base : Heap}
theorem ll_upd {H : Hp} {l D : Addr} {ks : List (List Int)} {o u : HO} (h : LL H l ks) (hD : H D = some u) (hu : ∀ xs, u ≠ .tup xs) (hl : l ≠ D) : LL (upd H D o) l ks := by
  obtain ⟨vs, e, r⟩ := h
  exact ⟨vs, by rw [upd_ne hl]; exact e, rts_go (tups_upd hD hu) r⟩
theorem fm_not (p : List Int → Prop) [DecidablePred p] : ∀ ks : List (List Int), (ks.filterMap fun k => if p k then none else some k) = ks.filter fun k => decide ¬ p k
  | [] => rfl
  | k :: ks => by
    by_cases hm : p k
    · rw [List.filterMap_cons_none (by rw [if_pos hm]), List.filter_cons_of_neg (by simp [hm]), fm_not p ks]
    · rw [List.filterMap_cons_some (by rw [if_neg hm]), List.filter_cons_of_pos (by simp [hm]), fm_not p ks]
theorem wo_few {k : List Int} : (wo k).length = k.length := by
  unfold wo
  rw [List.length_map, List.length_range]
/-! ### greatest_of -/
def spGO : Sp := fun vs H Q _ => ∃ (a : Addr) (ks : List (List Int)) (n : Nat), vs = [.ref a] ∧ LL H a ks ∧ ks.length ≤ 64 ∧ ks.Nodup ∧ (∀ k ∈ ks, k.length ≤ 8) ∧
  ∀ H' p ks', Same H H' → H p = none → ks'.Nodup → ks'.Pairwise lexT → (∀ k, k ∈ ks' ↔ GreatOf ks k) → TL H' p ks' → Q (.ref p) H'
theorem sc_GO : FnScope ["sets", "within", "chosen", "smaller"] ["sets"] (defScope (top 57)) := ⟨rfl, rfl, rfl, by decide +kernel, rfl, by decide +kernel, by decide +kernel⟩
theorem ok_GO (T : Tx K mg) : Ok P w K mg base "greatest_of" 2 ["sets"] spGO := by
  refine mkOk T.d_greatest_of sc_GO (fun _ _ _ _ _ _ us hl => match us, hl with | [_], _ => rfl) (fun vs H Q E h => by obtain ⟨a, k, n, rfl, _⟩ := h; rfl) (fun cdv A outer s H vs Q E f hr h => ?_)
  obtain ⟨a, ks, n, rfl, hL, hz, hnd, hk, q⟩ := h
  refine ⟨_, pss_cons (ps_set (i := 1) sc_GO.nd rfl (Or.inr rfl) (pe_dt2 (own := [("chosen", 2), ("smaller", 3)]) (vs1 := [3]) (g := gName 2) (tt := tYes) (g1 := gName 3) (tt1 := tYes) rfl (u1 hr.units) sc_GO.nd (pi_lK K (pv 0))
      (blkOk_by (N := ["sets", "within", "chosen", "smaller"]) (sc := defScope (top 57)) (by decide +kernel)) (by decide) (fun _ _ _ _ _ => pg_name (i := 2) sc_GO.nd rfl (Or.inl rfl)) (fun _ _ _ _ _ => pts_nil)
      (fun _ _ _ _ _ => pi_lK K (pcall (ok_WE T) (hr.mono (by decide)) (pa_cons (pv 2) pa_nil))) (fun _ _ _ _ _ => pg_name (i := 3) sc_GO.nd rfl (Or.inl rfl)) (fun _ _ _ _ _ => pts_nil)
      (fun _ _ _ _ _ => pv 3) (fun _ _ _ _ _ => pe_bl)))
    (pss_one (ps_ret (pe_callTy (crTup K) (by rfl) T.f_tuple (by decide +kernel) (pa_cons (pe_callB (crSortL (u8 hr.units)) (by rfl) T.f_sorted (by decide +kernel) (pa_cons
      (pe_lc (own := [("chosen", 2)]) (g := gName 2) rfl sc_GO.nd (pi_lK K (pv 0)) (blkOk_by (N := ["sets", "within", "chosen", "smaller"]) (sc := defScope (top 57)) (by decide +kernel)) (fun _ _ _ _ _ => pg_name (i := 2) sc_GO.nd rfl (Or.inl rfl))
        (fun _ _ _ _ _ => pts_one (pt_cmp (pc_dnotin (u1 hr.units) (pv 2) (pv 1)) rfl)) (fun _ _ _ _ _ => pv 2)) pa_nil)) pa_nil)))), ?_⟩
  obtain ⟨vs, hvs, rv⟩ := hL
  have hlv : ks.length = vs.length := Paired.length rv
  refine ⟨_, rfl, a, rfl, ⟨vs, SqL.of hvs⟩, fun D hD => ?_⟩
  refine ⟨fun i m H1 => m = ks.length - i ∧ i ≤ ks.length ∧ Same H H1 ∧ ∃ F, DK H1 D F ∧ F.length ≤ 8 * i ∧ ∀ x, x ∈ F ↔ ∃ c ∈ ks.take i, x ∈ wo c, ⟨ks.length, by omega, by omega, same_new hD, [], ⟨[], upd_same, rfl⟩, by simp, fun x => by simp⟩, fun i m H1 hW => ?_⟩
  obtain ⟨rfl, hi, sm, F, hF, hFl, hFm⟩ := hW
  by_cases hlt : i < ks.length
  · refine .inr ⟨⟨vs, vs[i]'(by omega), SqL.of (sm _ _ hvs), List.getElem?_eq_getElem (by omega)⟩, fun H2 => Same H H2 ∧ ∃ F, DK H2 D F ∧ F.length ≤ 8 * (i + 1) ∧ ∀ x, x ∈ F ↔ ∃ c ∈ ks.take (i + 1), x ∈ wo c, fun H2 h2 => ⟨ks.length - (i + 1), by omega, rfl, hlt, h2⟩, fun x H2 yl => ?_⟩
    obtain ⟨rfl, fx⟩ := yl
    obtain ⟨k0, b, e0, rfl, hb⟩ := rts_at rv (fx vs (SqL.of (sm _ _ hvs)))
    have hk0 : k0.length ≤ 8 := hk k0 (List.mem_of_getElem? e0)
    have htake : ∀ x, (∃ c ∈ ks.take (i + 1), x ∈ wo c) ↔ (∃ c ∈ ks.take i, x ∈ wo c) ∨ x ∈ wo k0 := fun x => by
      rw [List.take_add_one, e0]
      constructor
      · rintro ⟨c, hc, hx⟩
        rcases List.mem_append.mp hc with hc | hc
        · exact .inl ⟨c, hc, hx⟩
        · rw [show c = k0 by simpa using hc] at hx
          exact .inr hx
      · rintro (⟨c, hc, hx⟩ | hx)
        · exact ⟨c, List.mem_append_left _ hc, hx⟩
        · exact ⟨k0, List.mem_append_right _ (by simp), hx⟩
    refine ⟨rfl, yes (iteT ?_)⟩
    refine ⟨_, rfl, b, k0, rfl, sm _ _ hb, by omega, fun H3 l s3 hl3 hL3 => ?_⟩
    obtain ⟨ws, hws, rw3⟩ := hL3
    have hlw : (wo k0).length = ws.length := Paired.length rw3
    have hlD : l ≠ D := fun z => by
      obtain ⟨kv, e, _⟩ := hF
      rw [z, e] at hl3
      cases hl3
    refine ⟨l, rfl, ⟨ws, SqL.of hws⟩, fun j k H4 => k = (wo k0).length - j ∧ j ≤ (wo k0).length ∧ Same H H4 ∧ (H4 l = some (.lst ws) ∧ RTs (wo k0) ws H4) ∧ ∃ F, DK H4 D F ∧ F.length ≤ 8 * i + j ∧ ∀ x, x ∈ F ↔ (∃ c ∈ ks.take i, x ∈ wo c) ∨ x ∈ (wo k0).take j,
      ⟨(wo k0).length, by omega, by omega, sm.trans s3, ⟨hws, rw3⟩, F, hF.go s3, by omega, fun x => by rw [hFm]; simp⟩, fun j k H4 hW1 => ?_⟩
    obtain ⟨rfl, hj, s4, ⟨hws4, rw4⟩, F4, hF4, hFl4, hFm4⟩ := hW1
    by_cases hjt : j < (wo k0).length
    · refine .inr ⟨⟨ws, ws[j]'(by omega), SqL.of hws4, List.getElem?_eq_getElem (by omega)⟩, fun H5 => Same H H5 ∧ (H5 l = some (.lst ws) ∧ RTs (wo k0) ws H5) ∧ ∃ F, DK H5 D F ∧ F.length ≤ 8 * i + (j + 1) ∧ ∀ x, x ∈ F ↔ (∃ c ∈ ks.take i, x ∈ wo c) ∨ x ∈ (wo k0).take (j + 1), fun H5 h5 => ⟨(wo k0).length - (j + 1), by omega, rfl, hjt, h5⟩, fun x H5 yl => ?_⟩
      obtain ⟨rfl, fx2⟩ := yl
      obtain ⟨y0, b0, e1, rfl, hb0⟩ := rts_at rw4 (fx2 ws (SqL.of hws4))
      obtain ⟨kvs, ekv, ek⟩ := hF4
      have hkl : kvs.length ≤ 1000 := by
        have h1 := congrArg List.length ek
        rw [List.length_map, List.length_map] at h1
        have h2 := wo_few (k := k0)
        omega
      have ts : TupS H5 (upd H5 D (.dT (putK kvs (keyI y0) (.bl true)))) := tups_upd ekv fun _ z => nomatch z
      refine ⟨rfl, yes (iteT ?_)⟩
      refine ⟨_, rfl, kvs, keyI y0, b0, rfl, by rw [keyI_v]; exact hb0, ekv, big (by omega), same_mut s4 hD, ⟨by rw [upd_ne hlD]; exact hws4, rts_go ts rw4⟩, addK F4 y0, ⟨_, upd_same, put_keys _ ek⟩, ?_, fun x => ?_⟩
      · have := len_addK F4 y0
        omega
      · rw [mem_addK, hFm4, List.take_add_one, e1]
        simp only [Option.toList_some, List.mem_append, List.mem_singleton]
        exact or_assoc
    · have ej : j = (wo k0).length := by omega
      have hwk := wo_few (k := k0)
      refine .inl ⟨⟨ws, SqL.of hws4, by omega⟩, s4, F4, hF4, by omega, fun x => ?_⟩
      rw [hFm4, htake, ej, List.take_length]
  · have ei : i = ks.length := by omega
    refine .inl ⟨⟨vs, SqL.of (sm _ _ hvs), by omega⟩, ?_⟩
    rw [ei, List.take_length] at hFm
    have rv1 : RTs ks vs H1 := rts_go (tups_of sm) rv
    refine ⟨_, rfl, a, rfl, ⟨vs, SqL.of (sm _ _ hvs)⟩, fun D2 hD2 => ?_⟩
    refine lc_from (xs := vs) (ks := ks) RT RT (fun _ _ _ _ s r => r.go s) (fun k => if k ∈ F then none else some k) walk_list (fun H2 s2 => SqL.of (s2 _ _ (sm _ _ hvs))) rv1 hD2 (by omega) (fun k0 x H2 Kk N hk0 s2 r h1 h2 => ?_) (fun H2 ys s2 hy pr => ?_)
    · obtain ⟨b, rfl, hb⟩ := r
      obtain ⟨o, hg, ho⟩ := dk_get (hF.go s2) (s2 _ _ hb)
      refine ⟨rfl, _, rfl, _, rfl, D, o, rfl, hg, _, rfl, ?_⟩
      rw [ho]
      by_cases hm : k0 ∈ F
      · rw [decide_eq_true hm]
        exact iteF (h2 _ (if_pos hm) (Same.refl _))
      · rw [decide_eq_false hm]
        exact iteT ⟨_, rfl, h1 k0 _ _ (if_neg hm) (Same.refl _) ⟨b, rfl, s2 _ _ hb⟩⟩
    · have hsub : (ks.filterMap fun k => if k ∈ F then none else some k) = ks.filter fun k => decide (k ∉ F) := by
        exact fm_not (fun k => k ∈ F) ks
      rw [hsub] at pr
      have hl2 := List.length_filter_le (fun k => decide (k ∉ F)) ks
      refine ⟨D2, _, rfl, ⟨ys, hy, pr⟩, by omega, fun fs zs p3 pm3 srt3 r3 hp3 => ?_⟩
      refine ⟨p3, zs, rfl, .inl ⟨SqL.of upd_same, fun p4 hp4 => ?_⟩⟩
      have sa : Same H (upd (upd H2 p3 (.lst zs)) p4 (.tup zs)) := (sm.trans s2).trans ((same_new hp3).trans (same_new hp4))
      refine q _ p4 fs sa (fresh_of ((sm.trans s2).trans (same_new hp3)) hp4) (pm3.nodup_iff.mpr (hnd.sublist List.filter_sublist)) srt3 (fun k => ?_) ⟨zs, upd_same, rts_go (tups_of ((same_new hp3).trans (same_new hp4))) r3⟩
      rw [pm3.mem_iff, List.mem_filter, decide_eq_true_eq, hFm]
      exact ⟨fun ⟨u, v⟩ => ⟨u, fun y hy h => v ⟨y, hy, h⟩⟩, fun ⟨u, v⟩ => ⟨u, fun ⟨y, hy, h⟩ => v y hy h⟩⟩
end
end K41

/-! K41F4 -/
/-! closed_downward. -/
namespace K41
open PySem PySem.Spec PyProof.Rows L2
/-- what stands between the turns: all of F but what waits (W) has its parts in F -/
structure Down (n : Nat) (ks F : List (List Int)) (Wt : List (List Int)) (done : List Int → Prop) : Prop where
  nd : F.Nodup
  on : ∀ k ∈ F, On n k
  under : ∀ k ∈ F, ∃ c ∈ ks, k.Sublist c
  has : ∀ k ∈ ks, k ∈ F
  wait : ∀ k ∈ Wt, k ∈ F
  cl : ∀ k ∈ F, k ∉ Wt → ∀ y ∈ wo k, y ∈ F ∨ done y
theorem Down.few {n : Nat} {ks F Wt : List (List Int)} {done : List Int → Prop} (D : Down n ks F Wt done) (hn : n ≤ 6) : F.length ≤ 64 :=
  Nat.le_trans (nd_le D.nd fun x hx => mem_subs.mpr (D.on x hx)) (subs_few hn)
theorem keys_rts {H : Hp} : ∀ {kvs : List (List L2.Key × V)} {bs : List Addr} {ks : List (List Int)}, IsKeys H kvs bs → kvs.map (·.1) = ks.map keyI → RTs ks (bs.map V.ref) H
  | [], _, ks, h, e => by
    cases h
    cases ks with
    | nil => exact .nil
    | cons k ks => simp at e
  | p :: kvs, _, ks, h, e => by
    cases h with
    | cons r t =>
      cases ks with
      | nil => simp at e
      | cons k ks =>
        rw [List.map_cons, List.map_cons, List.cons.injEq] at e
        refine .cons ⟨_, rfl, ?_⟩ (keys_rts t e.2)
        rw [e.1, keyI_v] at r
        exact r
theorem ll_last {H : Hp} {p : Addr} {Wt : List (List Int)} {ws : List V} (r : RTs Wt ws H) (hne : Wt ≠ []) : ∃ W0 f0 b, Wt = W0 ++ [f0] ∧ ws[ws.length - 1]? = some (.ref b) ∧ IT H b f0 ∧ RTs W0 ws.dropLast H := by
  have hl : Wt.length = ws.length := Paired.length r
  have h0 : 0 < Wt.length := List.length_pos_iff.mpr hne
  obtain ⟨x, hx⟩ : ∃ x, ws[ws.length - 1]? = some x := ⟨_, List.getElem?_eq_getElem (by omega)⟩
  obtain ⟨f0, b, e, rfl, hb⟩ := rts_at r hx
  have e0 : Wt = Wt.dropLast ++ [f0] := by
    have h1 : Wt.getLast hne = Wt[Wt.length - 1]'(by omega) := List.getLast_eq_getElem hne
    have h2 : Wt[Wt.length - 1]? = some f0 := by rw [hl]; exact e
    rw [List.getElem?_eq_getElem (by omega)] at h2
    have h3 := List.dropLast_concat_getLast hne
    rw [h1, Option.some.inj h2] at h3
    exact h3.symm
  refine ⟨Wt.dropLast, f0, b, e0, hx, hb, ?_⟩
  have r2 : RTs (Wt.dropLast ++ [f0]) ws H := e0 ▸ r
  have gen : ∀ (A : List (List Int)) (us : List V), RTs (A ++ [f0]) us H → RTs A us.dropLast H := by
    intro A
    induction A with
    | nil =>
      intro us h
      cases h with
      | cons r t =>
        cases t
        exact .nil
    | cons k A ih =>
      intro us h
      cases h with
      | @cons _ u _ us r t =>
        have h2 := ih us t
        cases us with
        | nil =>
          have := Paired.length t
          simp at this
        | cons u2 us => exact .cons r h2
  exact gen _ _ r2
section
variable {P : Program} {w : World} {K : PySem.W.Frag} {mg : Str → Option Value} {base : Heap}
def spCD : Sp := fun vs H Q _ => ∃ (a : Addr) (ks : List (List Int)) (n : Nat), vs = [.ref a] ∧ TL H a ks ∧ ks.length ≤ 256 ∧ n ≤ 6 ∧ (∀ k ∈ ks, On n k) ∧
  ∀ H' p ks', Same H H' → H p = none → ks'.Nodup → (∀ k, k ∈ ks' ↔ ∃ c ∈ ks, k.Sublist c) → LL H' p ks' → Q (.ref p) H'
theorem sc_CD : FnScope ["sets", "found", "waiting", "smaller", "chosen"] ["sets"] (defScope (top 16)) := ⟨rfl, rfl, rfl, by decide +kernel, rfl, by decide +kernel, by decide +kernel⟩
theorem ok_CD (T : Tx K mg) : Ok P w K mg base "closed_downward" 2 ["sets"] spCD := by
  refine mkOk T.d_closed_downward sc_CD (fun _ _ _ _ _ _ us hl => match us, hl with | [_], _ => rfl) (fun vs H Q E h => by obtain ⟨a, k, n, rfl, _⟩ := h; rfl) (fun cdv A outer s H vs Q E f hr h => ?_)
  obtain ⟨a, ks, n, rfl, ⟨vs, hvs, rv⟩, hz, hn, hon, q⟩ := h
  refine ⟨_, pss_cons (ps_setDt1 (i := 1) (own := [("chosen", 4)]) (g := gName 4) (tt := tYes) rfl (u1 hr.units) sc_CD.nd rfl rfl (sw_dt rfl rfl rfl (by decide +kernel)) (pi_tK K (pv 0))
      (blkOk_by (N := ["sets", "found", "waiting", "smaller", "chosen"]) (sc := defScope (top 16)) (by decide +kernel)) (fun _ _ _ _ _ => pg_name (i := 4) sc_CD.nd rfl (Or.inl rfl)) (fun _ _ _ _ _ => pts_nil) (fun _ _ _ _ _ => pv 4) (fun _ _ _ _ _ => pe_bl))
    (pss_cons (ps_set (i := 2) sc_CD.nd rfl (Or.inl rfl) (pe_callTy (call_list_dT rfl) (by rfl) T.f_list (by decide +kernel) (pa_cons (pv 1) pa_nil)))
    (pss_cons (ps_while PassesOwn.never (pt_cmpR (op_neK K hr.units) (pv 2) (pe_lst pa_nil) (nomark _))
      (pss_one (ps_for PassesOwn.never rfl (pi_lK K (pcall (ok_WE T) (hr.mono (by decide)) (pa_cons (pe_bm0 PySem.F.plainAttrs_list PySem.F.slot_list_pop PySem.F.type_list_pop mt_pop (pv 2)) pa_nil))) (pg_name (i := 3) sc_CD.nd rfl (Or.inl rfl))
        (pss_one (ps_if (pt_cmp (pc_dnotin (u1 hr.units) (pv 3) (pv 1)) rfl)
          (pss_cons (ps_dput (u1 hr.units) (pv 1) (pv 3) pe_bl rfl)
            (pss_one (ps_expr (pe_bm PySem.F.plainAttrs_list PySem.F.slot_list_append PySem.F.type_list_append mt_append (pv 2) (pa_cons (pv 3) pa_nil))))) pss_nil)))))
    (pss_one (ps_ret (pe_callB (crSortD (u8 hr.units) rfl) (by rfl) T.f_sorted (by decide +kernel) (pa_cons (pv 1) pa_nil)))))), ?_⟩
  refine ⟨_, rfl, a, rfl, ⟨vs, SqT.of hvs⟩, fun D hD => ?_⟩
  refine dt_from (walk_tup (K := K) (a := a) (xs := vs)) (fun H1 s1 => SqT.of (s1 _ _ hvs)) rv hD (by omega) (fun k0 b kvs H1 N hk0 hb hd hl hN => ⟨rfl, yes (iteT ⟨_, rfl, _, _, _, rfl, hb, hd, hl, hN⟩)⟩) fun H1 sm hdk => ?_
  obtain ⟨kvs, ekv, ek⟩ := hdk
  refine ⟨_, rfl, D, kvs, rfl, .inl ekv, fun p bs hp hbs => ?_⟩
  have hpD : p ≠ D := fun z => by rw [z, ekv] at hp; cases hp
  have hHp : H p = none := fresh_of sm hp
  have hinit : Down n ks (dd ks) (dd ks) (fun _ => False) := ⟨nd_dd ks, fun k h => hon k (mem_dd.mp h), fun k h => ⟨k, mem_dd.mp h, List.Sublist.refl _⟩, fun k h => mem_dd.mpr h, fun k h => h, fun k h h2 => (h2 h).elim⟩
  refine ⟨fun m σ H1 => ∃ F Wt c d, σ = [some (V.ref a), some (V.ref D), some (V.ref p), c, d] ∧ Same H H1 ∧ DK H1 D F ∧ LL H1 p Wt ∧ Down n ks F Wt (fun _ => False) ∧ 2 * (64 - F.length) + Wt.length = m ∧ m ≤ 500, ⟨_, dd ks, dd ks, _, _, rfl, sm.trans (same_new hp), ⟨kvs, same_new hp _ _ ekv, ek⟩, ⟨_, upd_same, rts_go (tups_of (same_new hp)) (keys_rts hbs ek)⟩, hinit, rfl, by have := len_dd ks; omega⟩, fun m σ H2 hW => ?_⟩
  obtain ⟨F, Wt, c, d, rfl, s2, hF, hWt, hDn, rfl, h500⟩ := hW
  refine ⟨_, rfl, bigle (by decide), fun p0 hp0 => ne_ll (hWt.go (same_new hp0)) ⟨[], upd_same, .nil⟩ ⟨_, rfl, ?_⟩⟩
  have s3 : Same H (upd H2 p0 (.lst [])) := s2.trans (same_new hp0)
  have hF3 := hF.go (same_new (o := .lst []) hp0)
  have hWt3 := hWt.go (same_new (o := .lst []) hp0)
  obtain ⟨H3, eH3⟩ : ∃ H3, H3 = upd H2 p0 (.lst []) := ⟨_, rfl⟩
  rw [← eH3] at s3 hF3 hWt3 ⊢
  by_cases hne : Wt = []
  · rw [decide_eq_true hne]
    refine iteF ?_
    refine ⟨_, rfl, D, F, rfl, hF3, by have := hDn.few hn; omega, fun fs zs p3 pm3 srt3 r3 hp3 => ?_⟩
    refine q _ p3 fs (s3.trans (same_new hp3)) (fresh_of s3 hp3) (pm3.nodup_iff.mpr hDn.nd) (fun k => ?_) ⟨zs, upd_same, rts_go (tups_of (same_new hp3)) r3⟩
    rw [pm3.mem_iff]
    refine ⟨hDn.under k, fun ⟨c, hc, hs⟩ => ?_⟩
    refine closed_sub (P := fun z => z ∈ F) (fun x hx y hy => ?_) (hDn.has c hc) hs
    exact (hDn.cl x hx (by rw [hne]; exact fun z => nomatch z) y hy).elim id False.elim
  · rw [decide_eq_false hne]
    refine iteT ⟨fun σ' H' => ∃ m', m' < 2 * (64 - F.length) + Wt.length ∧ ∃ F Wt c d, σ' = [some (V.ref a), some (V.ref D), some (V.ref p), c, d] ∧ Same H H' ∧ DK H' D F ∧ LL H' p Wt ∧ Down n ks F Wt (fun _ => False) ∧ 2 * (64 - F.length) + Wt.length = m' ∧ m' ≤ 500, fun _ _ h => h, ?_⟩
    obtain ⟨ws, hws, rw3⟩ := hWt3
    obtain ⟨W0, f0, b, eW, hlast, hb, rw0⟩ := ll_last (p := p) rw3 hne
    have hf0 : f0 ∈ F := hDn.wait f0 (by rw [eW]; simp)
    have hof0 : On n f0 := hDn.on f0 hf0
    have hlf0 := on_few hof0
    have ts0 : TupS H3 (upd H3 p (.lst ws.dropLast)) := tups_upd hws fun _ z => nomatch z
    refine ⟨_, rfl, .inl ⟨rfl, _, SqL.of hws⟩, p, ws, _, rfl, rfl, hws, hlast, ?_⟩
    refine ⟨b, f0, rfl, ts0 _ _ hb, by omega, fun H4 l s4 hl4 hL4 => ?_⟩
    obtain ⟨us, hus, ru⟩ := hL4
    have hF4 : DK (upd H3 p (.lst ws.dropLast)) D F := by
      obtain ⟨kv, e, ek2⟩ := hF3
      exact ⟨kv, by rw [upd_ne (fun z => hpD z.symm)]; exact e, ek2⟩
    have hlD : l ≠ D := fun z => by
      obtain ⟨kv, e, _⟩ := hF4
      rw [z, e] at hl4
      cases hl4
    have hlp : l ≠ p := fun z => by
      rw [z, upd_same] at hl4
      cases hl4
    refine ⟨l, rfl, ⟨us, SqL.of hus⟩, ?_⟩
    refine for_it (walk_list (xs := us)) (fun j σ H5 => ∃ F2 Wt2 c d, σ = [some (V.ref a), some (V.ref D), some (V.ref p), c, d] ∧ Same H H5 ∧ DK H5 D F2 ∧ LL H5 p Wt2 ∧ (H5 l = some (.lst us) ∧ RTs (wo f0) us H5) ∧ Down n ks F2 Wt2 (fun y => y ∈ (wo f0).drop j) ∧ 2 * (64 - F2.length) + Wt2.length < 2 * (64 - F.length) + Wt.length)
      ⟨F, W0, c, d, rfl, (same_mut s3 hHp).trans s4, hF4.go s4, ⟨_, s4 _ _ upd_same, rts_go (ts0.trans (tups_of s4)) rw0⟩, ⟨hus, ru⟩, ⟨hDn.nd, hDn.on, hDn.under, hDn.has, fun k h => hDn.wait k (by rw [eW]; exact List.mem_append_left _ h), fun k h h2 y hy => ?_⟩, by rw [eW, List.length_append, List.length_singleton]; omega⟩
      (fun j σ H5 _ hP => ?_) (fun j x σ H5 H6 hj hP y => ?_) (fun σ H5 hP => ?_)
    · by_cases e : k = f0
      · rw [e] at hy
        exact .inr (by rw [List.drop_zero]; exact hy)
      · refine .inl ((hDn.cl k h (fun z => ?_) y hy).elim id False.elim)
        rw [eW] at z
        exact (List.mem_append.mp z).elim h2 fun z => e (List.mem_singleton.mp z)
    · obtain ⟨_, _, _, _, _, _, _, _, ⟨h, _⟩, _⟩ := hP
      exact SqL.of h
    · obtain ⟨F2, Wt2, c, d, rfl, s5, hF5, ⟨w5, hw5, rw5⟩, ⟨hu5, ru5⟩, hD5, hm⟩ := hP
      obtain ⟨rfl, hx⟩ := y
      obtain ⟨y0, b0, e0, rfl, hb0⟩ := rts_at ru5 hx
      have hdrop : (wo f0).drop j = y0 :: (wo f0).drop (j + 1) := by
        obtain ⟨hlt, e⟩ := List.getElem?_eq_some_iff.mp e0
        rw [List.drop_eq_getElem_cons hlt, e]
      obtain ⟨o, hg, ho⟩ := dk_get hF5 hb0
      refine ⟨_, rfl, _, rfl, D, o, rfl, hg, _, rfl, ?_⟩
      rw [ho]
      by_cases hy0 : y0 ∈ F2
      · rw [decide_eq_true hy0]
        refine iteF ⟨F2, Wt2, _, _, rfl, s5, hF5, ⟨w5, hw5, rw5⟩, ⟨hu5, ru5⟩, ⟨hD5.nd, hD5.on, hD5.under, hD5.has, hD5.wait, fun k h h2 z hz => ?_⟩, hm⟩
        rcases hD5.cl k h h2 z hz with h3 | h3
        · exact .inl h3
        · rw [hdrop] at h3
          rcases List.mem_cons.mp h3 with rfl | h3
          · exact .inl hy0
          · exact .inr h3
      · rw [decide_eq_false hy0]
        have hadd : addK F2 y0 = F2 ++ [y0] := by unfold addK; rw [if_neg hy0]
        have hyw : y0 ∈ wo f0 := List.mem_of_getElem? e0
        have hD6 : Down n ks (F2 ++ [y0]) (Wt2 ++ [y0]) (fun y => y ∈ (wo f0).drop (j + 1)) := by
          refine ⟨hadd ▸ nd_addK hD5.nd, fun k h => ?_, fun k h => ?_, fun k h => List.mem_append_left _ (hD5.has k h), fun k h => ?_, fun k h h2 z hz => ?_⟩
          · rcases List.mem_append.mp h with h | h
            · exact hD5.on k h
            · rw [List.mem_singleton.mp h]
              exact on_wo hof0 hyw
          · rcases List.mem_append.mp h with h | h
            · exact hD5.under k h
            · rw [List.mem_singleton.mp h]
              obtain ⟨c, hc, hs⟩ := hDn.under f0 hf0
              exact ⟨c, hc, (wo_sub hyw).trans hs⟩
          · rcases List.mem_append.mp h with h | h
            · exact List.mem_append_left _ (hD5.wait k h)
            · exact List.mem_append_right _ h
          · rcases List.mem_append.mp h with h | h
            · rcases hD5.cl k h (fun e => h2 (List.mem_append_left _ e)) z hz with h3 | h3
              · exact .inl (List.mem_append_left _ h3)
              · rw [hdrop] at h3
                rcases List.mem_cons.mp h3 with rfl | h3
                · exact .inl (List.mem_append_right _ (by simp))
                · exact .inr h3
            · exact (h2 (List.mem_append_right _ h)).elim
        have hfew := hD6.few hn
        rw [List.length_append, List.length_singleton] at hfew
        have hfew2 := hD5.few hn
        have hwl : Wt2.length = w5.length := Paired.length rw5
        obtain ⟨ob, hput, hob, hF6⟩ := dk_put (v := .bl true) hF5 hb0 (by omega)
        obtain ⟨kv5, ekv5, _⟩ := hF5
        have ts6 : TupS H6 (upd H6 D ob) := tups_upd ekv5 fun _ z => nomatch z
        have hw6 : upd H6 D ob p = some (.lst w5) := by rw [upd_ne hpD]; exact hw5
        have ts7 : TupS (upd H6 D ob) (upd (upd H6 D ob) p (.lst (w5 ++ [V.ref b0]))) := tups_upd hw6 fun _ z => nomatch z
        refine iteT ⟨_, rfl, _, rfl, D, _, rfl, hput, ?_⟩
        refine ⟨_, rfl, .inl ⟨rfl, _, SqL.of hw6⟩, _, rfl, p, w5, _, rfl, rfl, hw6, big (by omega), ?_⟩
        refine ⟨F2 ++ [y0], Wt2 ++ [y0], _, _, rfl, same_mut (same_mut s5 hD) hHp, ?_, ⟨_, upd_same, rts_app (rts_go (ts6.trans ts7) rw5) (.cons ⟨b0, rfl, ts7 _ _ (ts6 _ _ hb0)⟩ .nil)⟩, ⟨?_, rts_go (ts6.trans ts7) ru5⟩, hD6, ?_⟩
        · rw [hadd] at hF6
          obtain ⟨kv, e, ek2⟩ := hF6
          exact ⟨kv, by rw [upd_ne (fun z => hpD z.symm)]; exact e, ek2⟩
        · rw [upd_ne hlp, upd_ne hlD]
          exact hu5
        · rw [List.length_append, List.length_append, List.length_singleton]
          omega
    · obtain ⟨F2, Wt2, c, d, rfl, s5, hF5, hW5, _, hD5, hm⟩ := hP
      refine ⟨_, hm, F2, Wt2, c, d, rfl, s5, hF5, hW5, ⟨hD5.nd, hD5.on, hD5.under, hD5.has, hD5.wait, fun k h h2 z hz => ?_⟩, rfl, by omega⟩
      rcases hD5.cl k h h2 z hz with h3 | h3
      · exact .inl h3
      · rw [List.drop_of_length_le (by rw [show (wo f0).length = us.length from Paired.length ru]; omega)] at h3
        cases h3
end
end K41

/-! K41G1 -/
/-! The classes: facts, methods, what an instance holds. -/
namespace K41
open PySem PySem.Spec PyProof.Rows L2
abbrev ma := He.ma
/-- the j-th statement of the class that the top's i-th statement writes -/
def mth (i j : Nat) : Stmt := match top i with
  | .ClassDef _ _ _ body _ _ _ _ _ _ _ => body.getD j (.Pass ⟨0, 0, 0, 0⟩)
  | _ => .Pass ⟨0, 0, 0, 0⟩
/-- the getter of a property -/
def pg (K : PySem.W.Frag) (x f : Str) : Addr := match PySem.W.recIn K (ma K (ga K x) f) "property" with
  | some (.ref g :: _) => g
  | _ => 0
structure CF (K : PySem.W.Frag) (mg : Str → Option Value) (x : Str) : Prop where
  gl : mg x = some (.ref (ga K x))
  mr : Mk K (ga K x) (ma K (ga K x) "__init__")
  sc : SlX.SCls K (ga K x)
  si : SlX.SIsi K (ga K x)
abbrev Sl (K : PySem.W.Frag) (x f : Str) (i : Nat) : Prop := SlX.Slot1 K (ga K x) f (ma K (ga K x) f) i
/-- a method -/
structure MIn (K : PySem.W.Frag) (x m q : Str) (st : Stmt) : Prop where
  fn : ∃ fd, Fun K m q st (ma K (ga K x) m) fd
  me : Meth K (ga K x) m (ma K (ga K x) m)
/-- a property -/
structure PIn (K : PySem.W.Frag) (x f q : Str) (st : Stmt) : Prop where
  fn : ∃ fd, Fun K f q st (pg K x f) fd
  at_ : PySem.W.findIn K (.ref (ga K x)) f = some (some (.ref (ma K (ga K x) f)))
  get : PySem.W.specialIn K (.ref (ma K (ga K x) f)) "__get__" = some (some (.builtin "property.__get__"))
  tk : PySem.W.takesIn K (.ref (ma K (ga K x) f)) = some true
  rc : ∃ rest, PySem.W.recIn K (ma K (ga K x) f) "property" = some (.ref (pg K x f) :: rest)
structure Tc (K : PySem.W.Frag) (mg : Str → Option Value) : Prop where
  KM : CF K mg "KeptMembers"
  LO : CF K mg "Lot"
  KS : CF K mg "KeptSets"
  FA : CF K mg "Family"
  sKM : Sl K "KeptMembers" "own_members" 0
  sKS : Sl K "KeptSets" "own_sets" 0
  sL0 : Sl K "Lot" "own_letters" 0
  sL1 : Sl K "Lot" "own_members" 1
  sF0 : Sl K "Family" "own_corners" 0
  sF1 : Sl K "Family" "own_known" 1
  sF2 : Sl K "Family" "own_members" 2
  sF3 : Sl K "Family" "own_sets" 3
  iKM : MIn K "KeptMembers" "__init__" "KeptMembers.__init__" (mth 41 1)
  iKS : MIn K "KeptSets" "__init__" "KeptSets.__init__" (mth 59 1)
  iLO : MIn K "Lot" "__init__" "Lot.__init__" (mth 42 1)
  iFA : MIn K "Family" "__init__" "Family.__init__" (mth 60 1)
  pL0 : PIn K "Lot" "letters" "Lot.letters" (mth 42 3)
  pL1 : PIn K "Lot" "members" "Lot.members" (mth 42 4)
  pLs : PIn K "Lot" "is_squarefree" "Lot.is_squarefree" (mth 42 7)
  mLc : MIn K "Lot" "__contains__" "Lot.__contains__" (mth 42 13)
  mLe : MIn K "Lot" "__eq__" "Lot.__eq__" (mth 42 14)
  mLt : MIn K "Lot" "__str__" "Lot.__str__" (mth 42 18)
  pF0 : PIn K "Family" "corners" "Family.corners" (mth 60 2)
  mFl : MIn K "Family" "__len__" "Family.__len__" (mth 60 10)
  mFi : MIn K "Family" "__iter__" "Family.__iter__" (mth 60 12)
  mFe : MIn K "Family" "__eq__" "Family.__eq__" (mth 60 13)
  mFt : MIn K "Family" "__str__" "Family.__str__" (mth 60 14)
  kKM : PySem.W.kitOne K (.ref (ga K "KeptMembers")) (.ref (ga K "KeptMembers")) = some true
  kKM' : PySem.W.kitOne K (.type "tuple") (.ref (ga K "KeptMembers")) = some false
  kKS : PySem.W.kitOne K (.ref (ga K "KeptSets")) (.ref (ga K "KeptSets")) = some true
  kKS' : PySem.W.kitOne K (.type "tuple") (.ref (ga K "KeptSets")) = some false
  kLO : PySem.W.kitOne K (.ref (ga K "Lot")) (.ref (ga K "Lot")) = some true
  kFA : PySem.W.kitOne K (.ref (ga K "Family")) (.ref (ga K "Family")) = some true
  nLO : PySem.W.notFirst K (ga K "Lot") (.ref (ga K "Lot")) = true
  nFA : PySem.W.notFirst K (ga K "Family") (.ref (ga K "Family")) = true
section
variable {P : Program} {w : World} {K : PySem.W.Frag} {mg : Str → Option Value} {base : Heap}
theorem mkM {x q : Str} {st : Stmt} {a : Addr} {N ps : List Str} {k : Nat} {sp : Sp} (D : ∃ fd, Fun K x q st a fd) (S : FnScope N ps (defScope st))
    (hb : ∀ (kV doc pm : Value) (an : Option Addr) (cdv ct : Value) (us : List Value), us.length = ps.length → bindArgs (PySem.W.fnOf x q (defArgs st) (defBody st) (defScope st) .none kV doc pm an cdv ct) ⟨us, []⟩ = pure (ps.zip us))
    (len : ∀ vs H Q E, sp vs H Q E → vs.length = ps.length)
    (hbody : ∀ (cdv : Value) (A : Around) (outer : List Env) (s : Shared) (H : Hp) (vs : List V) (Q : VK) (E : XK), Room k (A.deeper (envOfC q (defScope st) s.heap.objs.size a cdv)) → sp vs H Q E →
      ∃ t, PSs (cxOf CX0 P w K mg base N q (defScope st) a cdv A outer s H E).nox (defBody st) t ∧ t { nx := fun _ H' => Q .non H', rt := Q } (start N vs) H) : FnR P w K mg base CX0 (k + 1) a sp := by
  obtain ⟨fd, F⟩ := D
  have F1 : FnOk P w K mg base CX0 (k + 1) a fd ps sp := F.ok S len fun cdv A outer s H vs Q E hr h => hbody cdv A outer s H vs Q E hr h
  exact (F1.raw (F.binds hb) .nil).imp fun vs H Q E h => by rw [List.append_nil]; exact h
end
/-! ### what stands of an instance -/
theorem slt_go {H H' : Hp} {a C dx : Addr} {vs : List (Option V)} (h : SlX.Slt H a C dx vs) (s : Same H H') : SlX.Slt H' a C dx vs := by
  rcases h with ⟨h1, h2⟩ | ⟨h1, h2⟩
  · exact .inl ⟨s _ _ h1, h2⟩
  · exact .inr ⟨s _ _ h1, s _ _ h2⟩
theorem slH_same {H0 H : Hp} {a C dx : Addr} {vs : List (Option V)} (s : Same H0 H) (ha : H0 a = none) (hd : H0 dx = none) : Same H0 (SlX.slH H a C dx vs) := same_mut (same_mut s hd) ha
theorem slH_tups {H : Hp} {a C dx : Addr} {vs vs' : List (Option V)} (h : SlX.Slt H a C dx vs) (hd : ∀ xs, H dx ≠ some (.tup xs)) : TupS H (SlX.slH H a C dx vs') := fun b xs e => by
  rw [SlX.slH_ne]
  · exact e
  · rintro rfl
    rcases h with ⟨h1, _⟩ | ⟨h1, _⟩
    · rw [h1] at e; cases e
    · rw [h1] at e; cases e
  · rintro rfl
    exact hd xs e
/-- x = KeptMembers(v), KeptSets(v) -/
def Kept (K : PySem.W.Frag) (x : Str) (H : Hp) (a : Addr) (v : V) : Prop := ∃ dx, SlX.Slt H a (ga K x) dx [some v]
def LotAt (K : PySem.W.Frag) (H : Hp) (a : Addr) (n : Nat) (M : List (List Int)) : Prop := ∃ dx t, SlX.Slt H a (ga K "Lot") dx [some (.int n), some (.ref t)] ∧ TL H t M
def FamAt (K : PySem.W.Frag) (H : Hp) (a : Addr) (n : Nat) (L M : List (List Int)) : Prop := ∃ dx d t l, SlX.Slt H a (ga K "Family") dx [some (.int n), some (.ref d), some (.ref t), some (.ref l)] ∧ DK H d L ∧ TL H t M ∧ LL H l L
theorem Kept.go {K : PySem.W.Frag} {x : Str} {H H' : Hp} {a : Addr} {v : V} (h : Kept K x H a v) (s : Same H H') : Kept K x H' a v := by
  obtain ⟨dx, h⟩ := h
  exact ⟨dx, slt_go h s⟩
theorem LotAt.go {K : PySem.W.Frag} {H H' : Hp} {a : Addr} {n : Nat} {M : List (List Int)} (h : LotAt K H a n M) (s : Same H H') : LotAt K H' a n M := by
  obtain ⟨dx, t, h, r⟩ := h
  exact ⟨dx, t, slt_go h s, r.go (tups_of s)⟩
theorem FamAt.go {K : PySem.W.Frag} {H H' : Hp} {a : Addr} {n : Nat} {L M : List (List Int)} (h : FamAt K H a n L M) (s : Same H H') : FamAt K H' a n L M := by
  obtain ⟨dx, d, t, l, h, r1, r2, r3⟩ := h
  exact ⟨dx, d, t, l, slt_go h s, r1.go s, r2.go (tups_of s), r3.go s⟩
section
variable {P : Program} {w : World} {K : PySem.W.Frag} {mg : Str → Option Value} {base : Heap}
/-! ### the keepers -/
/-- a new instance of C at x, without attributes -/
def New (H : Hp) (x C dx : Addr) : Prop := H x = some (.ins C dx []) ∧ H dx = some (.own x) ∧ dx ≠ x
def spKeep (C : Addr) : Sp := fun vs H Q _ => ∃ (x dx : Addr) (v : V), vs = [.ref x, v] ∧ New H x C dx ∧ Q .non (SlX.slH H x C dx [some v])
theorem sc_KM : FnScope ["self", "members"] ["self", "members"] (defScope (mth 41 1)) := ⟨rfl, rfl, rfl, by decide +kernel, rfl, by decide +kernel, by decide +kernel⟩
theorem ok_KM (C : Tc K mg) : FnR P w K mg base CX0 1 (ma K (ga K "KeptMembers") "__init__") (spKeep (ga K "KeptMembers")) := by
  refine mkM C.iKM.fn sc_KM (fun _ _ _ _ _ _ us hl => match us, hl with | [_, _], _ => rfl) (fun vs H Q E h => by obtain ⟨a, k, v, rfl, _⟩ := h; rfl) (fun cdv A outer s H vs Q E hr h => ?_)
  obtain ⟨x, dx, v, rfl, ⟨h1, h2, h3⟩, q⟩ := h
  exact ⟨_, pss_one (SlX.ps_sl (pv 0) (pv 1) rfl), _, rfl, _, rfl, x, _, dx, _, [], 0, rfl, .inl ⟨h1, rfl⟩, C.KM.sc, C.sKM, q⟩
theorem sc_KS : FnScope ["self", "sets"] ["self", "sets"] (defScope (mth 59 1)) := ⟨rfl, rfl, rfl, by decide +kernel, rfl, by decide +kernel, by decide +kernel⟩
theorem ok_KS (C : Tc K mg) : FnR P w K mg base CX0 1 (ma K (ga K "KeptSets") "__init__") (spKeep (ga K "KeptSets")) := by
  refine mkM C.iKS.fn sc_KS (fun _ _ _ _ _ _ us hl => match us, hl with | [_, _], _ => rfl) (fun vs H Q E h => by obtain ⟨a, k, v, rfl, _⟩ := h; rfl) (fun cdv A outer s H vs Q E hr h => ?_)
  obtain ⟨x, dx, v, rfl, ⟨h1, h2, h3⟩, q⟩ := h
  exact ⟨_, pss_one (SlX.ps_sl (pv 0) (pv 1) rfl), _, rfl, _, rfl, x, _, dx, _, [], 0, rfl, .inl ⟨h1, rfl⟩, C.KS.sc, C.sKS, q⟩
end
end K41

/-! K41G2 -/
/-! Lots made. -/
namespace K41
open PySem PySem.Spec PyProof.Rows L2
/-- isinstance of a tuple, of an instance with slots -/
def rIsi2 (K : PySem.W.Frag) (u : Value) : List V → Hp → VK → Prop := fun xs H Q => rIsi K xs H Q ∨ SlX.rIsiSl K u xs H Q
theorem crIsi2 {X : Cx} (K : PySem.W.Frag) (u : Value) (hK : X.K = K := by rfl) : CallR X (.builtin "isinstance") (rIsi2 K u) := by
  subst hK
  intro pins s σ H xs us Q I r h
  rcases h with h | h
  · exact call_isi pins s σ H xs us Q I r h
  · exact SlX.call_isiSl u pins s σ H xs us Q I r h
section
variable {K : PySem.W.Frag} {mg : Str → Option Value}
theorem isi_tup {C : Addr} {H : Hp} {a : Addr} {xs : List V} {b : Bool} {Q : VK} (h : H a = some (.tup xs)) (k : PySem.W.kitOne K (.type "tuple") (.ref C) = some b) (q : Q (.bl b) H) : rIsi2 K (.ref C) [.ref a, .ref C] H Q :=
  .inl ⟨.ref a, .ref C, .type "tuple", .ref C, b, rfl, .own C, .base (.tup h), k, q⟩
theorem isi_own {C D : Addr} {H : Hp} {a dx : Addr} {vs : List (Option V)} {b : Bool} {Q : VK} (h : SlX.Slt H a C dx vs) (c : SlX.SCls K C) (i : SlX.SIsi K C) (k : PySem.W.kitOne K (.ref C) (.ref D) = some b) (q : Q (.bl b) H) : rIsi2 K (.ref D) [.ref a, .ref D] H Q :=
  .inr ⟨a, C, dx, vs, .ref D, b, rfl, rfl, fun w e => e, h, c, i, k, q⟩
end
theorem new_slt {H : Hp} {x C dx : Addr} (h : New H x C dx) : SlX.Slt H x C dx [] := .inl ⟨h.1, rfl⟩
theorem New.go {H H' : Hp} {x C dx : Addr} (h : New H x C dx) (s : Same H H') : New H' x C dx := ⟨s _ _ h.1, s _ _ h.2.1, h.2.2⟩
theorem New.tups {H : Hp} {x C dx : Addr} {vs : List (Option V)} (h : New H x C dx) : TupS H (SlX.slH H x C dx vs) := slH_tups (new_slt h) fun xs z => by
  rw [h.2.1] at z
  cases z
theorem New.here {H : Hp} {x C dx : Addr} {vs : List (Option V)} (h : New H x C dx) : SlX.Slt (SlX.slH H x C dx vs) x C dx vs := SlX.slH_slt h.2.2
/-- what the making of an instance begins with -/
theorem new_made {H : Hp} {x C dx : Addr} (h1 : H x = none) (h2 : H dx = none) (h3 : dx ≠ x) : New (upd (upd H dx (.own x)) x (.ins C dx [])) x C dx ∧ Same H (upd (upd H dx (.own x)) x (.ins C dx [])) :=
  ⟨⟨upd_same, by rw [upd_ne h3, upd_same], h3⟩, same_mut (same_new h2) h1⟩
theorem lot_here {K : PySem.W.Frag} {H : Hp} {x dx t : Addr} {n : Nat} {M : List (List Int)} (h : New H x (ga K "Lot") dx) (hM : TL H t M) : LotAt K (SlX.slH H x (ga K "Lot") dx [some (.int n), some (.ref t)]) x n M := ⟨dx, t, h.here, hM.go h.tups⟩
section
variable {P : Program} {w : World} {K : PySem.W.Frag} {mg : Str → Option Value} {base : Heap}
/-! ### members_told -/
/-- what makes products good enough to be told as they are -/
structure Told (n : Nat) (ks : List (List Int)) : Prop where
  few : ks.length ≤ 200
  ok : ∀ k ∈ ks, k.length = n ∧ ∀ x ∈ k, 0 ≤ x ∧ x ≤ 8
  least : Few ks
def MTold (K : PySem.W.Frag) (n : Nat) (m : Addr) (H : Hp) (Q : V → Hp → Prop) : Prop := (∃ t, Kept K "KeptMembers" H m (.ref t) ∧ Q (.ref t) H) ∨
  ∃ ks, TL H m ks ∧ Told n ks ∧ ∀ H' p ks', Same H H' → H p = none → ks'.Nodup → ks'.Pairwise lexT → (∀ k, k ∈ ks' ↔ Least ks k) → TL H' p ks' → Q (.ref p) H'
def spMT (K : PySem.W.Frag) : Sp := fun vs H Q _ => ∃ (n : Nat) (m : Addr), vs = [.int n, .ref m] ∧ 1 ≤ n ∧ n ≤ 8 ∧ MTold K n m H Q
theorem sc_MT : FnScope ["letters", "members", "member"] ["letters", "members"] (defScope (top 44)) := ⟨rfl, rfl, rfl, by decide +kernel, rfl, by decide +kernel, by decide +kernel⟩
theorem ok_MT (T : Tx K mg) (C : Tc K mg) : Ok P w K mg base "members_told" 4 ["letters", "members"] (spMT K) := by
  refine mkOk T.d_members_told sc_MT (fun _ _ _ _ _ _ us hl => match us, hl with | [_, _], _ => rfl) (fun vs H Q E h => by obtain ⟨n, m, rfl, _⟩ := h; rfl) (fun cdv A outer s H vs Q E f hr h => ?_)
  obtain ⟨n, m, rfl, hn1, hn8, q⟩ := h
  obtain ⟨t, hc⟩ := T.c_MAX_PASSED_lots
  refine ⟨_, pss_cons (ps_if (pt_val (pe_callB (crIsi2 K (.ref (ga K "KeptMembers"))) (by rfl) T.f_isinstance (by decide +kernel) (pa_cons (pv 1) (pa_cons (pe_glob (v := .ref (ga K "KeptMembers")) (by rfl) C.KM.gl rfl) pa_nil))))
      (pss_one (ps_ret (SlX.pe_sl (pv 1)))) pss_nil)
    (pss_cons (ps_if (PW.pt (pw_or (pt_not (pt_val (pe_callB (crIsi K) (by rfl) T.f_isinstance (by decide +kernel) (pa_cons (pv 1) (pa_cons (pe_bltn (v := .ty "tuple") (by rfl) T.f_tuple (by decide +kernel) rfl) pa_nil)))))
      (pw_or1 (pt_cmpR op_gt (pe_callB (crLen K) (by rfl) T.f_len PySem.boot_len (pa_cons (pv 1) pa_nil)) (pe_glob (v := .int 200) (by rfl) hc ⟨_, rfl⟩) (nomark _))))) (pss_one ps_never) pss_nil)
    (pss_cons (ps_if (pt_not (pt_val (pe_callB (crAll K rfl) (by rfl) T.f_all (by decide +kernel) (pa_cons (pe_lc (own := [("member", 2)]) (g := gName 2) (tt := tYes) rfl sc_MT.nd (pi_tK K (pv 1))
        (blkOk_by (N := ["letters", "members", "member"]) (sc := defScope (top 44)) (by decide +kernel)) (fun _ _ _ _ _ => pg_name (i := 2) sc_MT.nd rfl (Or.inl rfl)) (fun _ _ _ _ _ => pts_nil)
        (fun _ _ _ _ _ => pcall (ok_Pass T) hr (pa_cons (pv 0) (pa_cons (pv 2) pa_nil)))) pa_nil)))) (pss_one ps_never) pss_nil)
    (pss_one (ps_ret (pcall (ok_FL T) (hr.mono (by decide)) (pa_cons (pv 1) pa_nil)))))), ?_⟩
  rcases q with ⟨t2, ⟨dx, hk⟩, q⟩ | ⟨ks, ⟨vs, hvs, rv⟩, hT, q⟩
  · refine ⟨_, rfl, isi_own hk C.KM.sc C.KM.si C.kKM ⟨true, rfl, iteT ?_⟩⟩
    exact ⟨_, rfl, m, _, dx, _, _, 0, _, rfl, hk, C.KM.sc, C.sKM, rfl, q⟩
  · refine ⟨_, rfl, isi_tup hvs C.kKM' ⟨false, rfl, iteF ?_⟩⟩
    refine ⟨_, rfl, .ref m, .ty "tuple", .type "tuple", .type "tuple", true, rfl, .ty _, .base (.tup hvs), kit_ty (by decide +kernel), true, rfl, iteF ?_⟩
    have hl : ks.length = vs.length := Paired.length rv
    have hT1 := hT.few
    refine ⟨_, rfl, m, vs, rfl, .inr (SqT.of hvs), _, 200, rfl, rfl, _, rfl, ?_⟩
    rw [decide_eq_false (by omega : ¬ ((200 : Int) < (vs.length : Int)))]
    refine iteF ?_
    refine ⟨_, rfl, m, rfl, ⟨vs, SqT.of hvs⟩, fun D hD => ?_⟩
    refine lc_fromM (xs := vs) (ks := ks) RT RB (fun _ _ _ _ _ r => r) (fun k => inB 8 k) walk_tup (fun H1 s1 => SqT.of (s1 _ _ hvs)) rv hD (by omega) (fun k0 x H1 Kk hk0 s1 r hk1 => ?_) (fun H1 ys s1 hy pr => ?_)
    · obtain ⟨b, rfl, hb⟩ := r
      obtain ⟨e1, e2⟩ := hT.ok k0 hk0
      refine ⟨rfl, _, rfl, _, rfl, b, k0, by rw [e1], s1 _ _ hb, by omega, fun H2 s2 => hk1 _ _ s2 rfl⟩
    · have e := rb_list pr
      subst e
      refine ⟨D, _, rfl, SqL.of hy, ?_⟩
      rw [all_map_id]
      have hall : (ks.all fun k => inB 8 k) = true := List.all_eq_true.mpr fun k hk => by
        unfold inB
        exact List.all_eq_true.mpr fun x hx => decide_eq_true ((hT.ok k hk).2 x hx)
      rw [hall]
      refine ⟨true, rfl, iteF ?_⟩
      refine ⟨_, rfl, m, ks, n, rfl, .inr ⟨vs, s1 _ _ hvs, rts_go (tups_of s1) rv⟩, by omega, hn1, hn8, fun k hk => ⟨(hT.ok k hk).1, fun x hx => by have := (hT.ok k hk).2 x hx; omega⟩, hT.least, fun H2 p ks' s2 hp a1 a2 a3 a4 => ?_⟩
      exact q H2 p ks' (s1.trans s2) (fresh_of s1 hp) a1 a2 a3 a4
/-! ### Lot.__init__ -/
def spLI (K : PySem.W.Frag) : Sp := fun vs H Q _ => ∃ (x dx m : Addr) (n : Nat), vs = [.ref x, .int n, .ref m] ∧ New H x (ga K "Lot") dx ∧ 1 ≤ n ∧ n ≤ 8 ∧
  MTold K n m H fun v H1 => ∃ t, v = .ref t ∧ Same H H1 ∧ Q .non (SlX.slH H1 x (ga K "Lot") dx [some (.int n), some (.ref t)])
theorem sc_LI : FnScope ["self", "letters", "members"] ["self", "letters", "members"] (defScope (mth 42 1)) := ⟨rfl, rfl, rfl, by decide +kernel, rfl, by decide +kernel, by decide +kernel⟩
theorem MTold.imp {n : Nat} {m : Addr} {H : Hp} {Q Q' : V → Hp → Prop} (h : MTold K n m H Q) (f : ∀ v H', Q v H' → Q' v H') : MTold K n m H Q' := by
  rcases h with ⟨t, k, q⟩ | ⟨ks, a, b, q⟩
  · exact .inl ⟨t, k, f _ _ q⟩
  · exact .inr ⟨ks, a, b, fun H' p ks' a1 a2 a3 a4 a5 a6 => f _ _ (q H' p ks' a1 a2 a3 a4 a5 a6)⟩
theorem ok_LI (T : Tx K mg) (C : Tc K mg) : FnR P w K mg base CX0 5 (ma K (ga K "Lot") "__init__") (spLI K) := by
  refine mkM C.iLO.fn sc_LI (fun _ _ _ _ _ _ us hl => match us, hl with | [_, _, _], _ => rfl) (fun vs H Q E h => by obtain ⟨a, k, m, n, rfl, _⟩ := h; rfl) (fun cdv A outer s H vs Q E hr h => ?_)
  obtain ⟨x, dx, m, n, rfl, hx, hn1, hn8, q⟩ := h
  refine ⟨_, pss_cons (ps_expr (pcall (ok_reqLetters T) hr (pa_cons (pv 1) pa_nil)))
    (pss_cons (SlX.ps_sl (pv 0) (pcall (ok_MT T C) hr (pa_cons (pv 1) (pa_cons (pv 2) pa_nil))) rfl)
    (pss_one (SlX.ps_sl (pv 0) (pv 1) rfl))), ?_⟩
  refine ⟨_, rfl, n, rfl, by omega, ?_⟩
  refine ⟨_, rfl, _, rfl, n, m, rfl, hn1, hn8, q.imp fun v H1 hq => ?_⟩
  obtain ⟨t, rfl, sm, q2⟩ := hq
  have hx1 := hx.go sm
  refine ⟨_, rfl, x, _, dx, _, [], 1, rfl, new_slt hx1, C.LO.sc, C.sL1, ?_⟩
  refine ⟨_, rfl, _, rfl, x, _, dx, _, _, 0, rfl, hx1.here, C.LO.sc, C.sL0, ?_⟩
  rw [SlX.slH_twice hx.2.2]
  exact q2
/-! ### made_lot -/
def spML (K : PySem.W.Frag) : Sp := fun vs H Q _ => ∃ (a : Addr) (ks : List (List Int)) (n : Nat), vs = [.int n, .ref a] ∧ 1 ≤ n ∧ n ≤ 8 ∧ LL H a ks ∧ ks.length ≤ 500 ∧ (∀ k ∈ ks, k.length = n ∧ ∀ x ∈ k, x ≤ 60) ∧ Few ks ∧
  ∀ H' x M, Same H H' → H x = none → M.Nodup → M.Pairwise lexT → (∀ k, k ∈ M ↔ Least ks k) → LotAt K H' x n M → Q (.ref x) H'
theorem sc_ML : FnScope ["letters", "products"] ["letters", "products"] (defScope (top 45)) := ⟨rfl, rfl, rfl, by decide +kernel, rfl, by decide +kernel, by decide +kernel⟩
theorem ok_ML (T : Tx K mg) (C : Tc K mg) : Ok P w K mg base "made_lot" 7 ["letters", "products"] (spML K) := by
  refine mkOk T.d_made_lot sc_ML (fun _ _ _ _ _ _ us hl => match us, hl with | [_, _], _ => rfl) (fun vs H Q E h => by obtain ⟨a, k, n, rfl, _⟩ := h; rfl) (fun cdv A outer s H vs Q E f hr h => ?_)
  obtain ⟨a, ks, n, rfl, hn1, hn8, hL, hz, hk, few, q⟩ := h
  refine ⟨_, pss_one (ps_ret (StX.pe_makeR C.LO.mr (ok_LI T C) hr (by rfl) C.LO.gl pass0 (pa_cons (pv 0) (pa_cons
    (StX.pe_makeR C.KM.mr (ok_KM C) (hr.mono (by decide)) (by rfl) C.KM.gl pass0 (pa_cons (pcall (ok_FL T) (hr.mono (by decide)) (pa_cons (pv 1) pa_nil)) pa_nil)) pa_nil)))), ?_⟩
  refine ⟨_, rfl, _, rfl, a, ks, n, rfl, .inl hL, hz, hn1, hn8, hk, few, fun H1 p M s1 hp a1 a2 a3 a4 => ?_⟩
  intro y dy hy hdy ney
  obtain ⟨ny, sy⟩ := new_made (C := ga K "KeptMembers") hy hdy ney
  refine ⟨y, dy, _, rfl, ny, rfl, ?_⟩
  intro x dx hx hdx nex
  obtain ⟨nx, sx⟩ := new_made (C := ga K "Lot") hx hdx nex
  have s2 : Same H1 (SlX.slH (upd (upd H1 dy (.own y)) y (.ins (ga K "KeptMembers") dy [])) y (ga K "KeptMembers") dy [some (.ref p)]) := slH_same sy hy hdy
  have hkept : Kept K "KeptMembers" (upd (upd (SlX.slH (upd (upd H1 dy (.own y)) y (.ins (ga K "KeptMembers") dy [])) y (ga K "KeptMembers") dy [some (.ref p)]) dx (.own x)) x (.ins (ga K "Lot") dx [])) y (.ref p) := Kept.go ⟨dy, ny.here⟩ sx
  refine ⟨x, dx, y, n, rfl, nx, hn1, hn8, .inl ⟨p, hkept, p, rfl, Same.refl _, rfl, ?_⟩⟩
  have s3 := s1.trans (s2.trans sx)
  refine q _ x M (slH_same s3 (fresh_of (s1.trans s2) hx) (fresh_of (s1.trans s2) hdx)) (fresh_of (s1.trans s2) hx) a1 a2 a3 (lot_here nx (a4.go (tups_of (s2.trans sx))))
end
end K41

/-! K41G3 -/
/-! Families made. -/
namespace K41
open PySem PySem.Spec PyProof.Rows L2
/-- an instance with slots, as it is being made -/
structure Att (H : Hp) (x C dx : Addr) (vs : List (Option V)) : Prop where
  at_ : SlX.Slt H x C dx vs
  ne : dx ≠ x
  own : H dx = some (.own x) ∨ H dx = some (.xd [])
theorem New.att {H : Hp} {x C dx : Addr} (h : New H x C dx) : Att H x C dx [] := ⟨new_slt h, h.2.2, .inl h.2.1⟩
theorem Att.go {H H' : Hp} {x C dx : Addr} {vs : List (Option V)} (h : Att H x C dx vs) (s : Same H H') : Att H' x C dx vs := ⟨slt_go h.at_ s, h.ne, h.own.elim (fun e => .inl (s _ _ e)) fun e => .inr (s _ _ e)⟩
theorem Att.put {H : Hp} {x C dx : Addr} {vs vs' : List (Option V)} (h : Att H x C dx vs) : Att (SlX.slH H x C dx vs') x C dx vs' := ⟨SlX.slH_slt h.ne, h.ne, .inr (by unfold SlX.slH; rw [upd_ne h.ne, upd_same])⟩
/-- lists, tuples and dicts stand apart from it -/
def Data : HO → Prop
  | .lst _ => True
  | .tup _ => True
  | .dT _ => True
  | _ => False
theorem Att.keep {H : Hp} {x C dx b : Addr} {vs vs' : List (Option V)} {o : HO} (h : Att H x C dx vs) (e : H b = some o) (ho : Data o) : SlX.slH H x C dx vs' b = some o := by
  rw [SlX.slH_ne]
  · exact e
  · rintro rfl
    rcases h.at_ with ⟨h1, _⟩ | ⟨h1, _⟩
    · rw [h1] at e; cases e; exact ho.elim
    · rw [h1] at e; cases e; exact ho.elim
  · rintro rfl
    rcases h.own with h1 | h1
    · rw [h1] at e; cases e; exact ho.elim
    · rw [h1] at e; cases e; exact ho.elim
theorem Att.tups {H : Hp} {x C dx : Addr} {vs vs' : List (Option V)} (h : Att H x C dx vs) : TupS H (SlX.slH H x C dx vs') := fun b xs e => h.keep e trivial
theorem Att.ll {H : Hp} {x C dx l : Addr} {vs vs' : List (Option V)} {ks : List (List Int)} (h : Att H x C dx vs) (hl : LL H l ks) : LL (SlX.slH H x C dx vs') l ks := by
  obtain ⟨us, e, r⟩ := hl
  exact ⟨us, h.keep e trivial, rts_go h.tups r⟩
theorem Att.dk {H : Hp} {x C dx l : Addr} {vs vs' : List (Option V)} {ks : List (List Int)} (h : Att H x C dx vs) (hl : DK H l ks) : DK (SlX.slH H x C dx vs') l ks := by
  obtain ⟨us, e, r⟩ := hl
  exact ⟨us, h.keep e trivial, r⟩
/-- all but x and its dict stands -/
def But2 (x dx : Addr) (H H' : Hp) : Prop := ∀ b o, b ≠ x → b ≠ dx → H b = some o → H' b = some o
theorem but2_same {x dx : Addr} {H H' : Hp} (s : Same H H') : But2 x dx H H' := fun b o _ _ e => s b o e
theorem But2.trans {x dx : Addr} {H H1 H2 : Hp} (a : But2 x dx H H1) (b : But2 x dx H1 H2) : But2 x dx H H2 := fun c o n m e => b c o n m (a c o n m e)
theorem but2_slH {x dx C : Addr} {H : Hp} {vs : List (Option V)} : But2 x dx H (SlX.slH H x C dx vs) := fun b o n m e => by
  rw [SlX.slH_ne n m]
  exact e
theorem but2_new {H0 H H' : Hp} {x dx : Addr} (h1 : H0 x = none) (h2 : H0 dx = none) (s : Same H0 H) (b : But2 x dx H H') : Same H0 H' := fun c o e => b c o (ne_of_none e h1) (ne_of_none e h2) (s c o e)
theorem fold_nd : ∀ (ks acc : List (List Int)), (acc ++ ks).Nodup → ks.foldl addK acc = acc ++ ks
  | [], acc, _ => by rw [List.append_nil]; rfl
  | k :: ks, acc, h => by
    have h2 : (acc ++ [k] ++ ks).Nodup := by rw [List.append_assoc]; exact h
    have hk : k ∉ acc := fun z => (List.nodup_append.mp h).2.2 k z k List.mem_cons_self rfl
    have e : addK acc k = acc ++ [k] := by
      unfold addK
      rw [if_neg hk]
    rw [List.foldl_cons, e, fold_nd ks _ h2, List.append_assoc]
    rfl
theorem dd_nd {ks : List (List Int)} (h : ks.Nodup) : dd ks = ks := fold_nd ks [] h
section
variable {P : Program} {w : World} {K : PySem.W.Frag} {mg : Str → Option Value} {base : Heap}
/-! ### sets_told -/
/-- the sets told: L what they come to; given as they are, or as some that others lie in -/
def STold (K : PySem.W.Frag) (n : Nat) (m : Addr) (H : Hp) (L : List (List Int) → Prop) (Q : List (List Int) → V → Hp → Prop) : Prop := (∃ l L0, Kept K "KeptSets" H m (.ref l) ∧ LL H l L0 ∧ L L0 ∧ Q L0 (.ref l) H) ∨
  ∃ ks, TL H m ks ∧ ks.length ≤ 256 ∧ (∀ k ∈ ks, On n k) ∧ (∀ L0 : List (List Int), L0.Nodup → (∀ k, k ∈ L0 ↔ ∃ c ∈ ks, k.Sublist c) → L L0) ∧ ∀ H' p L0, Same H H' → H p = none → L L0 → LL H' p L0 → Q L0 (.ref p) H'
theorem STold.imp {n : Nat} {m : Addr} {H : Hp} {L : List (List Int) → Prop} {Q Q' : List (List Int) → V → Hp → Prop} (h : STold K n m H L Q) (f : ∀ L0 v H', Q L0 v H' → Q' L0 v H') : STold K n m H L Q' := by
  rcases h with ⟨t, L0, k, q1, q2, q⟩ | ⟨ks, a, b, c, d, q⟩
  · exact .inl ⟨t, L0, k, q1, q2, f _ _ _ q⟩
  · exact .inr ⟨ks, a, b, c, d, fun H' p L0 a1 a2 a3 a4 => f _ _ _ (q H' p L0 a1 a2 a3 a4)⟩
def spST (K : PySem.W.Frag) : Sp := fun vs H Q _ => ∃ (n : Nat) (m : Addr) (L : List (List Int) → Prop), vs = [.int n, .ref m] ∧ 1 ≤ n ∧ n ≤ 6 ∧ STold K n m H L fun _ => Q
theorem sc_ST : FnScope ["corners", "members", "chosen"] ["corners", "members"] (defScope (top 61)) := ⟨rfl, rfl, rfl, by decide +kernel, rfl, by decide +kernel, by decide +kernel⟩
theorem ok_ST (T : Tx K mg) (C : Tc K mg) : Ok P w K mg base "sets_told" 4 ["corners", "members"] (spST K) := by
  refine mkOk T.d_sets_told sc_ST (fun _ _ _ _ _ _ us hl => match us, hl with | [_, _], _ => rfl) (fun vs H Q E h => by obtain ⟨n, m, L, rfl, _⟩ := h; rfl) (fun cdv A outer s H vs Q E f hr h => ?_)
  obtain ⟨n, m, L, rfl, hn1, hn6, q⟩ := h
  obtain ⟨t, hc⟩ := T.c_MAX_PASSED_families
  refine ⟨_, pss_cons (ps_if (pt_val (pe_callB (crIsi2 K (.ref (ga K "KeptSets"))) (by rfl) T.f_isinstance (by decide +kernel) (pa_cons (pv 1) (pa_cons (pe_glob (v := .ref (ga K "KeptSets")) (by rfl) C.KS.gl rfl) pa_nil))))
      (pss_one (ps_ret (SlX.pe_sl (pv 1)))) pss_nil)
    (pss_cons (ps_if (PW.pt (pw_or (pt_not (pt_val (pe_callB (crIsi K) (by rfl) T.f_isinstance (by decide +kernel) (pa_cons (pv 1) (pa_cons (pe_bltn (v := .ty "tuple") (by rfl) T.f_tuple (by decide +kernel) rfl) pa_nil)))))
      (pw_or1 (pt_cmpR op_gt (pe_callB (crLen K) (by rfl) T.f_len PySem.boot_len (pa_cons (pv 1) pa_nil)) (pe_glob (v := .int 256) (by rfl) hc ⟨_, rfl⟩) (nomark _))))) (pss_one ps_never) pss_nil)
    (pss_cons (ps_if (pt_not (pt_val (pe_callB (crAll K rfl) (by rfl) T.f_all (by decide +kernel) (pa_cons (pe_lc (own := [("chosen", 2)]) (g := gName 2) (tt := tYes) rfl sc_ST.nd (pi_tK K (pv 1))
        (blkOk_by (N := ["corners", "members", "chosen"]) (sc := defScope (top 61)) (by decide +kernel)) (fun _ _ _ _ _ => pg_name (i := 2) sc_ST.nd rfl (Or.inl rfl)) (fun _ _ _ _ _ => pts_nil)
        (fun _ _ _ _ _ => pcall (ok_On T) hr (pa_cons (pv 0) (pa_cons (pv 2) pa_nil)))) pa_nil)))) (pss_one ps_never) pss_nil)
    (pss_one (ps_ret (pcall (ok_CD T) (hr.mono (by decide)) (pa_cons (pv 1) pa_nil)))))), ?_⟩
  rcases q with ⟨l, L0, ⟨dx, hk⟩, _, _, q⟩ | ⟨ks, ⟨vs, hvs, rv⟩, hz, hon, hL, q⟩
  · refine ⟨_, rfl, isi_own hk C.KS.sc C.KS.si C.kKS ⟨true, rfl, iteT ?_⟩⟩
    exact ⟨_, rfl, m, _, dx, _, _, 0, _, rfl, hk, C.KS.sc, C.sKS, rfl, q⟩
  · refine ⟨_, rfl, isi_tup hvs C.kKS' ⟨false, rfl, iteF ?_⟩⟩
    refine ⟨_, rfl, .ref m, .ty "tuple", .type "tuple", .type "tuple", true, rfl, .ty _, .base (.tup hvs), kit_ty (by decide +kernel), true, rfl, iteF ?_⟩
    have hl : ks.length = vs.length := Paired.length rv
    refine ⟨_, rfl, m, vs, rfl, .inr (SqT.of hvs), _, 256, rfl, rfl, _, rfl, ?_⟩
    rw [decide_eq_false (by omega : ¬ ((256 : Int) < (vs.length : Int)))]
    refine iteF ?_
    refine ⟨_, rfl, m, rfl, ⟨vs, SqT.of hvs⟩, fun D hD => ?_⟩
    refine lc_fromM (xs := vs) (ks := ks) RT RB (fun _ _ _ _ _ r => r) (fun k => true) walk_tup (fun H1 s1 => SqT.of (s1 _ _ hvs)) rv hD (by omega) (fun k0 x H1 Kk hk0 s1 r hk1 => ?_) (fun H1 ys s1 hy pr => ?_)
    · obtain ⟨b, rfl, hb⟩ := r
      exact ⟨rfl, _, rfl, _, rfl, n, b, k0, rfl, s1 _ _ hb, hon k0 hk0, by have := on_few (hon k0 hk0); omega, fun H2 s2 => hk1 _ _ s2 rfl⟩
    · have e := rb_list pr
      subst e
      refine ⟨D, _, rfl, SqL.of hy, ?_⟩
      rw [all_map_id]
      have hall : (ks.all fun k => true) = true := List.all_eq_true.mpr fun k hk => rfl
      rw [hall]
      refine ⟨true, rfl, iteF ?_⟩
      refine ⟨_, rfl, m, ks, n, rfl, ⟨vs, s1 _ _ hvs, rts_go (tups_of s1) rv⟩, hz, hn6, hon, fun H2 p ks' s2 hp a1 a2 a3 => ?_⟩
      exact q H2 p ks' (s1.trans s2) (fresh_of s1 hp) (hL ks' a1 a2) a3
/-! ### Family.__init__ -/
def spFI (K : PySem.W.Frag) : Sp := fun vs H Q _ => ∃ (x dx m : Addr) (n : Nat) (L : List (List Int) → Prop), vs = [.ref x, .int n, .ref m] ∧ New H x (ga K "Family") dx ∧ 1 ≤ n ∧ n ≤ 6 ∧ (∀ L0, L L0 → L0.Nodup ∧ ∀ k ∈ L0, On n k) ∧
  STold K n m H L fun L0 v H1 => ∃ l, v = .ref l ∧ But2 x dx H H1 ∧ L L0 ∧ LL H1 l L0 ∧ New H1 x (ga K "Family") dx ∧ ∀ H' L1 M, But2 x dx H H' → L1.Perm L0 → M.Nodup → M.Pairwise lexT → (∀ k, k ∈ M ↔ GreatOf L1 k) → FamAt K H' x n L1 M → Q .non H'
theorem sc_FI : FnScope ["self", "corners", "members", "chosen"] ["self", "corners", "members"] (defScope (mth 60 1)) := ⟨rfl, rfl, rfl, by decide +kernel, rfl, by decide +kernel, by decide +kernel⟩
theorem ok_FI (T : Tx K mg) (C : Tc K mg) : FnR P w K mg base CX0 5 (ma K (ga K "Family") "__init__") (spFI K) := by
  refine mkM C.iFA.fn sc_FI (fun _ _ _ _ _ _ us hl => match us, hl with | [_, _, _], _ => rfl) (fun vs H Q E h => by obtain ⟨a, k, m, n, L, rfl, _⟩ := h; rfl) (fun cdv A outer s H vs Q E hr h => ?_)
  obtain ⟨x, dx, m, n, L, rfl, hx, hn1, hn6, hgood, q⟩ := h
  obtain ⟨t, hc⟩ := T.c_MAX_CORNERS
  refine ⟨_, pss_cons (ps_if (pt_not (pt_val (pcall (ok_within T) (hr.mono (by decide)) (pa_cons (pv 1) (pa_cons pe_int (pa_cons (pe_glob (v := .int 8) (by rfl) hc ⟨_, rfl⟩) pa_nil)))))) (pss_one ps_never) pss_nil)
    (pss_cons (SlX.ps_sl (pv 0) (pcall (ok_BS T) (hr.mono (by decide)) (pa_cons (pcall (ok_ST T C) hr (pa_cons (pv 1) (pa_cons (pv 2) pa_nil))) pa_nil)) rfl)
    (pss_cons (SlX.ps_sl (pv 0) (pe_dt1 (own := [("chosen", 3)]) (g := gName 3) (tt := tYes) rfl (u1 hr.units) sc_FI.nd (pi_lK K (SlX.pe_sl (pv 0))) (blkOk_by (N := ["self", "corners", "members", "chosen"]) (sc := defScope (mth 60 1)) (by decide +kernel))
        (fun _ _ _ _ _ => pg_name (i := 3) sc_FI.nd rfl (Or.inl rfl)) (fun _ _ _ _ _ => pts_nil) (fun _ _ _ _ _ => pv 3) (fun _ _ _ _ _ => pe_bl)) rfl)
    (pss_cons (SlX.ps_sl (pv 0) (pcall (ok_GO T) (hr.mono (by decide)) (pa_cons (SlX.pe_sl (pv 0)) pa_nil)) rfl)
    (pss_one (SlX.ps_sl (pv 0) (pv 1) rfl))))), ?_⟩
  refine ⟨_, rfl, (n : Int), 1, 8, rfl, _, rfl, ?_⟩
  rw [decide_eq_true (show (1 : Int) ≤ (n : Int) ∧ (n : Int) ≤ 8 by omega)]
  refine iteF ?_
  refine ⟨_, rfl, _, rfl, n, m, L, rfl, hn1, hn6, q.imp fun L0 v H1 hq => ?_⟩
  obtain ⟨l, rfl, b1, hL0, hl, nx, q⟩ := hq
  obtain ⟨hnd, hon⟩ := hgood L0 hL0
  have h64 : L0.length ≤ 64 := Nat.le_trans (nd_le hnd fun k hk => mem_subs.mpr (hon k hk)) (subs_few hn6)
  refine ⟨l, L0, rfl, hl, by omega, fun H2 p1 L1 s2 hp1 pm hp => ?_⟩
  have h64' : L1.length ≤ 64 := by rw [pm.length_eq]; exact h64
  have hnd1 : L1.Nodup := pm.nodup_iff.mpr hnd
  have a2 := nx.att.go s2
  refine ⟨_, rfl, x, _, dx, _, [], 3, rfl, a2.at_, C.FA.sc, C.sF3, ?_⟩
  have a3 : Att (SlX.slH H2 x (ga K "Family") dx (SlX.putS 3 (.ref p1) [])) x (ga K "Family") dx (SlX.putS 3 (.ref p1) []) := a2.put
  have hp3 := a2.ll (vs' := SlX.putS 3 (.ref p1) []) hp
  obtain ⟨us, hus, ru⟩ := id hp3
  refine ⟨_, rfl, x, _, dx, _, _, 3, _, rfl, a3.at_, C.FA.sc, C.sF3, rfl, p1, rfl, ⟨us, SqL.of hus⟩, fun D hD => ?_⟩
  refine dt_from (walk_list (K := K) (a := p1) (xs := us)) (fun G s => SqL.of (s _ _ hus)) ru hD (by omega) (fun k0 b kvs G N hk0 hb hd hl hN => ⟨rfl, yes (iteT ⟨_, rfl, _, _, _, rfl, hb, hd, hl, hN⟩)⟩) fun H3 s3 hdk => ?_
  rw [dd_nd hnd1] at hdk
  have a4 := a3.go s3
  refine ⟨_, rfl, x, _, dx, _, _, 1, rfl, a4.at_, C.FA.sc, C.sF1, ?_⟩
  have a5 : Att (SlX.slH H3 x (ga K "Family") dx (SlX.putS 1 (.ref D) (SlX.putS 3 (.ref p1) []))) x (ga K "Family") dx (SlX.putS 1 (.ref D) (SlX.putS 3 (.ref p1) [])) := a4.put
  have hp5 := a4.ll (vs' := SlX.putS 1 (.ref D) (SlX.putS 3 (.ref p1) [])) (hp3.go s3)
  have hd5 := a4.dk (vs' := SlX.putS 1 (.ref D) (SlX.putS 3 (.ref p1) [])) hdk
  refine ⟨_, rfl, x, _, dx, _, _, 3, _, rfl, a5.at_, C.FA.sc, C.sF3, rfl, p1, L1, n, rfl, hp5, h64', hnd1, fun k hk => by have := on_few (hon k (pm.mem_iff.mp hk)); omega, fun H4 p2 M s4 hp2 m1 m2 m3 m4 => ?_⟩
  have a6 := a5.go s4
  refine ⟨_, rfl, x, _, dx, _, _, 2, rfl, a6.at_, C.FA.sc, C.sF2, ?_⟩
  have a7 : Att (SlX.slH H4 x (ga K "Family") dx (SlX.putS 2 (.ref p2) (SlX.putS 1 (.ref D) (SlX.putS 3 (.ref p1) [])))) x (ga K "Family") dx (SlX.putS 2 (.ref p2) (SlX.putS 1 (.ref D) (SlX.putS 3 (.ref p1) []))) := a6.put
  refine ⟨_, rfl, _, rfl, x, _, dx, _, _, 0, rfl, a7.at_, C.FA.sc, C.sF0, ?_⟩
  refine q _ L1 M ?_ pm m1 m2 m3 ⟨dx, D, p2, p1, a7.put.at_, ?_, ?_, ?_⟩
  · exact b1.trans ((but2_same s2).trans (but2_slH.trans ((but2_same s3).trans (but2_slH.trans ((but2_same s4).trans (but2_slH.trans but2_slH))))))
  · exact a7.dk (a6.dk (hd5.go s4))
  · exact (m4.go a6.tups).go a7.tups
  · exact a7.ll (a6.ll (hp5.go s4))
end
end K41

/-! K41G4 -/
/-! made_family, lots and families one out of the other. -/
namespace K41
open PySem PySem.Spec PyProof.Rows L2
section
variable {X : Cx} {e : Expr} {f : Str} {pos : Pos} {ta : TE}
theorem pe_slK (K : PySem.W.Frag) (he : PE X e ta) (hK : X.K = K := by rfl) (hb : attributeBase e f X.env (eval e X.env) = eval e X.env := by rfl) : PE X (.Attribute e f pos) (SlX.tSl K ta f) := by
  subst hK
  exact SlX.pe_sl he hb
end
/-- the scope of the comprehension that is stored by the j-th statement of the def at the top's i-th -/
def scOf (i j : Nat) : Scope := match (defBody (top i)).getD j (.Pass ⟨0, 0, 0, 0⟩) with
  | .Assign _ (.ListComp _ _ sc _) _ => sc
  | .Return (some (.ListComp _ _ sc _)) _ => sc
  | _ => defScope (top i)
theorem fm_yes (p : List Int → Bool) : ∀ ks : List (List Int), (ks.filterMap fun k => if p k = true then some k else none) = ks.filter p
  | [] => rfl
  | k :: ks => by
    by_cases hm : p k = true
    · rw [List.filterMap_cons_some (by rw [if_pos hm]), List.filter_cons_of_pos hm, fm_yes p ks]
    · rw [List.filterMap_cons_none (by rw [if_neg hm]), List.filter_cons_of_neg hm, fm_yes p ks]
/-- as the comprehensions within it see it -/
def scR (i j : Nat) : Scope := { scOf i j with names := (scOf i j).names.map fun (n, k) => if k == NameKind.free then (n, NameKind.cell) else (n, k) }
section
variable {P : Program} {w : World} {K : PySem.W.Frag} {mg : Str → Option Value} {base : Heap}
/-! ### made_family -/
/-- the members of a family of the sets L -/
structure Tops (L M : List (List Int)) : Prop where
  nd : M.Nodup
  srt : M.Pairwise lexT
  mem : ∀ k, k ∈ M ↔ GreatOf L k
def spMF (K : PySem.W.Frag) : Sp := fun vs H Q _ => ∃ (l : Addr) (n : Nat) (L0 : List (List Int)), vs = [.int n, .ref l] ∧ 1 ≤ n ∧ n ≤ 6 ∧ LL H l L0 ∧ L0.Nodup ∧ (∀ k ∈ L0, On n k) ∧
  ∀ H' x L1 M, Same H H' → H x = none → L1.Perm L0 → Tops L1 M → FamAt K H' x n L1 M → Q (.ref x) H'
theorem sc_MF : FnScope ["corners", "sets"] ["corners", "sets"] (defScope (top 62)) := ⟨rfl, rfl, rfl, by decide +kernel, rfl, by decide +kernel, by decide +kernel⟩
theorem ok_MF (T : Tx K mg) (C : Tc K mg) : Ok P w K mg base "made_family" 7 ["corners", "sets"] (spMF K) := by
  refine mkOk T.d_made_family sc_MF (fun _ _ _ _ _ _ us hl => match us, hl with | [_, _], _ => rfl) (fun vs H Q E h => by obtain ⟨l, n, L, rfl, _⟩ := h; rfl) (fun cdv A outer s H vs Q E f hr h => ?_)
  obtain ⟨l, n, L0, rfl, hn1, hn6, hl, hnd, hon, q⟩ := h
  refine ⟨_, pss_one (ps_ret (StX.pe_makeR C.FA.mr (ok_FI T C) hr (by rfl) C.FA.gl pass0 (pa_cons (pv 0) (pa_cons
    (StX.pe_makeR C.KS.mr (ok_KS C) (hr.mono (by decide)) (by rfl) C.KS.gl pass0 (pa_cons (pv 1) pa_nil)) pa_nil)))), ?_⟩
  refine ⟨_, rfl, _, rfl, ?_⟩
  intro y dy hy hdy ney
  obtain ⟨ny, sy⟩ := new_made (C := ga K "KeptSets") hy hdy ney
  refine ⟨y, dy, _, rfl, ny, rfl, ?_⟩
  intro x dx hx hdx nex
  obtain ⟨nx, sx⟩ := new_made (C := ga K "Family") hx hdx nex
  have s2 : Same H (SlX.slH (upd (upd H dy (.own y)) y (.ins (ga K "KeptSets") dy [])) y (ga K "KeptSets") dy [some (.ref l)]) := slH_same sy hy hdy
  have hkept : Kept K "KeptSets" (upd (upd (SlX.slH (upd (upd H dy (.own y)) y (.ins (ga K "KeptSets") dy [])) y (ga K "KeptSets") dy [some (.ref l)]) dx (.own x)) x (.ins (ga K "Family") dx [])) y (.ref l) := Kept.go ⟨dy, ny.here⟩ sx
  have s3 := s2.trans sx
  have hl3 : LL _ l L0 := hl.go s3
  refine ⟨x, dx, y, n, fun L => L = L0, rfl, nx, hn1, hn6, fun L e => by rw [e]; exact ⟨hnd, hon⟩, .inl ⟨l, L0, hkept, hl3, rfl, l, rfl, but2_same (Same.refl _), rfl, hl3, nx, fun H' L1 M b pm m1 m2 m3 hF => ?_⟩⟩
  refine ⟨rfl, q H' x L1 M ?_ (fresh_of s2 hx) pm ⟨m1, m2, m3⟩ hF⟩
  exact but2_new (fresh_of s2 hx) (fresh_of s2 hdx) s3 b
/-! ### require_lot, require_family -/
def spRL (K : PySem.W.Frag) : Sp := fun vs H Q _ => ∃ x n M, vs = [.ref x] ∧ LotAt K H x n M ∧ Q .non H
theorem sc_RL : FnScope ["value"] ["value"] (defScope (top 49)) := ⟨rfl, rfl, rfl, by decide +kernel, rfl, by decide +kernel, by decide +kernel⟩
theorem ok_RL (T : Tx K mg) (C : Tc K mg) : Ok P w K mg base "require_lot" 1 ["value"] (spRL K) := by
  refine mkOk T.d_require_lot sc_RL (fun _ _ _ _ _ _ us hl => match us, hl with | [_], _ => rfl) (fun vs H Q E h => by obtain ⟨l, n, L, rfl, _⟩ := h; rfl) (fun cdv A outer s H vs Q E f hr h => ?_)
  obtain ⟨x, n, M, rfl, ⟨dx, t, hs, _⟩, q⟩ := h
  refine ⟨_, pss_one (ps_if (pt_not (pt_val (pe_callB (crIsi2 K (.ref (ga K "Lot"))) (by rfl) T.f_isinstance (by decide +kernel) (pa_cons (pv 0) (pa_cons (pe_glob (v := .ref (ga K "Lot")) (by rfl) C.LO.gl rfl) pa_nil))))) (pss_one ps_never) pss_nil), ?_⟩
  exact ⟨_, rfl, isi_own hs C.LO.sc C.LO.si C.kLO ⟨true, rfl, iteF q⟩⟩
def spRF (K : PySem.W.Frag) : Sp := fun vs H Q _ => ∃ x n L M, vs = [.ref x] ∧ FamAt K H x n L M ∧ Q .non H
theorem sc_RF : FnScope ["value"] ["value"] (defScope (top 63)) := ⟨rfl, rfl, rfl, by decide +kernel, rfl, by decide +kernel, by decide +kernel⟩
theorem ok_RF (T : Tx K mg) (C : Tc K mg) : Ok P w K mg base "require_family" 1 ["value"] (spRF K) := by
  refine mkOk T.d_require_family sc_RF (fun _ _ _ _ _ _ us hl => match us, hl with | [_], _ => rfl) (fun vs H Q E h => by obtain ⟨l, n, L, M, rfl, _⟩ := h; rfl) (fun cdv A outer s H vs Q E f hr h => ?_)
  obtain ⟨x, n, L, M, rfl, ⟨dx, d, t, l, hs, _⟩, q⟩ := h
  refine ⟨_, pss_one (ps_if (pt_not (pt_val (pe_callB (crIsi2 K (.ref (ga K "Family"))) (by rfl) T.f_isinstance (by decide +kernel) (pa_cons (pv 0) (pa_cons (pe_glob (v := .ref (ga K "Family")) (by rfl) C.FA.gl rfl) pa_nil))))) (pss_one ps_never) pss_nil), ?_⟩
  exact ⟨_, rfl, isi_own hs C.FA.sc C.FA.si C.kFA ⟨true, rfl, iteF q⟩⟩
/-! ### require_without_squares -/
def spRS (K : PySem.W.Frag) : Sp := fun vs H Q _ => ∃ x n M, vs = [.ref x] ∧ LotAt K H x n M ∧ M.length ≤ 100 ∧ (∀ m ∈ M, m.length ≤ 100) ∧ noSq M = true ∧ ∀ H', Same H H' → Q .non H'
theorem sc_RS : FnScope ["lot"] ["lot"] (defScope (top 65)) := ⟨rfl, rfl, rfl, by decide +kernel, rfl, by decide +kernel, by decide +kernel⟩
theorem ok_RS (T : Tx K mg) (C : Tc K mg) : Ok P w K mg base "require_without_squares" 2 ["lot"] (spRS K) := by
  refine mkOk T.d_require_without_squares sc_RS (fun _ _ _ _ _ _ us hl => match us, hl with | [_], _ => rfl) (fun vs H Q E h => by obtain ⟨l, n, L, rfl, _⟩ := h; rfl) (fun cdv A outer s H vs Q E f hr h => ?_)
  obtain ⟨x, n, M, rfl, ⟨dx, t, hs, hM⟩, hz, hl, hsq, q⟩ := h
  refine ⟨_, pss_one (ps_if (pt_not (pt_val (pcall (ok_Sq T) hr (pa_cons (SlX.pe_sl (pv 0)) pa_nil)))) (pss_one ps_never) pss_nil), ?_⟩
  refine ⟨_, rfl, x, _, dx, _, _, 1, _, rfl, hs, C.LO.sc, C.sL1, rfl, t, M, rfl, hM, hz, hl, fun H' s1 => ?_⟩
  rw [hsq]
  exact ⟨true, rfl, iteF (q H' s1)⟩
/-! ### sets_left, family_in -/
def spSL (K : PySem.W.Frag) : Sp := fun vs H Q _ => ∃ (x : Addr) (n : Nat) (M : List (List Int)), vs = [.ref x] ∧ LotAt K H x n M ∧ n ≤ 6 ∧ M.length ≤ 100 ∧ (∀ m ∈ M, m.length = n) ∧
  ∀ H' p L, Same H H' → H p = none → L.Nodup → (∀ k, k ∈ L ↔ On n k ∧ M.any (fun m => dv m (prod n k)) = false) → LL H' p L → Q (.ref p) H'
theorem sc_SL : FnScope ["lot", "letters", "members", "chosen"] ["lot"] (defScope (top 67)) := ⟨rfl, rfl, rfl, by decide +kernel, rfl, by decide +kernel, by decide +kernel⟩
theorem ok_SL (T : Tx K mg) (C : Tc K mg) : Ok P w K mg base "sets_left" 3 ["lot"] (spSL K) := by
  refine mkOk T.d_sets_left sc_SL (fun _ _ _ _ _ _ us hl => match us, hl with | [_], _ => rfl) (fun vs H Q E h => by obtain ⟨l, n, L, rfl, _⟩ := h; rfl) (fun cdv A outer s H vs Q E f hr h => ?_)
  obtain ⟨x, n, M, rfl, ⟨dx, t, hs, hM⟩, hn6, hz, hl, q⟩ := h
  refine ⟨_, pss_cons (ps_asg (pe_tup (pa_cons (SlX.pe_sl (pv 0)) (pa_cons (SlX.pe_sl (pv 0)) pa_nil))) (pg_tup rfl (pgs_cons (pg_name (i := 1) sc_SL.nd rfl (Or.inr rfl)) (pgs_cons (pg_name (i := 2) sc_SL.nd rfl (Or.inr rfl)) pgs_nil))))
    (pss_one (ps_ret (pe_lc (own := [("chosen", 3)]) (g := gName 3) rfl sc_SL.nd (pi_lK K (pcall (ok_AS T) hr (pa_cons (pv 1) pa_nil))) (blkOk_by (N := ["lot", "letters", "members", "chosen"]) (sc := defScope (top 67)) (by decide +kernel))
      (fun _ _ _ _ _ => pg_name (i := 3) sc_SL.nd rfl (Or.inl rfl)) (fun _ _ _ _ _ => pts_one (pt_not (pt_val (pcall (ok_Has T) hr (pa_cons (pv 2) (pa_cons (pcall (ok_Prod T) (hr.mono (by decide)) (pa_cons (pv 1) (pa_cons (pv 3) pa_nil))) pa_nil)))))) (fun _ _ _ _ _ => pv 3)))), ?_⟩
  refine ⟨_, rfl, x, _, dx, _, _, 0, _, rfl, hs, C.LO.sc, C.sL0, rfl, _, rfl, x, _, dx, _, _, 1, _, rfl, hs, C.LO.sc, C.sL1, rfl, bigle (by show 2 ≤ _; decide), fun p0 hp0 => ?_⟩
  refine ⟨p0, _, rfl, SqT.of upd_same, rfl, _, _, rfl, _, _, rfl, rfl, ?_⟩
  refine ⟨_, rfl, n, rfl, hn6, fun H1 p1 ks s1 hp1 pm hks => ?_⟩
  have s01 := (same_new (o := .tup [.int n, .ref t]) hp0).trans s1
  obtain ⟨us, hus, ru⟩ := hks
  have hlen : ks.length ≤ 64 := by rw [pm.length_eq]; exact subs_few hn6
  have hM1 := hM.go (tups_of s01)
  refine ⟨p1, rfl, ⟨us, SqL.of hus⟩, fun D hD => ?_⟩
  refine lc_from (xs := us) (ks := ks) RT RT (fun _ _ _ _ s r => r.go s) (fun k => if M.any (fun m => dv m (prod n k)) = true then none else some k) walk_list (fun H2 s2 => SqL.of (s2 _ _ hus)) ru hD (by omega) (fun k0 y H2 Kk N hk0 s2 r h1 h2 => ?_) (fun H2 ys s2 hy pr => ?_)
  · obtain ⟨b, rfl, hb⟩ := r
    refine ⟨rfl, _, rfl, _, rfl, _, rfl, n, b, k0, rfl, s2 _ _ hb, by omega, fun H3 p3 s3 hp3 hi3 => ?_⟩
    refine ⟨t, p3, M, prod n k0, rfl, hM1.go (tups_of (s2.trans s3)), hi3, fun m hm => by rw [prod_len]; exact hl m hm, by rw [prod_len]; omega, by omega, fun H4 s4 => ?_⟩
    refine ⟨_, rfl, ?_⟩
    by_cases ha : M.any (fun m => dv m (prod n k0)) = true
    · rw [ha]
      exact iteF (h2 _ (if_pos ha) (s3.trans s4))
    · rw [Bool.eq_false_iff.mpr ha]
      exact iteT ⟨_, rfl, h1 k0 _ _ (if_neg ha) (s3.trans s4) ⟨b, rfl, (s3.trans s4) _ _ (s2 _ _ hb)⟩⟩
  · rw [fm_not (fun k => M.any (fun m => dv m (prod n k)) = true)] at pr
    refine q H2 D _ (s01.trans s2) (fresh_of s01 hD) ((pm.nodup_iff.mpr (subs_nodup n)).sublist List.filter_sublist) (fun k => ?_) ⟨ys, hy, pr⟩
    rw [List.mem_filter, pm.mem_iff, mem_subs, decide_eq_true_eq]
    simp only [Bool.not_eq_true]
def spFIn (K : PySem.W.Frag) : Sp := fun vs H Q _ => ∃ (x : Addr) (n : Nat) (M : List (List Int)), vs = [.ref x] ∧ LotAt K H x n M ∧ 1 ≤ n ∧ n ≤ 6 ∧ M.length ≤ 100 ∧ (∀ m ∈ M, m.length = n) ∧
  ∀ H' y L Mx, Same H H' → H y = none → L.Nodup → (∀ k, k ∈ L ↔ On n k ∧ M.any (fun m => dv m (prod n k)) = false) → Tops L Mx → FamAt K H' y n L Mx → Q (.ref y) H'
theorem sc_FIn : FnScope ["lot"] ["lot"] (defScope (top 68)) := ⟨rfl, rfl, rfl, by decide +kernel, rfl, by decide +kernel, by decide +kernel⟩
theorem ok_FIn (T : Tx K mg) (C : Tc K mg) : Ok P w K mg base "family_in" 8 ["lot"] (spFIn K) := by
  refine mkOk T.d_family_in sc_FIn (fun _ _ _ _ _ _ us hl => match us, hl with | [_], _ => rfl) (fun vs H Q E h => by obtain ⟨l, n, L, rfl, _⟩ := h; rfl) (fun cdv A outer s H vs Q E f hr h => ?_)
  obtain ⟨x, n, M, rfl, hlot, hn1, hn6, hz, hl, q⟩ := h
  obtain ⟨dx, t, hs, hM⟩ := id hlot
  refine ⟨_, pss_one (ps_ret (pcall (ok_MF T C) hr (pa_cons (SlX.pe_sl (pv 0)) (pa_cons (pcall (ok_SL T C) (hr.mono (by decide)) (pa_cons (pv 0) pa_nil)) pa_nil)))), ?_⟩
  refine ⟨_, rfl, x, _, dx, _, _, 0, _, rfl, hs, C.LO.sc, C.sL0, rfl, _, rfl, x, n, M, rfl, hlot, hn6, hz, hl, fun H1 p L s1 hp hnd hm hL => ?_⟩
  refine ⟨p, n, L, rfl, hn1, hn6, hL, hnd, fun k hk => ((hm k).mp hk).1, fun H2 y L1 Mx s2 hy pm tops hF => ?_⟩
  exact q H2 y L1 Mx (s1.trans s2) (fresh_of s1 hy) (pm.nodup_iff.mpr hnd) (fun k => (pm.mem_iff).trans (hm k)) tops hF
/-! ### family_of -/
theorem sc_FO : FnScope ["lot"] ["lot"] (defScope (top 70)) := ⟨rfl, rfl, rfl, by decide +kernel, rfl, by decide +kernel, by decide +kernel⟩
def spFO (K : PySem.W.Frag) : Sp := fun vs H Q _ => ∃ (x : Addr) (n : Nat) (M : List (List Int)), vs = [.ref x] ∧ noSq M = true ∧ LotAt K H x n M ∧ 1 ≤ n ∧ n ≤ 6 ∧ M.length ≤ 100 ∧ (∀ m ∈ M, m.length = n) ∧
  ∀ H' y L Mx, Same H H' → H y = none → L.Nodup → (∀ k, k ∈ L ↔ On n k ∧ M.any (fun m => dv m (prod n k)) = false) → Tops L Mx → FamAt K H' y n L Mx → Q (.ref y) H'
theorem ok_FO (T : Tx K mg) (C : Tc K mg) : Ok P w K mg base "family_of" 9 ["lot"] (spFO K) := by
  refine mkOk T.d_family_of sc_FO (fun _ _ _ _ _ _ us hl => match us, hl with | [_], _ => rfl) (fun vs H Q E h => by obtain ⟨l, n, L, rfl, _⟩ := h; rfl) (fun cdv A outer s H vs Q E f hr h => ?_)
  obtain ⟨x, n, M, rfl, hsq, hlot, hn1, hn6, hz, hl, q⟩ := h
  refine ⟨_, pss_cons (ps_expr (pcall (ok_RL T C) (hr.mono (by decide)) (pa_cons (pv 0) pa_nil))) (pss_cons (ps_expr (pcall (ok_RS T C) (hr.mono (by decide)) (pa_cons (pv 0) pa_nil)))
    (pss_one (ps_ret (pcall (ok_FIn T C) hr (pa_cons (pv 0) pa_nil))))), ?_⟩
  refine ⟨_, rfl, x, n, M, rfl, hlot, ?_⟩
  refine ⟨_, rfl, x, n, M, rfl, hlot, hz, fun m hm => by rw [hl m hm]; omega, hsq, fun H1 s1 => ?_⟩
  refine ⟨_, rfl, x, n, M, rfl, hlot.go s1, hn1, hn6, hz, hl, fun H2 y L Mx s2 hy a1 a2 a3 a4 => ?_⟩
  exact q H2 y L Mx (s1.trans s2) (fresh_of s1 hy) a1 a2 a3 a4
/-! ### lot_in, lot_of -/
def spLIn (K : PySem.W.Frag) : Sp := fun vs H Q _ => ∃ (y : Addr) (n : Nat) (L Mx : List (List Int)), vs = [.ref y] ∧ FamAt K H y n L Mx ∧ Fam n L ∧ 1 ≤ n ∧ n ≤ 6 ∧
  ∀ H' x M, Same H H' → H x = none → M.Nodup → M.Pairwise lexT → (∀ m, m ∈ M ↔ ∃ c, MinNon n L c ∧ m = prod n c) → LotAt K H' x n M → Q (.ref x) H'
theorem sc_LIn : FnScope ["family", "corners", "lacking", "least", "chosen", "smaller"] ["family"] (defScope (top 69)) := ⟨rfl, rfl, rfl, by decide +kernel, rfl, by decide +kernel, by decide +kernel⟩
theorem ok_LIn (T : Tx K mg) (C : Tc K mg) : Ok P w K mg base "lot_in" 8 ["family"] (spLIn K) := by
  refine mkOk T.d_lot_in sc_LIn (fun _ _ _ _ _ _ us hl => match us, hl with | [_], _ => rfl) (fun vs H Q E h => by obtain ⟨l, n, L, Mx, rfl, _⟩ := h; rfl) (fun cdv A outer s H vs Q E f hr h => ?_)
  obtain ⟨y, n, L, Mx, rfl, hfam, hF, hn1, hn6, q⟩ := h
  refine ⟨_, pss_cons (ps_set (i := 1) sc_LIn.nd rfl (Or.inr rfl) (SlX.pe_sl (pv 0)))
    (pss_cons (ps_setLc (i := 2) (own := [("chosen", 4)]) (g := gName 4) rfl sc_LIn.nd rfl rfl (sw_true rfl rfl rfl (by decide +kernel)) (pi_lK K (pcall (ok_AS T) (hr.mono (by decide)) (pa_cons (pv 1) pa_nil)))
      (blkOk_by (N := ["family", "corners", "lacking", "least", "chosen", "smaller"]) (sc := defScope (top 69)) (by decide +kernel)) (fun _ _ _ _ _ => pg_name (i := 4) sc_LIn.nd rfl (Or.inl rfl)) (fun _ _ _ _ _ => pts_one (pt_cmp (pc_dnotin (u1 hr.units) (pv 4) (pe_slK K (pv 0))) rfl)) (fun _ _ _ _ _ => pv 4))
    (pss_cons (ps_setLc (i := 3) (own := [("chosen", 4)]) (g := gName 4) rfl sc_LIn.nd rfl rfl (sw_true rfl rfl rfl (by decide +kernel)) (pi_lK K (pv 2))
      (blkOk_by (N := ["family", "corners", "lacking", "least", "chosen", "smaller"]) (sc := defScope (top 69)) (by decide +kernel)) (fun _ _ _ _ _ => pg_name (i := 4) sc_LIn.nd rfl (Or.inl rfl)) (fun _ _ _ _ _ => pts_one (pt_val (pe_callB (crAll K rfl) (by rfl) T.f_all (by decide +kernel) (pa_cons
        (pe_lc (own := [("smaller", 5)]) (g := gName 5) (tt := tYes) rfl sc_LIn.nd (pi_lK K (pcall (ok_WE T) (hr.mono (by decide)) (pa_cons (pv 4) pa_nil))) (blkOk_by (N := ["family", "corners", "lacking", "least", "chosen", "smaller"]) (sc := scR 69 2) (by decide +kernel)) (fun _ _ _ _ _ => pg_name (i := 5) sc_LIn.nd rfl (Or.inl rfl)) (fun _ _ _ _ _ => pts_nil)
          (fun _ _ _ _ _ => pe_cmp (pc_din (u1 hr.units) (pv 5) (pe_slK K (pv 0))) rfl)) pa_nil)))) (fun _ _ _ _ _ => pv 4))
    (pss_one (ps_ret (pcall (ok_ML T C) hr (pa_cons (pv 1) (pa_cons (pe_lc (own := [("chosen", 4)]) (g := gName 4) (tt := tYes) rfl sc_LIn.nd (pi_lK K (pv 3)) (blkOk_by (N := ["family", "corners", "lacking", "least", "chosen", "smaller"]) (sc := defScope (top 69)) (by decide +kernel))
      (fun _ _ _ _ _ => pg_name (i := 4) sc_LIn.nd rfl (Or.inl rfl)) (fun _ _ _ _ _ => pts_nil) (fun _ _ _ _ _ => pcall (ok_Prod T) (hr.mono (by decide)) (pa_cons (pv 1) (pa_cons (pv 4) pa_nil)))) pa_nil))))))), ?_⟩
  obtain ⟨dx, d, tm, ls, hs, hd, hM, hL⟩ := id hfam
  refine ⟨_, rfl, y, _, dx, _, _, 0, _, rfl, hs, C.FA.sc, C.sF0, rfl, ?_⟩
  refine ⟨_, rfl, n, rfl, hn6, fun H1 p1 ks s1 hp1 pm hks => ?_⟩
  obtain ⟨us, hus, ru⟩ := hks
  have hlen : ks.length ≤ 64 := by rw [pm.length_eq]; exact subs_few hn6
  refine ⟨p1, rfl, ⟨us, SqL.of hus⟩, fun D hD => ?_⟩
  refine lc_from (xs := us) (ks := ks) RT RT (fun _ _ _ _ s r => r.go s) (fun k => if k ∈ L then none else some k) walk_list (fun H2 s2 => SqL.of (s2 _ _ hus)) ru hD (by omega) (fun k0 x H2 Kk N hk0 s2 r h1 h2 => ?_) (fun H2 ys s2 hy pr => ?_)
  · obtain ⟨b, rfl, hb⟩ := r
    obtain ⟨o, hg, ho⟩ := dk_get (hd.go (s1.trans s2)) (s2 _ _ hb)
    refine ⟨rfl, _, rfl, _, rfl, y, _, dx, _, _, 1, _, rfl, slt_go hs (s1.trans s2), C.FA.sc, C.sF1, rfl, d, o, rfl, hg, _, rfl, ?_⟩
    rw [ho]
    by_cases hm : k0 ∈ L
    · rw [decide_eq_true hm]
      exact iteF (h2 _ (if_pos hm) (Same.refl _))
    · rw [decide_eq_false hm]
      exact iteT ⟨_, rfl, h1 k0 _ _ (if_neg hm) (Same.refl _) ⟨b, rfl, s2 _ _ hb⟩⟩
  rw [fm_not (fun k => k ∈ L)] at pr
  obtain ⟨N1, hN1⟩ : ∃ N1, N1 = ks.filter fun k => decide (k ∉ L) := ⟨_, rfl⟩
  rw [← hN1] at pr
  have mN1 : ∀ k, k ∈ N1 ↔ On n k ∧ k ∉ L := fun k => by
    rw [hN1, List.mem_filter, pm.mem_iff, mem_subs, decide_eq_true_eq]
  have nN1 : N1.Nodup := by
    rw [hN1]
    exact (pm.nodup_iff.mpr (subs_nodup n)).sublist List.filter_sublist
  have lN1 : N1.length ≤ 64 := by
    have := List.length_filter_le (fun k => decide (k ∉ L)) ks
    rw [hN1]
    omega
  have s12 := s1.trans s2
  refine ⟨_, rfl, D, rfl, ⟨ys, SqL.of hy⟩, fun D2 hD2 => ?_⟩
  refine lc_from (xs := ys) (ks := N1) RT RT (fun _ _ _ _ s r => r.go s) (fun k => if ((wo k).all fun z => decide (z ∈ L)) = true then some k else none) walk_list (fun H3 s3 => SqL.of (s3 _ _ hy)) pr hD2 (by omega) (fun k0 x H3 Kk N hk0 s3 r h1 h2 => ?_) (fun H3 zs s3 hz pr3 => ?_)
  · obtain ⟨b, rfl, hb⟩ := r
    have ho0 := on_few ((mN1 k0).mp hk0).1
    refine ⟨rfl, _, rfl, b, k0, rfl, s3 _ _ hb, by omega, fun H4 l4 s4 hl4 hL4 => ?_⟩
    obtain ⟨ws, hws, rw4⟩ := hL4
    have hwl := wo_few (k := k0)
    refine ⟨l4, rfl, ⟨ws, SqL.of hws⟩, fun D5 hD5 => ?_⟩
    have s14 := s12.trans (s3.trans s4)
    refine lc_fromM (xs := ws) (ks := wo k0) RT RB (fun _ _ _ _ _ r => r) (fun z => decide (z ∈ L)) walk_list (fun H6 s6 => SqL.of (s6 _ _ hws)) rw4 hD5 (by omega) (fun z0 x H6 K6 hz0 s6 r6 hk6 => ?_) (fun H6 y6 s6 hy6 pr6 => ?_)
    · obtain ⟨b6, rfl, hb6⟩ := r6
      obtain ⟨o, hg, ho⟩ := dk_get (hd.go (s14.trans s6)) (s6 _ _ hb6)
      refine ⟨rfl, _, rfl, _, rfl, y, _, dx, _, _, 1, _, rfl, slt_go hs (s14.trans s6), C.FA.sc, C.sF1, rfl, d, o, rfl, hg, ?_⟩
      rw [ho]
      exact hk6 _ _ (Same.refl _) rfl
    · have e := rb_list pr6
      subst e
      refine ⟨D5, _, rfl, SqL.of hy6, _, rfl, ?_⟩
      rw [all_map_id]
      by_cases ha : ((wo k0).all fun z => decide (z ∈ L)) = true
      · rw [ha]
        exact iteT ⟨_, rfl, h1 k0 _ _ (if_pos ha) (s4.trans s6) ⟨b, rfl, (s4.trans s6) _ _ (s3 _ _ hb)⟩⟩
      · rw [Bool.eq_false_iff.mpr ha]
        exact iteF (h2 _ (if_neg ha) (s4.trans s6))
  have hfl := fm_yes (fun k => (wo k).all fun z => decide (z ∈ L)) N1
  rw [hfl] at pr3
  obtain ⟨N2, hN2⟩ : ∃ N2, N2 = N1.filter fun k => (wo k).all fun z => decide (z ∈ L) := ⟨_, rfl⟩
  rw [← hN2] at pr3
  have mN2 : ∀ c, c ∈ N2 ↔ MinNon n L c := fun c => by
    rw [hN2, List.mem_filter, mN1, List.all_eq_true]
    exact ⟨fun ⟨⟨u, v⟩, z⟩ => ⟨u, v, fun y hy => of_decide_eq_true (z y hy)⟩, fun ⟨u, v, z⟩ => ⟨⟨u, v⟩, fun y hy => decide_eq_true (z y hy)⟩⟩
  have lN2 : N2.length ≤ 64 := by
    have := List.length_filter_le (fun k => (wo k).all fun z => decide (z ∈ L)) N1
    rw [hN2]
    omega
  have s13 := s12.trans s3
  refine ⟨_, rfl, _, rfl, D2, rfl, ⟨zs, SqL.of hz⟩, fun D3 hD3 => ?_⟩
  refine lc_fromM (xs := zs) (ks := N2) RT RT (fun _ _ _ _ s r => r.go s) (fun k => prod n k) walk_list (fun H4 s4 => SqL.of (s4 _ _ hz)) pr3 hD3 (by omega) (fun k0 x H4 K4 hk0 s4 r4 hk4 => ?_) (fun H4 y4 s4 hy4 pr4 => ?_)
  · obtain ⟨b, rfl, hb⟩ := r4
    exact ⟨rfl, _, rfl, _, rfl, n, b, k0, rfl, s4 _ _ hb, by omega, fun H5 p5 s5 hp5 hi5 => hk4 _ _ s5 ⟨p5, rfl, hi5⟩⟩
  refine ⟨D3, N2.map (prod n), n, rfl, hn1, by omega, ⟨y4, hy4, pr4⟩, by rw [List.length_map]; omega, fun k hk => ?_, few_prods hn6 fun k hk => ?_, fun H5 x M s5 hx a1 a2 a3 a4 => ?_⟩
  · obtain ⟨c, _, rfl⟩ := List.mem_map.mp hk
    refine ⟨prod_len n c, fun z hz => ?_⟩
    rcases prod_01 hz with e | e <;> omega
  · obtain ⟨c, hc, rfl⟩ := List.mem_map.mp hk
    exact ⟨c, ((mN2 c).mp hc).1, rfl⟩
  · refine q H5 x M (s13.trans (s4.trans s5)) (fresh_of (s13.trans s4) hx) a1 a2 (fun m => ?_) a4
    rw [a3]
    exact least_min hF mN2 m
/-! ### lot_of -/
theorem sc_LoF : FnScope ["family"] ["family"] (defScope (top 71)) := ⟨rfl, rfl, rfl, by decide +kernel, rfl, by decide +kernel, by decide +kernel⟩
theorem ok_LoF (T : Tx K mg) (C : Tc K mg) : Ok P w K mg base "lot_of" 9 ["family"] (spLIn K) := by
  refine mkOk T.d_lot_of sc_LoF (fun _ _ _ _ _ _ us hl => match us, hl with | [_], _ => rfl) (fun vs H Q E h => by obtain ⟨l, n, L, Mx, rfl, _⟩ := h; rfl) (fun cdv A outer s H vs Q E f hr h => ?_)
  obtain ⟨y, n, L, Mx, rfl, hfam, hF, hn1, hn6, q⟩ := h
  exact ⟨_, pss_cons (ps_expr (pcall (ok_RF T C) (hr.mono (by decide)) (pa_cons (pv 0) pa_nil))) (pss_one (ps_ret (pcall (ok_LIn T C) hr (pa_cons (pv 0) pa_nil)))), _, rfl, y, n, L, Mx, rfl, hfam, _, rfl, y, n, L, Mx, rfl, hfam, hF, hn1, hn6, q⟩
end
end K41

/-! K41L1 -/
/-! The law's own helpers: the pot, the sets. -/
namespace K41
open PySem PySem.Spec PyProof.Rows L2
theorem op_pow8 {X : Cx} : OpR X (binaryOp .Pow) (rI (fun i j => i = 10 ^ 59 ∧ j = 8) fun i j => .int (i ^ j.toNat)) := opI fun i j _ _ _ _ _ hc q => by
  obtain ⟨rfl, rfl⟩ := hc
  exact pow_int (by decide) (by decide +kernel) q
theorem big8 : (0 : Int) < ((10 : Int) ^ Int.toNat 59) ^ Int.toNat 8 := by decide +kernel
/-- a pot -/
def Pot (H : Hp) (p : Addr) : Prop := ∃ x y z : Int, H p = some (.lst [.int x, .int y, .int z])
section
variable {P : Program} {w : World} {K : PySem.W.Frag} {mg : Str → Option Value} {base : Heap}
def spPot (K : PySem.W.Frag) : Sp := fun vs H Q _ => ∃ (a : Addr) (ns : List Int) (i : Nat), vs = [.ref a, .int i] ∧ SqL K H a (ns.map V.int) ∧ ∀ p x y z, H p = none → Q (.ref p) (upd H p (.lst [.int x, .int y, .int z]))
theorem sc_Pot : FnScope ["_law_script", "_law_at", "_law_cell", "_law_great", "_law_mixed"] ["_law_script", "_law_at"] (defScope (top 73)) := ⟨rfl, rfl, rfl, by decide +kernel, rfl, by decide +kernel, by decide +kernel⟩
theorem ok_Pot (T : Tx K mg) : Ok P w K mg base "_law_pot" 1 ["_law_script", "_law_at"] (spPot K) := by
  refine mkOk T.d_law_pot sc_Pot (fun _ _ _ _ _ _ us hl => match us, hl with | [_, _], _ => rfl) (fun vs H Q E h => by obtain ⟨a, ns, i, rfl, _⟩ := h; rfl) (fun cdv A outer s H vs Q E f hr h => ?_)
  obtain ⟨a, ns, i, rfl, hs, q⟩ := h
  refine ⟨_, pss_cons (ps_set (i := 2) sc_Pot.nd rfl (Or.inl rfl) (pe_ifExp (pt_cmpR op_lt (pv 1) (pe_callB (crLen K) (by rfl) T.f_len PySem.boot_len (pa_cons (pv 0) pa_nil)) (nomark _)) (pe_ix ix_list (pv 0) (pv 1) (fun _ _ => rfl)) (pe_op op_add (pe_op op_mul pe_int (pv 1)) pe_int)))
    (pss_cons (ps_set (i := 3) sc_Pot.nd rfl (Or.inl rfl) (pe_op op_mod (pe_callTy call_int1 (by rfl) T.f_int (by decide +kernel) (pa_cons (pe_callB call_abs (by rfl) T.f_abs (by decide +kernel) (pa_cons (pv 2) pa_nil)) pa_nil)) (pe_op op_pow8 (pe_op op_pow pe_int pe_int) pe_int)))
    (pss_cons (ps_set (i := 4) sc_Pot.nd rfl (Or.inl rfl) (pe_op op_add (pe_op op_add (pe_op op_add (pe_op op_mul (pe_op op_mod (pe_callTy call_int1 (by rfl) T.f_int (by decide +kernel) (pa_cons (pv 3) pa_nil)) pe_int) pe_int) (pe_op op_mul pe_int (pv 1)))
        (pe_op op_mul pe_int (pe_callTy call_int1 (by rfl) T.f_int (by decide +kernel) (pa_cons (pe_cmpR op_lt (pv 2) pe_int (nomark _)) pa_nil)))) pe_int))
    (pss_one (ps_ret (pe_lst (pa_cons (pe_callB (call_max2 rfl) (by rfl) T.f_max (by decide +kernel) (pa_cons pe_int (pa_cons (pe_op op_add (pe_op op_sub (pv 3) (pe_op op_pow pe_int pe_int)) pe_int) pa_nil))) (pa_cons (pe_op op_mod (pe_callTy call_int1 (by rfl) T.f_int (by decide +kernel) (pa_cons (pv 4) pa_nil)) pe_int) (pa_cons pe_int pa_nil)))))))), ?_⟩
  refine ⟨_, rfl, _, rfl, a, _, rfl, .inl hs, _, _, rfl, rfl, _, rfl, ?_⟩
  have hl : (ns.map V.int).length = ns.length := List.length_map _
  by_cases hi : (i : Int) < ((ns.map V.int).length : Int)
  · rw [decide_eq_true hi]
    obtain ⟨c, hc⟩ : ∃ c, ns[i]? = some c := ⟨_, List.getElem?_eq_getElem (by omega)⟩
    refine iteT ⟨_, rfl, _, rfl, a, _, _, _, rfl, rfl, hs, atI_nat (show (ns.map V.int)[i]? = some (V.int c) by rw [List.getElem?_map, hc]; rfl), ?_⟩
    refine ⟨_, rfl, _, rfl, .inl ⟨_, rfl, 10, 59, rfl, rfl, ⟨by decide, by decide, by decide⟩, _, _, rfl, rfl, ⟨rfl, rfl⟩, _, _, rfl, rfl, big8, ?_⟩⟩
    refine ⟨_, rfl, .inl ⟨_, rfl, _, _, rfl, rfl, (show (0 : Int) < 1152921504606846883 by decide), _, _, rfl, rfl, .inr ⟨by decide, by decide⟩, _, rfl, _, _, rfl, rfl, .inl ⟨by decide, by decide⟩, _, _, rfl, rfl, _, rfl, _, _, rfl, rfl, .inr ⟨_, rfl, _, _, rfl, rfl, .inl ⟨by decide, by decide⟩, _, _, rfl, rfl, _, _, rfl, rfl, ?_⟩⟩⟩
    refine ⟨_, rfl, 10, 16, rfl, rfl, ⟨by decide, by decide, by decide⟩, _, _, rfl, rfl, _, _, rfl, rfl, _, _, rfl, _, rfl, .inl ⟨_, rfl, _, _, rfl, rfl, (show (0 : Int) < 2305843009213693951 by decide), bigle (by show 3 ≤ _; decide), fun p hp => q p _ _ _ hp⟩⟩
  · rw [decide_eq_false hi]
    refine iteF ⟨_, rfl, 83, i, rfl, rfl, .inl ⟨by decide, by decide⟩, _, _, rfl, rfl, ?_⟩
    refine ⟨_, rfl, _, rfl, .inl ⟨_, rfl, 10, 59, rfl, rfl, ⟨by decide, by decide, by decide⟩, _, _, rfl, rfl, ⟨rfl, rfl⟩, _, _, rfl, rfl, big8, ?_⟩⟩
    refine ⟨_, rfl, .inl ⟨_, rfl, _, _, rfl, rfl, (show (0 : Int) < 1152921504606846883 by decide), _, _, rfl, rfl, .inr ⟨by decide, by decide⟩, _, rfl, _, _, rfl, rfl, .inl ⟨by decide, by decide⟩, _, _, rfl, rfl, _, rfl, _, _, rfl, rfl, .inr ⟨_, rfl, _, _, rfl, rfl, .inl ⟨by decide, by decide⟩, _, _, rfl, rfl, _, _, rfl, rfl, ?_⟩⟩⟩
    refine ⟨_, rfl, 10, 16, rfl, rfl, ⟨by decide, by decide, by decide⟩, _, _, rfl, rfl, _, _, rfl, rfl, _, _, rfl, _, rfl, .inl ⟨_, rfl, _, _, rfl, rfl, (show (0 : Int) < 2305843009213693951 by decide), bigle (by show 3 ≤ _; decide), fun p hp => q p _ _ _ hp⟩⟩
/-! ### a draw -/
def spDip : Sp := fun vs H Q _ => ∃ (p : Addr) (t x y z : Int), vs = [.ref p, .int t] ∧ H p = some (.lst [.int x, .int y, .int z]) ∧ 0 < t ∧ t ≤ 1000 ∧ ∀ r x' y' z' : Int, 0 ≤ r → r < t → Q (.int r) (upd H p (.lst [.int x', .int y', .int z']))
theorem sc_Dip : FnScope ["_law_pot_here", "_law_total", "_law_found", "_law_one", "_law_two"] ["_law_pot_here", "_law_total"] (defScope (top 74)) := ⟨rfl, rfl, rfl, by decide +kernel, rfl, by decide +kernel, by decide +kernel⟩
theorem ok_Dip (T : Tx K mg) : Ok P w K mg base "_law_dip" 1 ["_law_pot_here", "_law_total"] spDip := by
  refine mkOk T.d_law_dip sc_Dip (fun _ _ _ _ _ _ us hl => match us, hl with | [_, _], _ => rfl) (fun vs H Q E h => by obtain ⟨p, t, x, y, z, rfl, _⟩ := h; rfl) (fun cdv A outer s H vs Q E f hr h => ?_)
  obtain ⟨p, t, x, y, z, rfl, hp, ht0, ht, q⟩ := h
  refine ⟨_, pss_cons (ps_if (pt_cmpR op_gt (pe_ix ix_list (pv 0) pe_int (fun _ _ => rfl)) pe_int (nomark _))
      (pss_cons (ps_set (i := 2) sc_Dip.nd rfl (Or.inl rfl) (pe_op op_mod (pe_callTy call_int1 (by rfl) T.f_int (by decide +kernel) (pa_cons (pe_ix ix_list (pv 0) pe_int (fun _ _ => rfl)) pa_nil)) (pv 1)))
        (pss_cons (ps_asg (pe_op op_fdiv (pe_ix ix_list (pv 0) pe_int (fun _ _ => rfl)) (pv 1)) (pg_sub (pv 0) pe_int set_list)) (pss_one (ps_ret (pv 2))))) pss_nil)
    (pss_cons (ps_asg (pe_op op_add (pe_ix ix_list (pv 0) pe_int (fun _ _ => rfl)) pe_int) (pg_sub (pv 0) pe_int set_list))
    (pss_cons (ps_set (i := 3) sc_Dip.nd rfl (Or.inl rfl) (pe_op op_mod (pe_callTy call_int1 (by rfl) T.f_int (by decide +kernel) (pa_cons (pe_op op_add (pe_ix ix_list (pv 0) pe_int (fun _ _ => rfl)) (pe_op op_mul pe_int (pe_ix ix_list (pv 0) pe_int (fun _ _ => rfl)))) pa_nil)) pe_int))
    (pss_cons (ps_set (i := 4) sc_Dip.nd rfl (Or.inl rfl) (pe_op op_add (pe_op op_mul (pe_op op_mod (pe_callTy call_int1 (by rfl) T.f_int (by decide +kernel) (pa_cons (pe_op op_mul (pv 3) (pv 3)) pa_nil)) pe_int) (pv 3)) (pe_op op_mul pe_int (pe_ix ix_list (pv 0) pe_int (fun _ _ => rfl)))))
    (pss_one (ps_ret (pe_op op_mod (pe_callTy call_int1 (by rfl) T.f_int (by decide +kernel) (pa_cons (pe_op op_fdiv (pe_op op_mod (pe_callTy call_int1 (by rfl) T.f_int (by decide +kernel) (pa_cons (pv 4) pa_nil)) pe_int) pe_int) pa_nil)) (pv 1))))))), ?_⟩
  have m0 : (0 : Int) < 2305843009213693951 := by decide
  have m1 : (0 : Int) < 2305843009213693907 := by decide
  have m2 : (0 : Int) < 2305843009213693921 := by decide
  have cdt : CDiv (x) t := ⟨ht0, by omega⟩
  have g0 : ∀ a b c : V, atI [a, b, c] 0 = some a := fun a b c => atI_nat (j := 0) rfl
  have g1 : ∀ a b c : V, atI [a, b, c] 1 = some b := fun a b c => atI_nat (j := 1) rfl
  have g2 : ∀ a b c : V, atI [a, b, c] 2 = some c := fun a b c => atI_nat (j := 2) rfl
  refine ⟨_, rfl, p, _, 0, _, rfl, rfl, SqL.of hp, g0 _ _ _, _, _, rfl, rfl, _, rfl, ?_⟩
  by_cases hx : 0 < x
  · rw [decide_eq_true hx]
    refine iteT ?_
    refine ⟨_, rfl, p, _, 0, _, rfl, rfl, SqL.of hp, g0 _ _ _, .inl ⟨_, rfl, _, rfl, _, _, rfl, rfl, ht0, ?_⟩⟩
    refine ⟨_, rfl, p, _, 0, _, rfl, rfl, SqL.of hp, g0 _ _ _, _, rfl, _, _, rfl, rfl, cdt, _, rfl, p, _, _, 0, rfl, rfl, hp, rfl, ?_⟩
    exact ⟨_, rfl, q (x % t) (x / t) y z (Int.emod_nonneg _ (by omega)) (Int.emod_lt_of_pos _ ht0)⟩
  · rw [decide_eq_false hx]
    refine iteF ?_
    refine ⟨_, rfl, p, _, 2, _, rfl, rfl, SqL.of hp, g2 _ _ _, _, _, rfl, rfl, _, rfl, p, _, _, 2, rfl, rfl, hp, rfl, ?_⟩
    have hp2 : upd H p (.lst [V.int x, V.int y, V.int (z + 1)]) p = some (.lst [V.int x, V.int y, V.int (z + 1)]) := upd_same
    refine ⟨_, rfl, p, _, 1, _, rfl, rfl, SqL.of hp2, g1 _ _ _, _, rfl, p, _, 2, _, rfl, rfl, SqL.of hp2, g2 _ _ _, _, _, rfl, rfl, .inl ⟨by decide, by decide⟩, _, _, rfl, rfl, .inl ⟨_, rfl, _, _, rfl, rfl, m0, ?_⟩⟩
    have hb : -(2 ^ 64) < (y + 1000213 * (z + 1)) % 2305843009213693951 ∧ (y + 1000213 * (z + 1)) % 2305843009213693951 < 2 ^ 64 := by
      have ho0 : 0 ≤ (y + 1000213 * (z + 1)) % 2305843009213693951 := Int.emod_nonneg _ (by decide)
      have ho1 : (y + 1000213 * (z + 1)) % 2305843009213693951 < 2305843009213693951 := Int.emod_lt_of_pos _ m0
      have e : (2 : Int) ^ 64 = 18446744073709551616 := by decide
      rw [e]
      omega
    refine ⟨_, rfl, _, rfl, _, _, rfl, rfl, .inl hb, .inl ⟨_, rfl, _, _, rfl, rfl, m1, _, rfl, _, _, rfl, rfl, .inr hb, _, rfl, p, _, 2, _, rfl, rfl, SqL.of hp2, g2 _ _ _, _, _, rfl, rfl, .inl ⟨by decide, by decide⟩, _, _, rfl, rfl, ?_⟩⟩
    refine ⟨_, rfl, .inl ⟨_, rfl, _, _, rfl, rfl, m2, _, _, rfl, rfl, ⟨by decide, by decide⟩, .inl ⟨_, rfl, _, rfl, _, _, rfl, rfl, ht0, ?_⟩⟩⟩
    exact q _ _ _ _ (Int.emod_nonneg _ (by omega)) (Int.emod_lt_of_pos _ ht0)
end
end K41

/-! K41L2 -/
/-! The law's own helpers: pick, subsets, inside, divides, letters. -/
namespace K41
open PySem PySem.Spec PyProof.Rows L2
/-- all stands but the pot at p, which stays a pot -/
structure SP (p : Addr) (H H' : Hp) : Prop where
  but : ∀ b o, b ≠ p → H b = some o → H' b = some o
  pot : Pot H' p
theorem SP.trans {p : Addr} {H H1 H2 : Hp} (a : SP p H H1) (b : SP p H1 H2) : SP p H H2 := ⟨fun c o n e => b.but c o n (a.but c o n e), b.pot⟩
theorem sp_same {p : Addr} {H H' : Hp} (h : Pot H p) (s : Same H H') : SP p H H' := ⟨fun b o _ e => s b o e, by obtain ⟨x, y, z, e⟩ := h; exact ⟨x, y, z, s _ _ e⟩⟩
theorem sp_refl {p : Addr} {H : Hp} (h : Pot H p) : SP p H H := sp_same h (Same.refl H)
theorem sp_upd {p : Addr} {H : Hp} {x y z : Int} : SP p H (upd H p (.lst [.int x, .int y, .int z])) := ⟨fun b o n e => by rw [upd_ne n]; exact e, x, y, z, upd_same⟩
theorem SP.tups {p : Addr} {H H' : Hp} (s : SP p H H') (h : Pot H p) : TupS H H' := fun a xs e => by
  obtain ⟨x, y, z, e2⟩ := h
  exact s.but a _ (ne_of e e2 fun q => nomatch q) e
theorem ll_ne {p l : Addr} {H : Hp} {ks : List (List Int)} (hl : LL H l ks) (h : Pot H p) : l ≠ p := fun e => by
  obtain ⟨vs, e1, r⟩ := hl
  obtain ⟨x, y, z, e2⟩ := h
  rw [e, e2] at e1
  cases e1
  cases r with
  | cons r _ =>
    obtain ⟨b, e3, _⟩ := r
    cases e3
theorem SP.ll {p l : Addr} {H H' : Hp} {ks : List (List Int)} (s : SP p H H') (h : Pot H p) (hl : LL H l ks) : LL H' l ks := by
  have hn := ll_ne hl h
  obtain ⟨vs, e, r⟩ := hl
  exact ⟨vs, s.but _ _ hn e, rts_go (s.tups h) r⟩
theorem SP.none {p l : Addr} {H H' : Hp} (s : SP p H H') (h : Pot H p) (hl : H' l = none) : H l = none := by
  by_cases e : l = p
  · obtain ⟨x, y, z, e2⟩ := s.pot
    rw [e, e2] at hl
    cases hl
  · cases q : H l with
    | none => rfl
    | some o =>
      have := s.but l o e q
      rw [hl] at this
      cases this
section
variable {P : Program} {w : World} {K : PySem.W.Frag} {mg : Str → Option Value} {base : Heap}
/-! ### pick -/
def spPick : Sp := fun vs H Q _ => ∃ (p l : Addr) (ks : List (List Int)), vs = [.ref p, .ref l] ∧ Pot H p ∧ LL H l ks ∧ 0 < ks.length ∧ ks.length ≤ 1000 ∧ ∀ H' b k, SP p H H' → k ∈ ks → IT H' b k → Q (.ref b) H'
theorem sc_Pick : FnScope ["_law_pot_here", "_law_items"] ["_law_pot_here", "_law_items"] (defScope (top 75)) := ⟨rfl, rfl, rfl, by decide +kernel, rfl, by decide +kernel, by decide +kernel⟩
theorem ok_Pick (T : Tx K mg) : Ok P w K mg base "_law_pick" 2 ["_law_pot_here", "_law_items"] spPick := by
  refine mkOk T.d_law_pick sc_Pick (fun _ _ _ _ _ _ us hl => match us, hl with | [_, _], _ => rfl) (fun vs H Q E h => by obtain ⟨p, l, ks, rfl, _⟩ := h; rfl) (fun cdv A outer s H vs Q E f hr h => ?_)
  obtain ⟨p, l, ks, rfl, hp, hl, h0, h1, q⟩ := h
  refine ⟨_, pss_one (ps_ret (pe_ix ix_list (pv 1) (pcall (ok_Dip T) hr (pa_cons (pv 0) (pa_cons (pe_callB (crLen K) (by rfl) T.f_len PySem.boot_len (pa_cons (pv 1) pa_nil)) pa_nil))) (fun _ _ => rfl))), ?_⟩
  obtain ⟨vs, hvs, rv⟩ := id hl
  have hlen : ks.length = vs.length := Paired.length rv
  obtain ⟨x, y, z, hpe⟩ := id hp
  refine ⟨_, rfl, _, rfl, _, rfl, l, vs, rfl, .inl (SqL.of hvs), p, _, x, y, z, rfl, hpe, by omega, by omega, fun r x' y' z' r0 r1 => ?_⟩
  have s1 : SP p H (upd H p (.lst [V.int x', V.int y', V.int z'])) := sp_upd
  have hr2 : r = ((r.toNat : Nat) : Int) := by omega
  obtain ⟨x, hx⟩ : ∃ x, vs[r.toNat]? = some x := ⟨_, List.getElem?_eq_getElem (by omega)⟩
  obtain ⟨k, b, e0, rfl, hb⟩ := rts_at rv hx
  refine ⟨l, vs, r, _, rfl, rfl, SqL.of (s1.but _ _ (ll_ne hl hp) hvs), by rw [hr2]; exact atI_nat hx, q _ b k s1 (List.mem_of_getElem? e0) (s1.tups hp _ _ hb)⟩
/-! ### subsets -/
def spSubs : Sp := fun vs H Q _ => ∃ (n : Nat), vs = [.int n] ∧ n ≤ 6 ∧ ∀ H' p, Same H H' → H p = none → LL H' p (subs n) → Q (.ref p) H'
theorem sc_Subs : FnScope ["_law_size", "_law_found", "_law_corner", "_law_one"] ["_law_size"] (defScope (top 76)) := ⟨rfl, rfl, rfl, by decide +kernel, rfl, by decide +kernel, by decide +kernel⟩
theorem ok_Subs (T : Tx K mg) : Ok P w K mg base "_law_subsets" 1 ["_law_size"] spSubs := by
  refine mkOk T.d_law_subsets sc_Subs (fun _ _ _ _ _ _ us hl => match us, hl with | [_], _ => rfl) (fun vs H Q E h => by obtain ⟨n, rfl, _⟩ := h; rfl) (fun cdv A outer s H vs Q E f hr h => ?_)
  obtain ⟨n, rfl, hn, q⟩ := h
  refine ⟨_, pss_cons (ps_set (i := 1) sc_Subs.nd rfl (Or.inl rfl) (pe_lst (pa_cons (pe_tup pa_nil) pa_nil)))
    (pss_cons (ps_for PassesOwn.never rfl (pi_range1 rfl T.f_range (pa_cons (pv 0) pa_nil)) (pg_name (i := 2) sc_Subs.nd rfl (Or.inr rfl))
      (pss_one (ps_set (i := 1) sc_Subs.nd rfl (Or.inl rfl) (pe_op op_cat (pv 1) (pe_lc (own := [("_law_one", 3)]) (g := gName 3) (tt := tYes) rfl sc_Subs.nd (pi_lK K (pv 1))
        (blkOk_by (N := ["_law_size", "_law_found", "_law_corner", "_law_one"]) (sc := defScope (top 76)) (by decide +kernel)) (fun _ _ _ _ _ => pg_name (i := 3) sc_Subs.nd rfl (Or.inl rfl)) (fun _ _ _ _ _ => pts_nil)
        (fun _ _ _ _ _ => pe_op (op_cK K) (pv 3) (pe_tup (pa_cons (pv 2) pa_nil))))))))
    (pss_one (ps_ret (pv 1)))), ?_⟩
  refine ⟨bigle (by decide), fun p0 hp0 => ⟨bigle (by show 1 ≤ _; decide), fun p1 hp1 => ?_⟩⟩
  have e0 : RTs [[]] [V.ref p0] (upd (upd H p0 (.tup [])) p1 (.lst [V.ref p0])) := .cons ⟨p0, rfl, by
    show upd (upd H p0 _) p1 _ p0 = _
    rw [upd_ne (ne_of_none upd_same hp1), upd_same]
    rfl⟩ .nil
  have sm0 : Same H (upd (upd H p0 (.tup [])) p1 (.lst [V.ref p0])) := (same_new hp0).trans (same_new hp1)
  have hn1 : H p1 = none := fresh_of (same_new hp0) hp1
  refine ⟨_, rfl, n, rfl, by omega, by omega, ?_⟩
  rw [Int.toNat_natCast]
  refine for_it (n := n) walk_rng (fun i σ H1 => ∃ l c d, σ = [some (V.int n), some (V.ref l), c, d] ∧ Same H H1 ∧ LL H1 l (subs i) ∧ H l = none) ⟨p1, _, _, rfl, sm0, ⟨_, upd_same, e0⟩, hn1⟩ (fun _ _ _ _ _ => trivial) (fun i x σ H1 H2 hi hP y => ?_) (fun σ H1 hP => ?_)
  · obtain ⟨l, c, d, rfl, sm, ⟨vs, hl, rv⟩, _⟩ := hP
    obtain ⟨rfl, rfl⟩ := y
    have hlen := subs_few (n := i) (by omega)
    have hlv : (subs i).length = vs.length := Paired.length rv
    refine ⟨_, rfl, _, rfl, l, rfl, ⟨vs, SqL.of hl⟩, fun D hD => ?_⟩
    refine lc_fromM (xs := vs) (ks := subs i) RT RT (fun _ _ _ _ s r => r.go s) (fun k => k ++ [(i : Int)]) walk_list (fun H2 s => SqL.of (s _ _ hl)) rv hD (by omega) (fun k0 x H2 Kk hk0 sm2 r hk1 => ?_) (fun H2 ys sm2 hy pr => ?_)
    · obtain ⟨b, rfl, hb⟩ := r
      have hk6 := on_few (mem_subs.mp hk0)
      refine ⟨rfl, _, rfl, _, rfl, bigle (by show 1 ≤ _; decide), fun p hp => ?_⟩
      exact cat_it ((same_new hp) _ _ (sm2 _ _ hb)) (show IT (upd H2 p (.tup [V.int (i : Int)])) p [(i : Int)] from upd_same) (by show k0.length + 1 ≤ _; omega) fun v H3 s3 r3 => hk1 _ _ ((same_new hp).trans s3) r3
    · have hly : (subs i).length = ys.length := by
        have h := Paired.length pr
        rw [List.length_map] at h
        exact h
      refine ⟨l, D, vs, ys, rfl, rfl, sm2 _ _ hl, hy, bigle (by omega), fun p hp => ⟨p, _, _, rfl, (sm.trans sm2).trans (same_new hp), ⟨vs ++ ys, upd_same, ?_⟩, fresh_of (sm.trans sm2) hp⟩⟩
      exact rts_app (rts_go (tups_of (sm2.trans (same_new hp))) rv) (rts_go (tups_of (same_new hp)) pr)
  · obtain ⟨l, c, d, rfl, sm, hl, hn2⟩ := hP
    exact ⟨_, rfl, q H1 l sm hn2 hl⟩
/-! ### inside -/
def spInside : Sp := fun vs H Q _ => ∃ (a b : Addr) (k l : List Int), vs = [.ref a, .ref b] ∧ IT H a k ∧ IT H b l ∧ k.length ≤ 1000 ∧ ∀ H', Same H H' → Q (.bl (decide (∀ c ∈ k, c ∈ l))) H'
theorem sc_Inside : FnScope ["_law_one", "_law_other", "_law_corner"] ["_law_one", "_law_other"] (defScope (top 77)) := ⟨rfl, rfl, rfl, by decide +kernel, rfl, by decide +kernel, by decide +kernel⟩
theorem dp_ints {H : Hp} {l : Addr} {k : List Int} (h : H l = some (.lst (k.map V.int))) : Dp K H (.ref l) (.list (k.map .int)) := .lst (SqL.of h) (dpa_ints k)
theorem sh_ints (k : List Int) : SeqAt.shaped (.list (k.map .int)) = true := by
  obtain ⟨h1, h2⟩ := lay_ints k
  unfold SeqAt.shaped
  rw [PyData.canLay0, h1, PyData.depth, h2]
  rfl
theorem eq_none {H : Hp} {l p : Addr} {k : List Int} {Q : VK} (h : H l = some (.lst (k.map V.int))) (h' : H p = some (.lst [])) (q : Q (.bl (decide (k = []))) H) : rEqD K (.ref l) (.ref p) H Q :=
  ⟨_, _, dp_ints h, dp_ints (k := []) h', sh_ints k, sh_ints [], by rw [PyData.eqv, eqv_ints]; exact q⟩
theorem ok_Inside (T : Tx K mg) : Ok P w K mg base "_law_inside" 1 ["_law_one", "_law_other"] spInside := by
  refine mkOk T.d_law_inside sc_Inside (fun _ _ _ _ _ _ us hl => match us, hl with | [_, _], _ => rfl) (fun vs H Q E h => by obtain ⟨a, b, k, l, rfl, _⟩ := h; rfl) (fun cdv A outer s H vs Q E f hr h => ?_)
  obtain ⟨a, b, k, l, rfl, ha, hb, hz, q⟩ := h
  refine ⟨_, pss_one (ps_ret (pe_cmpR (op_eqK K hr.units) (pe_lc (own := [("_law_corner", 2)]) (g := gName 2) rfl sc_Inside.nd (pi_tK K (pv 0)) (blkOk_by (N := ["_law_one", "_law_other", "_law_corner"]) (sc := defScope (top 77)) (by decide +kernel))
    (fun _ _ _ _ _ => pg_name (i := 2) sc_Inside.nd rfl (Or.inl rfl)) (fun _ _ _ _ _ => pts_one (pt_cmpR (op_niS K) (pv 2) (pv 1) rfl)) (fun _ _ _ _ _ => pv 2)) (pe_lst pa_nil) (nomark _))), ?_⟩
  refine ⟨_, rfl, a, rfl, ⟨_, SqT.of ha⟩, fun D hD => ?_⟩
  refine lc_from (xs := k.map V.int) (ks := k) RI RI (fun _ _ _ _ _ r => r) (fun c => if c ∈ l then none else some c) walk_tup (fun H1 s1 => SqT.of (s1 _ _ ha)) (ri_pair H k) hD (by omega) (fun c x H1 Kk N hc s1 r h1 h2 => ?_) (fun H1 ys s1 hy pr => ?_)
  · obtain rfl : x = .int c := r
    refine ⟨rfl, _, rfl, _, rfl, b, _, rfl, .inr (SqT.of (s1 _ _ hb)), rfl, flat_ints l, _, rfl, ?_⟩
    rw [in_ints]
    by_cases hm : c ∈ l
    · rw [decide_eq_true hm]
      exact iteF (h2 _ (if_pos hm) (Same.refl _))
    · rw [decide_eq_false hm]
      exact iteT ⟨_, rfl, h1 c _ _ (if_neg hm) (Same.refl _) rfl⟩
  · have e := ri_list pr
    subst e
    refine ⟨bigle (by decide), fun p hp => eq_none ((same_new hp) _ _ hy) upd_same ?_⟩
    have e2 : decide ((k.filterMap fun c => if c ∈ l then none else some c) = []) = decide (∀ c ∈ k, c ∈ l) := by
      refine decide_eq_decide.mpr ⟨fun h c hc => ?_, fun h => ?_⟩
      · by_cases hm : c ∈ l
        · exact hm
        · have : c ∈ k.filterMap fun c => if c ∈ l then none else some c := List.mem_filterMap.mpr ⟨c, hc, if_neg hm⟩
          rw [h] at this
          cases this
      · refine List.eq_nil_iff_forall_not_mem.mpr fun c hc => ?_
        obtain ⟨d, hd, e⟩ := List.mem_filterMap.mp hc
        rw [if_pos (h d hd)] at e
        cases e
    rw [e2]
    exact q _ (s1.trans (same_new hp))
end
end K41

/-! K41S4 -/
/-! sorted of pairs (an int, a tuple of ints). -/
namespace K41
open PySem PySem.Spec PyProof.Rows L2
theorem reads_ints {h : Heap} : ∀ {vs : List Value} {k : List Int}, IntsAre vs k → ∃ as, ReadsAll h vs (k.map .int) as
  | _, _, .nil => ⟨_, .nil⟩
  | _, _, .cons n t r => by
    obtain ⟨as, q⟩ := reads_ints r
    exact ⟨_, .cons (.int n t) q⟩
theorem reads_tup {h : Heap} {v : Value} {k : List Int} (x : TupI h v k) : ∃ as, Reads h v (pT k) as := by
  obtain ⟨a, its, rfl, ⟨o, ho, hc, n, hd⟩, i⟩ := x
  obtain ⟨as, q⟩ := reads_ints (h := h) i
  exact ⟨_, .tuple ho hc hd q⟩
/-- v is a pair: an int, a tuple of ints; k both in one row -/
def TupP (h : Heap) (v : Value) (k : List Int) : Prop := ∃ (a : Addr) (o : Obj) (n : Int) (t : Tok) (u : Value) (l : List Int) (e : Nat), v = .ref a ∧ h.get? a = some o ∧ o.cls = .type "tuple" ∧ o.data = .seq #[.int n t, u] e ∧ TupI h u l ∧ k = n :: l
section
variable {prog : Program} {w : World} {A : Around} {E : Value → Shared → Prop} {s : Shared}
theorem eqb_tups {x y : Value} {k l : List Int} {Q : Bool → Shared → Prop} (hu : A.units + 64 < cLine) (hx : TupI s.heap x k) (hy : TupI s.heap y l) (h : Q (decide (k = l)) s) : wpAny (model prog w) A (eqBool x y) Q E s := by
  obtain ⟨as, rx⟩ := reads_tup hx
  obtain ⟨bs, ry⟩ := reads_tup hy
  obtain ⟨a, its, rfl, t, i⟩ := hx
  obtain ⟨b, its', rfl, t', i'⟩ := hy
  by_cases e : a = b
  · subst e
    refine SeqAt.EqAt.same (A := A) (s := s) (.ref a) prog w E _ ?_
    have ek : k = l := by
      obtain ⟨o, ho, _, n, hd⟩ := t
      obtain ⟨o', ho', _, n', hd'⟩ := t'
      rw [ho] at ho'
      cases ho'
      rw [hd] at hd'
      cases hd'
      rw [← SrtO.iv_ints i, ← SrtO.iv_ints i']
    rw [decide_eq_true ek] at h
    exact h
  · refine GQ.eqBool_refG e ?_
    refine (SeqAt.compareEq_shaped rx ry (sh_T k) (sh_T l) hu ?_ : wpAny (model prog w) A (compareOp .Eq (.ref a) (.ref b)) _ E s)
    rw [eqv_T]
    exact ⟨_, rfl, h⟩
theorem lt_pairs {x y : Value} {k l : List Int} {Q : Bool → Shared → Prop} (hu : A.units + 64 < cLine) (hx : TupP s.heap x k) (hy : TupP s.heap y l) (h : Q (HT.lexLt k l) s) : wpAny (model prog w) A (keyLt' (tuples' true) x y) Q E s := by
  obtain ⟨a, o, n, t, u, k', e, rfl, ho, _, hd, hi, rfl⟩ := hx
  obtain ⟨a', o', n', t', u', l', e', rfl, ho', _, hd', hi', rfl⟩ := hy
  refine PySem.W.kat_lt ho hd ho' hd' ?_
  show PySem.W.KatLex prog w A true (decide (2 < 2)) Q [(.int n t, .int n' t'), (u, u')] 0 s
  rw [HT.lexLt_cons] at h
  refine PySem.W.kat_cons (SeqAt.EqAt.int_int n t n' t' prog w _ _ ?_)
  refine PySem.W.kat_go (fun e1 => ?_) (fun e1 => ?_)
  · have e2 : n = n' := by simpa using e1
    rw [if_pos e2] at h
    refine PySem.W.kat_yes (PySem.W.kat_cons (eqb_tups hu hi hi' ?_))
    refine PySem.W.kat_go (fun e3 => ?_) (fun e3 => ?_)
    · have e4 : k' = l' := of_decide_eq_true e3
      subst e4
      refine PySem.W.kat_yes (PySem.W.kat_nil ?_)
      have e5 : HT.lexLt k' k' = decide (2 < 2) := (lex_swo id).refl k'
      rw [← e5]
      exact h
    · obtain ⟨b, its, rfl, tb, ib⟩ := hi
      obtain ⟨b', its', rfl, tb', ib'⟩ := hi'
      exact PySem.W.kat_no (PySem.W.kat_one _ _ (HT.lt_tupInts tb tb' ib ib' (by omega) h))
  · have e2 : ¬ n = n' := by simpa using e1
    rw [if_neg e2] at h
    exact PySem.W.kat_no (oneLt_int h)
theorem firstsP {k : Value → List Int} : ∀ {vs : List Value}, (∀ v ∈ vs, TupP s.heap v (k v)) → ∃ fs, PySem.W.KatTups s.heap vs fs ∧ fs.length = vs.length ∧ ∀ f ∈ fs, ∃ n t, f = Value.int n t
  | [], _ => ⟨[], PySem.W.KatTups.nil, rfl, fun _ h => nomatch h⟩
  | v :: vs, h => by
    obtain ⟨fs, h1, h2, h3⟩ := firstsP (vs := vs) fun u hu => h u (List.mem_cons_of_mem _ hu)
    obtain ⟨a, o, n, t, u, l, e, ev, ho, hc, hd, _, _⟩ := h v List.mem_cons_self
    subst ev
    refine ⟨.int n t :: fs, PySem.W.KatTups.cons ho hc hd rfl h1, by rw [List.length_cons, List.length_cons, h2], fun f hf => ?_⟩
    rcases List.mem_cons.mp hf with rfl | hf
    · exact ⟨n, t, rfl⟩
    · exact h3 f hf
theorem TupP.keep {h h' : Heap} {v : Value} {k : List Int} (x : TupP h v k) (kp : ∀ b o, h.get? b = some o → o.cls = .type "tuple" → h'.get? b = some o) : TupP h' v k := by
  obtain ⟨a, o, n, t, u, l, e, ev, ho, hc, hd, hi, ek⟩ := x
  exact ⟨a, o, n, t, u, l, e, ev, kp a o ho hc, hc, hd, hi.keep kp, ek⟩
theorem pairs_sortable {a : Addr} {vs : List Value} {k : Value → List Int} (hu : A.units + 64 < cLine) (h2 : 2 ≤ vs.length) (hp : ∀ v ∈ vs, TupP s.heap v (k v)) (ha : ∀ o, s.heap.get? a = some o → o.cls ≠ .type "tuple") :
    SrtO.SortableO prog w A s a vs fun v u => HT.lexLt (k v) (k u) := by
  intro h' keep
  have hp' : ∀ v ∈ vs, TupP h' v (k v) := fun v hm => (hp v hm).keep fun b o e c => keep b o (fun z => by subst z; exact ha o e c) e
  obtain ⟨fs, g1, g2, g3⟩ := firstsP (s := { s with heap := h' }) hp'
  refine ⟨tuples' true, fun Q E hq => ?_, fun p q hm hm' => ?_⟩
  · refine PySem.W.kat_kind (T := .type "int") g1 (by omega) (fun f hf => ?_) (by decide) ?_
    · obtain ⟨n, t, rfl⟩ := g3 f hf
      exact PySem.W.Looks.now
    · have e : (Value.type "int" != Value.type "tuple") = true := by decide
      rw [e]
      exact hq
  · show wpAny (model prog w) A (keyLt' (tuples' true) p.1 q.1) (fun r s' => s' = _ ∧ r = HT.lexLt (k p.1) (k q.1)) (fun _ _ => False) _
    exact lt_pairs hu (hp' _ hm) (hp' _ hm') ⟨rfl, rfl⟩
end
/-- a pair of the layer -/
def RP (q : Int × List Int) (v : V) (H : Hp) : Prop := ∃ t b, v = .ref t ∧ H t = some (.tup [.int q.1, .ref b]) ∧ IT H b q.2
def contP (H : Hp) : Value → List Int
  | .ref t => match H t with
    | some (.tup [.int n, .ref b]) => n :: cont H (.ref b)
    | _ => []
  | _ => []
theorem contP_of {H : Hp} {q : Int × List Int} {t b : Addr} (h1 : H t = some (.tup [.int q.1, .ref b])) (h2 : IT H b q.2) : contP H (.ref t) = q.1 :: q.2 := by
  show (match H t with | some (.tup [.int n, .ref b]) => n :: cont H (.ref b) | _ => []) = _
  rw [h1]
  show q.1 :: cont H (.ref b) = _
  rw [cont_of ⟨b, rfl, h2⟩]
section
variable {X : Cx}
/-- sorted(xs), xs a list of such pairs: the same pairs -/
def rSrtP : List V → Hp → VK → Prop := fun vs H Q => ∃ (a : Addr) (xs : List V) (qs : List (Int × List Int)), vs = [V.ref a] ∧ H a = some (.lst xs) ∧ Paired (fun q v => RP q v H) qs xs ∧ qs.length ≤ 1000 ∧
  ∀ (qs' : List (Int × List Int)) (ys : List V) (p : Addr), qs'.Perm qs → Paired (fun q v => RP q v H) qs' ys → H p = none → Q (.ref p) (upd H p (.lst ys))
theorem crSortP (hu : X.A.units + 128 < cLine) : CallR X (.builtin "sorted") rSrtP := by
  intro pins s σ H vs us Q I r h
  obtain ⟨a, xs, qs, rfl, ha, hq, hz, q⟩ := h
  obtain rfl := Vals.ref1 r
  obtain ⟨hzz, its, n, rv, hob⟩ := I.hok a _ ha
  obtain ⟨e1, e2⟩ := refs_back rv fun x m => by
    obtain ⟨_, _, t, b, e, _⟩ := pr_mem hq m
    exact ⟨t, e⟩
  have hl : qs.length = xs.length := Paired.length hq
  have hp : ∀ v ∈ its, TupP s.heap v (contP H v) := fun v hv => by
    obtain ⟨t, rfl⟩ := e2 v hv
    have hm : V.ref t ∈ xs := by rw [e1]; exact List.mem_map.mpr ⟨_, hv, rfl⟩
    obtain ⟨q0, _, t', b, e, h1, h2⟩ := pr_mem hq hm
    cases e
    obtain ⟨_, its2, r2, o, ho, hc, n2, hd⟩ := I.hok _ _ h1
    obtain ⟨u1, u2, rfl, ri, rb⟩ := vals2 r2
    obtain ⟨t1, rfl⟩ := ri
    cases rb
    exact ⟨t, o, q0.1, t1, _, q0.2, n2, rfl, ho, hc, hd, tupI_of I ⟨b, rfl, h2⟩, contP_of h1 h2⟩
  refine SrtO.sorted_ord (lex_swo (contP H)) (⟨_, hob, rfl, n, rfl⟩ : s.heap.IsList a its.toArray) (by rw [← rv.length]; exact hzz) (fun h2 h₁ a' he kk => ?_) fun out h1 h2 => ?_
  · refine pairs_sortable (s := { s with heap := h₁ }) (by show X.A.units + 1 + 1 + 64 < cLine; omega) h2 (fun v hv => (hp v hv).keep fun b o e _ => (kk b o e).2) fun o e => ?_
    have e' : some o = some (seqObj "list" its.toArray 0) := e.symm.trans he
    cases e'
    exact fun z => absurd (Value.type.inj z) (by decide)
  · have h3 : ∀ u ∈ out, ∃ a, u = Value.ref a := fun u hu => e2 u (h2.perm.mem_iff.mp hu)
    obtain ⟨c, hat⟩ := sortedAll_at s.heap its out.toArray
    have hpm : (out.map backV).Perm xs := by
      rw [e1]
      exact h2.perm.map backV
    obtain ⟨qs', pm, pq⟩ := pr_perm hpm hq
    refine ⟨.ref (s.heap.objs.size + 1), upd H (s.heap.objs.size + 1) (.lst (out.map backV)), I.laid (t' := s.toks) (fun _ _ => sortedAll_old) (Nat.le_succ _) ⟨?_, out, c, vals_back h3, hat⟩, rfl, q qs' _ _ pm pq (I.hok.fresh (Nat.le_succ _))⟩
    rw [hpm.length_eq]
    exact hzz
end
end K41

/-! K41T -/
/-! A set of up to 64 tuples of ints, gathered from a list, then sorted. -/
namespace K41
open PySem PySem.Spec PyProof.Rows L2
section
variable {P : Program} {w : World} {A : Around} {E : Value → Shared → Prop} {s : Shared} {a : Addr} {L : List (Addr × List Int)}
/-- the set at a, as far as a walk over it asks -/
def SW (P : Program) (w : World) (h : Heap) (a : Addr) (L : List (Addr × List Int)) : Prop :=
  ∃ es ep t, (∃ o, h.get? a = some o ∧ o.ExactSet ∧ o.data = .set es ep t) ∧ es.toList = rowsOf P w L ∧ t.fits es.size = true ∧ Ris t.place.toList ∧ (w.params.followText "set-order" = true ∨ t.led = true) ∧ (L.map (·.2)).Nodup ∧ L.length ≤ 64
theorem sw_of {h : Heap} {es : Array (Int × Value)} {ep : Nat} {t : SetTable} (R : SetTR P w h a L es ep t) : SW P w h a L := ⟨es, ep, t, R.ob, R.rows, SetTR.fits (s := { heap := h }) R, R.tab.ris, R.led, R.nd, Nat.le_of_lt R.few⟩
theorem SW.keep {h h' : Heap} (R : SW P w h a L) (k : ∀ o, h.get? a = some o → h'.get? a = some o) : SW P w h' a L := by
  obtain ⟨es, ep, t, ⟨o, ho, r⟩, q⟩ := R
  exact ⟨es, ep, t, ⟨o, k o ho, r⟩, q⟩
/-- the 64th -/
theorem add64 {es : Array (Int × Value)} {ep : Nat} {t : SetTable} (R : SetTR P w s.heap a L es ep t) {x : Addr} {k : List Int} (hx : IsT P w s.heap k x) (hu : A.units < cLine) (h63 : L.length = 63) {Q : Bool → Shared → Prop}
    (hQ : ∀ b h' L', Heap.SameBut a s.heap h' → SW P w h' a L' → (k ∈ L.map (·.2) → L' = L) → (k ∉ L.map (·.2) → L'.Perm ((x, k) :: L)) → Q b { s with heap := h' }) : wpAny (model P w) A (setAddHashed a (.ref x) (thash P w k)) Q E s := by
  obtain ⟨o, ho, hex, hd⟩ := R.ob
  have hroom := R.room
  unfold setAddHashed
  refine wpAny_holding ?_
  rw [show (100000 : Nat) = 99999 + 1 from rfl, setAddHashedIn_succ]
  refine wpAny_bind (wpAny_setState_of ho hd R.fits ?_)
  dsimp only
  refine wp_if_neg (by simp [byScan, Value.scannable]) ?_
  try refine wpAny_bind (wpAny_pure ?_)
  refine wpAny_bind (search_at R hx hu (fun hm => ?_) fun K hm hK hb => ?_)
  · exact wpAny_pure (hQ false s.heap L (Heap.SameBut.refl a s.heap) (sw_of R) (fun _ => rfl) fun z => absurd hm z)
  dsimp only
  refine wpAny_bind (wpAny_setState_of ho hd R.fits ?_)
  dsimp only
  obtain ⟨q1, q2, q3, q4, q5, q6, _, _, q9⟩ := R.tab.put hK hb
  obtain ⟨j, ej⟩ : ∃ j, j = way t.mask (thash P w k) K := ⟨_, rfl⟩
  rw [← ej] at q1 q2 q3 q4 q5 q6 q9 ⊢
  have hp1 : (t.put j).1.plain = true := q6.trans R.plain
  obtain ⟨⟨t1, p⟩, ept⟩ : ∃ z, z = t.put j := ⟨_, rfl⟩
  rw [← ept] at q1 q3 q4 q5 q9 hp1 ⊢
  dsimp only at q1 q3 q4 q5 q9 hp1 ⊢
  subst q1
  first
    | (refine wpAny_bind ?_; refine wp_if_pos hp1 ?_; refine hashBy_tup hx ?_)
    | refine wp_if_pos hp1 (wpAny_bind (hashBy_tup hx ?_))
  simp only [if_true]
  have hin : (SetTable.insertAt es (SetTable.below t.place j) (thash P w k, Value.ref x)).toList = rowsOf P w (L.take (SetTable.below t.place j) ++ (x, k) :: L.drop (SetTable.below t.place j)) := by
    rw [SetTable.toList_insertAt, rows_put, R.rows]
  have pm := put_perm L (SetTable.below t.place j) (x, k)
  obtain ⟨L1, eL⟩ : ∃ L1, L1 = L.take (SetTable.below t.place j) ++ (x, k) :: L.drop (SetTable.below t.place j) := ⟨_, rfl⟩
  rw [← eL] at hin pm
  have hlen : L1.length = L.length + 1 := pm.length_eq
  have nd1 : (L1.map (·.2)).Nodup := (pm.map (·.2)).nodup_iff.mpr (List.nodup_cons.mpr ⟨hm, R.nd⟩)
  obtain ⟨es1, ees⟩ : ∃ es1, es1 = SetTable.insertAt es (SetTable.below t.place j) (thash P w k, Value.ref x) := ⟨_, rfl⟩
  rw [← ees] at hin ⊢
  have hes : es1.size = L.length + 1 := by
    have h := congrArg List.length hin
    unfold rowsOf at h
    rw [Array.length_toList, List.length_map, hlen] at h
    exact h
  refine wpAny_bind (wpAny_storeSet_of ho hd ?_ (by rw [hes, sizeLine_eq]; omega))
  have sb : Heap.SameBut a s.heap (s.heap.update a (Obj.putSet es1 t1)) := Heap.SameBut.update ..
  have ho1 := store_at (es' := es1) (t' := t1) ho hd
  have hmask : t.mask = 127 := by rcases R.tab.mok with e | e | e <;> omega
  have hf : ¬ t1.tooFull = true := by
    unfold SetTable.tooFull
    rw [decide_eq_true_eq, q9, q4, List.length_map]
    omega
  first
    | refine wp_if_neg (by simp [hf]) ?_
    | (refine wpAny_bind ?_; refine wp_if_neg (by simp [hf]) ?_; refine wpAny_pure ?_)
  refine wpAny_pure (hQ true _ L1 sb ⟨es1, ep + 1, t1, ⟨_, ho1, ⟨hex.1, hex.2.1, hex.2.2⟩, rfl⟩, hin, ?_, q3.ris, ?_, nd1, by omega⟩ (fun z => absurd z hm) fun _ => pm)
  · have hz := q3.sz
    rw [List.length_append, List.length_cons, List.length_take, List.length_drop, List.length_map] at hz
    unfold SetTable.fits SetTable.fill
    rw [q3.dm, Bool.and_eq_true, beq_iff_eq, decide_eq_true_eq]
    show t1.place.size = es1.size ∧ t1.place.size + 0 ≤ t1.mask
    rw [List.length_map] at q2
    omega
  · rw [q5]
    exact R.led
/-- where the loop stands after i items -/
def St64 (P : Program) (w : World) (h : Heap) (S : Addr) (ks : List (Addr × List Int)) (i : Nat) : Prop := (∃ L es ep t, SetTR P w h S L es ep t ∧ Got ks i L) ∨ (i = 64 ∧ ∃ L, SW P w h S L ∧ Got ks i L)
theorem St64.done {h : Heap} {S : Addr} {ks : List (Addr × List Int)} {i : Nat} (x : St64 P w h S ks i) : ∃ L, SW P w h S L ∧ Got ks i L := by
  rcases x with ⟨L, es, ep, t, R, g⟩ | ⟨_, r⟩
  · exact ⟨L, sw_of R, g⟩
  · exact r
theorem St64.keep {h h0 h' : Heap} {S : Addr} {ks : List (Addr × List Int)} {i : Nat} (x : St64 P w h S ks i) (hk : ∀ p ∈ ks, IsT P w h0 p.2 p.1) (k : ∀ o, h.get? S = some o → h'.get? S = some o) (k0 : ∀ b o, h0.get? b = some o → h'.get? b = some o) : St64 P w h' S ks i := by
  rcases x with ⟨L, es, ep, t, R, g⟩ | ⟨e, L, R, g⟩
  · exact .inl ⟨L, es, ep, t, R.keep k fun p hp => isT_keep (hk p (List.mem_of_mem_take (g.sub p hp))) k0, g⟩
  · exact .inr ⟨e, L, R.keep k, g⟩
theorem set_loop {I : Addr} {fp wr : List Addr} {G : Array GenState → Array GenState → Prop} {n : Nat} {Pv : Nat → Value → Prop} {St : Nat → Shared → Prop} {R : Result → Shared → Prop} (W : WalksS P w A.in1 I fp wr G n Pv St) (S : Addr) (hSf : S ∉ fp) (ks : List (Addr × List Int)) (hn : n = ks.length) (h64 : ks.length ≤ 64)
    (hval : ∀ i v, Pv i v → ∃ p, ks[i]? = some p ∧ v = .ref p.1) (h0 : Heap) (hk : ∀ p ∈ ks, IsT P w h0 p.2 p.1) (hS0 : h0.get? S = none) (hw0 : ∀ b ∈ wr, h0.get? b = none) (hu : A.in1.units < cLine) :
    ∀ (k i : Nat) (s : Shared), n - i = k → i ≤ n → St i s → (∀ b o, h0.get? b = some o → s.heap.get? b = some o) → St64 P w s.heap S ks i →
      (∀ s' L, Moved (S :: wr) G s s' → SW P w s'.heap S L → Got ks n L → (∀ b o, h0.get? b = some o → s'.heap.get? b = some o) → R (.ok (.ret .none)) s') →
      codeAny (model P w) A (.builtin "set.update.loop" ⟨[.ref S, .ref I], []⟩) R s := by
  have hSw : S ∉ wr := fun h => hSf (W.sub _ h)
  have hsub : ∀ b ∈ wr, b ∈ S :: wr := fun b hb => List.mem_cons_of_mem _ hb
  have keepM : ∀ {s s' : Shared}, Moved wr G s s' → (∀ b o, h0.get? b = some o → s.heap.get? b = some o) → ∀ b o, h0.get? b = some o → s'.heap.get? b = some o := fun hm hkp b o e =>
    hm.heap b o (fun hb => by rw [hw0 b hb] at e; cases e) (hkp b o e)
  intro k
  induction k with
  | zero =>
    intro i s hk' hi hst hkp x hR
    obtain rfl : i = n := by omega
    refine codeAny_builtin F.entry_set_update_loop ?_
    rw [Around.under_plainId F.plain_set_update_loop _]
    show wpAny _ A.in1 (pyNext (.ref I) >>= _) _ _ s
    refine wpAny_bind (W.done s _ _ hst fun s' hm => ?_)
    show wpAny _ A.in1 (ret Value.none) _ _ s'
    have hkp' := keepM hm hkp
    obtain ⟨L, R1, g⟩ := (x.keep hk (fun o e => hm.heap S o hSw e) hkp').done
    exact wpAny_pure (hR s' L (hm.mono hsub) R1 g hkp')
  | succ k ih =>
    intro i s hk' hi hst hkp x hR
    have hlt : i < n := by omega
    refine codeAny_builtin F.entry_set_update_loop ?_
    rw [Around.under_plainId F.plain_set_update_loop _]
    show wpAny _ A.in1 (pyNext (.ref I) >>= _) _ _ s
    refine wpAny_bind (W.item i s _ _ hlt hst fun v s' hP hst' hm => ?_)
    obtain ⟨p, hp, rfl⟩ := hval i v hP
    have hkp' := keepM hm hkp
    have x' := x.keep hk (fun o e => hm.heap S o hSw e) hkp'
    obtain ⟨L, es, ep, t, hS', g⟩ : ∃ L es ep t, SetTR P w s'.heap S L es ep t ∧ Got ks i L := by
      rcases x' with x' | ⟨e, _⟩
      · exact x'
      · omega
    have hx : IsT P w s'.heap p.2 p.1 := isT_keep (hk p (List.mem_of_getElem? hp)) hkp'
    show wpAny _ A.in1 (holding [Value.ref p.1] (setAdd S (.ref p.1)) >>= _) _ _ s'
    refine wpAny_bind (wpAny_holding ?_)
    unfold setAdd
    refine wpAny_holding ?_
    refine wpAny_bind (wpAny_pyHash_tuple hu hx ?_)
    have got : ∀ L', (p.2 ∈ L.map (·.2) → L' = L) → (p.2 ∉ L.map (·.2) → L'.Perm ((p.1, p.2) :: L)) → Got ks (i + 1) L' := fun L' c1 c2 => by
      by_cases c : p.2 ∈ L.map (·.2)
      · rw [c1 c]
        exact g.same hp c
      · exact g.more hp (c2 c)
    have next : ∀ h', Heap.SameBut S s'.heap h' → St64 P w h' S ks (i + 1) → codeAny (model P w) A (.builtin "set.update.loop" ⟨[.ref S, .ref I], []⟩) R { s' with heap := h', toks := s'.toks + (p.2.length + 1) } := fun h' hsb x2 => by
      have hkp2 : ∀ b o, h0.get? b = some o → h'.get? b = some o := fun b o e => (hsb.2 b (fun z => by rw [z, hS0] at e; cases e)).trans (hkp' b o e)
      refine ih (i + 1) _ (by omega) hlt (W.frame _ s' _ _ hst' (Nat.le_add_right _ _) fun b hb o e => ?_) hkp2 x2 fun s'' L2 hm'' hS'' g'' hkp'' => ?_
      · rw [hsb.2 b (fun h : b = S => hSf (by rw [← h]; exact hb))]; exact e
      · refine hR s'' L2 (Moved.trans W.gtrans ((hm.mono hsub).then_heap (Nat.le_add_right _ _) fun b o hb e => ?_) hm'') hS'' g'' hkp''
        rw [hsb.2 b (fun h : b = S => hb (by rw [h]; exact List.mem_cons_self))]; exact e
    have hL := g.len
    by_cases c63 : L.length + 1 < 64
    · refine add_at (s := { s' with toks := s'.toks + (p.2.length + 1) }) hS' hx hu c63 fun b h' L' es' ep' t' hsb hS2 c1 c2 => ?_
      exact wpAny_pure ⟨plainId_quiet F.plain_set_update_loop _, next h' hsb (.inl ⟨L', es', ep', t', hS2, got L' c1 c2⟩)⟩
    · refine add64 (s := { s' with toks := s'.toks + (p.2.length + 1) }) hS' hx hu (by omega) fun b h' L' hsb hS2 c1 c2 => ?_
      exact wpAny_pure ⟨plainId_quiet F.plain_set_update_loop _, next h' hsb (.inr ⟨by omega, L', hS2, got L' c1 c2⟩)⟩

/-- a new set -/
def noSet (w : World) : Obj := { cls := .type "set", dict := none, data := .set #[] 0 (.fresh 0 0 (!w.params.followText "set-order")) }
theorem set_call {l : Addr} {items : Array Value} (ks : List (Addr × List Int)) {Q : Value → Shared → Prop} (hh : A.handled = none) (hl : s.heap.IsList l items) (hit : items.toList = ks.map fun p => Value.ref p.1) (hk : ∀ p ∈ ks, IsT P w s.heap p.2 p.1) (h64 : ks.length ≤ 64) (hu : A.units + 3 < cLine)
    (h : ∀ (h' : Heap) (tk : Nat) L, SW P w h' s.heap.objs.size L → Got ks ks.length L → (∀ b o, s.heap.get? b = some o → h'.get? b = some o) → Q (.ref s.heap.objs.size) { s with heap := h', toks := tk }) :
    wpAny (model P w) A (call (.type "set") [.ref l]) Q E s := by
  have hisz : items.size = ks.length := by
    have q := congrArg List.length hit
    rw [Array.length_toList, List.length_map] at q
    exact q
  obtain ⟨c, tl, hmro⟩ := F.called_set.mro
  have hmade := F.called_set.made
  have hsub := F.called_set.sub
  refine wpAny_call (codeAny_of_tree ?_)
  show wpAny _ _ (callAny (.type "set") _) _ _ _
  refine wpAny_pure ⟨Code.quiet_builtin _ (by decide +kernel), codeAny_builtin F.entry_type_call ?_⟩
  rw [Around.under_plain (weight_type_call_type "set" [.ref l] []) rfl]
  have h1 := F.called_set.notType
  have h2 := F.called_set.canCreate
  have hct := F.typeCall_set_1 (.ref l)
  repeat (any_goals (first | assumption | wp_step))
  refine codeAny_mono (code_set_led1 (.ref l) (E := E) (Q₁ := fun obj s₁ => obj = .ref s.heap.objs.size ∧ s₁ = { s with heap := s.heap.push (noSet w) }) ⟨rfl, rfl⟩) fun r s₁ hr => ?_
  cases r with
  | error e => exact hr
  | ok fl =>
    cases fl with
    | ret obj =>
      obtain ⟨rfl, rfl⟩ := hr
      have hS : (s.heap.push (noSet w)).get? s.heap.objs.size = some (noSet w) := Heap.get?_push_size _ rfl
      have hT : Shared.TypeIs { s with heap := s.heap.push (noSet w) } (.ref s.heap.objs.size) "set" := ⟨_, hS, rfl⟩
      have hli := F.called_set.init.lookup
      have hbi := F.called_set.init.bind (.ref s.heap.objs.size)
      repeat (any_goals (first | assumption | wp_step))
      refine codeAny_mono (codeAny_call_builtin (R := wants (fun r s₂ => r = .none ∧ ∃ h' tk L, s₂ = { s with heap := h', toks := tk } ∧ SW P w h' s.heap.objs.size L ∧ Got ks ks.length L ∧ (∀ b o, s.heap.get? b = some o → h'.get? b = some o)) E) F.called_set.init.plain F.entry_set_init (check_set_init_1 hT ?_)) fun r₂ s₂ hr₂ => ?_
      · obtain ⟨ol, hol, hcl, nl, hdl⟩ := hl
        obtain ⟨ocls, odict, odata, oslots⟩ := ol
        simp only at hcl hdl
        subst hcl; subst hdl
        have hol' : (s.heap.push (noSet w)).get? l = some { cls := .type "list", dict := odict, data := .seq items nl, slots := oslots } := Heap.get?_push_of_some _ hol
        have hsls := F.sub_list_set
        have hslf := F.sub_list_frozenset
        have hne : (Value.type "list" == Value.type "dict") = false := by decide
        have hl1 : (s.heap.push (noSet w)).IsList l items := ⟨_, hol', rfl, nl, rfl⟩
        unfold Builtin.«set.__init__» noKeywords Builtin.Frozenset.updateFrom
        generalize hPI : pyIter = PI
        wp_walk
        subst hPI
        refine wpAny_pyIter_list hl1 ?_
        refine wpAny_bind (wpAny_runValue ?_)
        have hlS : l < s.heap.objs.size := Heap.lt_size hol
        have hh3 : A.in1.in1.in1.handled = none := by simp [hh]
        have hzp : (s.heap.push (noSet w)).objs.size = s.heap.objs.size + 1 := Heap.size_push ..
        have hneI : l ≠ (s.heap.push (noSet w)).objs.size := by rw [hzp]; exact Nat.ne_of_lt (Nat.lt_succ_of_lt hlS)
        have hSf : s.heap.objs.size ∉ [(s.heap.push (noSet w)).objs.size, l] := by
          rw [hzp]; simp only [List.mem_cons, List.not_mem_nil, or_false, not_or]
          exact ⟨Nat.ne_of_lt (Nat.lt_succ_self _), Nat.ne_of_gt hlS⟩
        have hval : ∀ (i : Nat) (v : Value), items[i]? = some v → ∃ p, ks[i]? = some p ∧ v = .ref p.1 := fun i v hv => by
          have q : items.toList[i]? = some v := by rw [Array.getElem?_toList]; exact hv
          rw [hit, List.getElem?_map] at q
          cases hq : ks[i]? with
          | none => rw [hq] at q; cases q
          | some p =>
            rw [hq] at q
            exact ⟨p, rfl, (Option.some.inj q).symm⟩
        have fresh : ∀ b, s.heap.objs.size ≤ b → s.heap.get? b = none := fun b hb => Heap.get?_none_of_le hb
        refine set_loop ((Walks.list hh3 _ l hneI items).toS) s.heap.objs.size hSf ks hisz h64 hval s.heap hk (fresh _ (Nat.le_refl _)) (fun b hb => fresh b (by rw [List.mem_singleton.mp hb, hzp]; exact Nat.le_succ _)) hu (items.size - 0) 0 _ (by omega) (Nat.zero_le _)
          ⟨⟨_, Heap.get?_push_size _ rfl, rfl, rfl⟩, (hl1.push _)⟩ (fun b o e => Heap.get?_push_of_some _ (Heap.get?_push_of_some _ e)) (.inl ⟨[], #[], 0, _, setTR_fresh (Heap.get?_push_of_some _ hS), Got.zero ks⟩) fun s' L hm hS' g' hkp => ?_
        obtain ⟨h', g2, d', tk', os'⟩ := s'
        have eg : g2 = s.gens := hm.gens
        have ed : d' = s.drawn := hm.drawn
        have eo : os' = s.os := hm.os
        subst eg; subst ed; subst eo
        show wpAny _ _ _ _ _ _
        refine wpAny_pure ?_
        show wpAny _ _ (ret Value.none) _ _ _
        rw [hisz] at g'
        exact wpAny_pure ⟨rfl, h', tk', L, rfl, hS', g', hkp⟩
      · cases r₂ with
        | error e => exact hr₂
        | ok fl₂ =>
          cases fl₂ with
          | ret r =>
            obtain ⟨rfl, h', tk, L, rfl, hS', g', hk'⟩ := hr₂
            repeat (any_goals (first | assumption | wp_step))
            exact h _ _ _ hS' g' hk'
          | _ => exact hr₂.elim
    | _ => exact hr.elim
end
/-- the set at a, of the tuples ks -/
def SetO (P : Program) (w : World) (a : Addr) (L : List (Addr × List Int)) : HO := .ext fun h => SW P w h a L
theorem setO_new {P : Program} {w : World} {H : Hp} {h : Heap} {a : Addr} {L : List (Addr × List Int)} (R : SW P w h a L) : ObjOk P w H h a (SetO P w a L) := by
  have ⟨es, ep, t, ⟨o, ho, r⟩, q⟩ := R
  exact ⟨R, ⟨o, ho⟩, fun h1 h2 p k => SW.keep p k⟩
section
variable {X : Cx} {pins : List (Addr × Obj)} {σ : L2.St} {H : Hp} {s : Shared}
/-- a set of tuples: its members, without two alike -/
def SK (X : Cx) (H : Hp) (a : Addr) (ks : List (List Int)) : Prop := ∃ L, H a = some (SetO X.prog X.w a L) ∧ (∀ p ∈ L, IT H p.1 p.2) ∧ L.map (·.2) = ks
def rSet (X : Cx) : List V → Hp → VK → Prop := fun xs H Q => ∃ l ks, xs = [V.ref l] ∧ LL H l ks ∧ ks.length ≤ 64 ∧ ∀ (a : Addr) (L : List (Addr × List Int)), H a = none → (∀ p ∈ L, IT H p.1 p.2) → (L.map (·.2)).Nodup → (∀ k, k ∈ L.map (·.2) ↔ k ∈ ks) → L.length ≤ 64 → Q (.ref a) (upd H a (SetO X.prog X.w a L))
theorem isT_of (I : Inv X pins σ H s) {b : Addr} {k : List Int} (h : IT H b k) : IsT X.prog X.w s.heap k b := by
  obtain ⟨_, its, r, ⟨o, ho, hc, n, hd⟩⟩ := I.hok b _ h
  exact ⟨o, its.toArray, n, ho, hc, hd, by simpa using items_of_vals r⟩
theorem crSet (hc : X.calm = true) (hu : X.A.units + 64 < cLine) : CallR X (.type "set") (rSet X) := by
  intro pins s σ H xs us Q I r h
  obtain ⟨l, ks, rfl, ⟨vs, hl, rv⟩, h64, q⟩ := h
  rw [Vals.ref1 r]
  obtain ⟨hz, its, n, rv2, hob⟩ := I.hok l _ hl
  have ku := rts_ku rv rv2
  obtain ⟨L0, e1, e2, e3⟩ : ∃ L0 : List (Addr × List Int), its = L0.map (fun p => Value.ref p.1) ∧ ks = L0.map (·.2) ∧ ∀ p ∈ L0, IT H p.1 p.2 := by
    clear hob rv2 rv hl q h64 hz
    induction ku with
    | nil => exact ⟨[], rfl, rfl, fun p h => by cases h⟩
    | @cons k u ks us r t ih =>
      obtain ⟨L0, a1, a2, a3⟩ := ih
      obtain ⟨b, rfl, e⟩ := r
      refine ⟨(b, k) :: L0, by rw [a1, List.map_cons], by rw [a2, List.map_cons], fun p hp => ?_⟩
      rcases List.mem_cons.mp hp with rfl | hp
      · exact e
      · exact a3 p hp
  have hn : H s.heap.objs.size = none := I.hok.fresh (Nat.le_refl _)
  have hlen : L0.length = ks.length := by rw [e2, List.length_map]
  refine set_call (P := X.prog) (w := X.w) L0 (I.ok.hd hc) ⟨_, hob, rfl, n, rfl⟩ (by simpa using e1) (fun p hp => isT_of I (e3 p hp)) (by omega) (by omega) fun h' tk L R g k => ?_
  have hsub : ∀ p ∈ L, p ∈ L0 := fun p hp => List.mem_of_mem_take (g.sub p hp)
  have ⟨es, ep, t, _, _, _, _, _, nd, few⟩ := R
  refine ⟨.ref s.heap.objs.size, upd H s.heap.objs.size (SetO X.prog X.w s.heap.objs.size L), I.laid (t' := tk) k (Nat.le_refl _) (setO_new R), rfl, q _ L hn (fun p hp => e3 p (hsub p hp)) nd (fun z => ⟨fun hz => ?_, fun hz => ?_⟩) few⟩
  · obtain ⟨p, hp, rfl⟩ := List.mem_map.mp hz
    rw [e2]
    exact List.mem_map.mpr ⟨p, hsub p hp, rfl⟩
  · rw [e2] at hz
    obtain ⟨p, hp, rfl⟩ := List.mem_map.mp hz
    exact g.all p (by rw [List.take_length]; exact hp)
theorem col_set (I : Inv X pins σ H s) {a : Addr} {L : List (Addr × List Int)} (ha : H a = some (SetO X.prog X.w a L)) (hL : ∀ p ∈ L, IT H p.1 p.2) {A : Around} {E : Value → Shared → Prop} (hh : A.handled = none) (R : List Value → Shared → Prop)
    (q : ∀ s1 vs ks, Inv X pins σ H s1 → KU H ks vs → ks.Perm (L.map (·.2)) → R vs s1) : wpAny (model X.prog X.w) A (collect (.ref a)) R E s := by
  obtain ⟨es, ep, t, ⟨o, ho, hex, hd⟩, rows, fits, ris, led, nd, few⟩ : SW X.prog X.w s.heap a L := (I.hok a _ ha).1
  have hsz : es.size = L.length := by
    have h := congrArg List.length rows
    unfold rowsOf at h
    rw [Array.length_toList, List.length_map] at h
    exact h
  refine collect_set (A := A) hh ⟨o, ho, hex.1, hd⟩ fits (by unfold scanBound; omega) ris led fun s1 vs k1 hz g1 o1 pm => ?_
  have I1 : Inv X pins σ H s1 := I.call' (ch := []) o1 (Un.kept k1) (I.hok.kept k1) (by rw [g1]; exact I.bare) fun _ z => nomatch z
  have hes : es.toList.map (·.2) = L.map fun q => Value.ref q.1 := by
    rw [rows]
    unfold rowsOf
    rw [List.map_map]
    rfl
  rw [hes] at pm
  have ku0 : KU H (L.map (·.2)) (L.map fun q => Value.ref q.1) := by
    clear pm hes hsz few nd rows ha q
    induction L with
    | nil => exact .nil
    | cons p L ih => exact .cons ⟨p.1, rfl, hL p List.mem_cons_self⟩ (ih fun p hp => hL p (List.mem_cons_of_mem _ hp))
  refine q s1 vs (vs.map (cont H)) I1 (ku_self fun u hu => ku_mem ku0 (pm.mem_iff.mp hu)) ?_
  rw [ku_map ku0]
  exact pm.map _
/-- sorted(set) -/
def rSortSet (X : Cx) : List V → Hp → VK → Prop := fun vs H Q => ∃ (a : Addr) (L : List (Addr × List Int)), vs = [V.ref a] ∧ H a = some (SetO X.prog X.w a L) ∧ (∀ p ∈ L, IT H p.1 p.2) ∧ L.length ≤ 64 ∧
  ∀ (ks' : List (List Int)) (ys : List V) (p : Addr), ks'.Perm (L.map (·.2)) → ks'.Pairwise lexT → RTs ks' ys H → H p = none → Q (.ref p) (upd H p (.lst ys))
theorem crSortSet (hu : X.A.units + 8 < cLine) (hc : X.calm = true) : CallR X (.builtin "sorted") (rSortSet X) := by
  intro pins s σ H vs us Q I r h
  obtain ⟨a, L, rfl, ha, hL, h64, q⟩ := h
  obtain rfl := Vals.ref1 r
  have W := sw_plain (X := X) hu
  refine sorted_src (P := fun s1 vs => Inv X pins σ H s1 ∧ ∃ ks, KU H ks vs ∧ ks.Perm (L.map (·.2))) (W := fun s1 s2 vs out => ∃ h' tk, s2 = { s1 with heap := h', toks := tk } ∧ out.Perm vs ∧ (out.map (cont H)).Pairwise lexT ∧ (∀ b o, s1.heap.get? b = some o → h'.get? b = some o) ∧ (∃ c, h'.get? s1.heap.objs.size = some (seqObj "list" out.toArray c)))
    (W.a1 a) W.a2 (fun R hR => col_set (A := X.A.in1) I ha hL (I.ok.hd hc) R fun s1 vs ks i1 k1 p1 => hR s1 vs ⟨i1, ks, k1, p1⟩) (fun s1 vs p => ?_) (fun s1 vs p R hR => ?_) fun s1 vs s2 out p wq => ?_
  · obtain ⟨_, ks, ku, pm⟩ := p
    rw [← Paired.length ku, pm.length_eq, List.length_map]
    exact bigle (by omega)
  · obtain ⟨I1, ks, ku, pm⟩ := p
    refine W.srt I1 ku ?_ trivial R fun h' tk out h1 h2 h3 h4 => hR _ out ⟨h', tk, rfl, h1, h2, h3, h4⟩
    rw [← Paired.length ku, pm.length_eq, List.length_map]
    omega
  · obtain ⟨h', tk, rfl, h1, h2, h3, c, h4⟩ := wq
    obtain ⟨I1, ks, ku, pm⟩ := p
    have ho : ∀ u ∈ out, ∃ b, u = Value.ref b ∧ IT H b (cont H u) := fun u hu => ku_mem ku (h1.mem_iff.mp hu)
    have hl : (out.map backV).length ≤ sizeLine := by
      rw [List.length_map, h1.length_eq, ← Paired.length ku, pm.length_eq, List.length_map]
      exact bigle (by omega)
    refine ⟨.ref s1.heap.objs.size, upd H s1.heap.objs.size (.lst (out.map backV)), I1.laid (t' := tk) h3 (Nat.le_refl _) ⟨hl, out, c, vals_back fun u hu => ?_, h4⟩, rfl, ?_⟩
    · obtain ⟨b, e, _⟩ := ho u hu
      exact ⟨b, e⟩
    · refine q _ _ _ ?_ h2 (ku_rts (ku_self ho)) (I1.hok.fresh (Nat.le_refl _))
      refine List.Perm.trans ?_ pm
      rw [ku_map ku]
      exact h1.map _
end
end K41

/-! K41L3 -/
/-! The law's own helpers: divides, letters, all, least. -/
namespace K41
open PySem PySem.Spec PyProof.Rows L2
theorem zip_gt (u v : List Int) (h : u.length = v.length) : decide (((List.range u.length).filterMap fun i => u[i]?.bind fun x => v[i]?.bind fun y => if x > y then some (1 : Int) else none) = []) = dv u v := by
  rw [Bool.eq_iff_iff, decide_eq_true_eq, dv_iff h, List.filterMap_eq_nil_iff]
  constructor
  · intro q i x y hx hy
    have hi := (List.getElem?_eq_some_iff.mp hx).1
    have z := q i (List.mem_range.mpr hi)
    rw [hx, hy] at z
    have z2 : (if x > y then some (1 : Int) else none) = none := z
    by_cases e : x > y
    · rw [if_pos e] at z2
      cases z2
    · omega
  · intro q i hi
    have hi1 : i < u.length := List.mem_range.mp hi
    have hx : u[i]? = some u[i] := List.getElem?_eq_getElem hi1
    have hy : v[i]? = some (v[i]'(by omega)) := List.getElem?_eq_getElem (by omega)
    rw [hx, hy]
    have := q i _ _ hx hy
    exact if_neg (by omega)
section
variable {P : Program} {w : World} {K : PySem.W.Frag} {mg : Str → Option Value} {base : Heap}
/-! ### divides -/
theorem sc_LDiv : FnScope ["_law_one", "_law_other", "_law_first", "_law_second"] ["_law_one", "_law_other"] (defScope (top 81)) := ⟨rfl, rfl, rfl, by decide +kernel, rfl, by decide +kernel, by decide +kernel⟩
theorem ok_LDiv (T : Tx K mg) : Ok P w K mg base "_law_divides" 1 ["_law_one", "_law_other"] spDiv := by
  refine mkOk T.d_law_divides sc_LDiv (fun _ _ _ _ _ _ us hl => match us, hl with | [_, _], _ => rfl) (fun vs H Q E h => by obtain ⟨a, b, u, v, rfl, _⟩ := h; rfl) (fun cdv A outer s H vs Q E f hr h => ?_)
  obtain ⟨a, b, u, v, rfl, ha, hb, hl, hz, q⟩ := h
  refine ⟨_, pss_one (ps_ret (pe_cmpR (op_eqK K hr.units) (pe_lc (own := [("_law_first", 2), ("_law_second", 3)]) (g := gTup K 2 (gCons (gName 2) (gCons (gName 3) gNil))) rfl sc_LDiv.nd
    (pi_zK K (by rfl) T.f_zip (pa_cons (pv 0) (pa_cons (pv 1) pa_nil))) (blkOk_by (N := ["_law_one", "_law_other", "_law_first", "_law_second"]) (sc := defScope (top 81)) (by decide +kernel))
    (fun _ _ _ _ _ => pg_tup rfl (pgs_cons (pg_name (i := 2) sc_LDiv.nd rfl (Or.inl rfl)) (pgs_cons (pg_name (i := 3) sc_LDiv.nd rfl (Or.inl rfl)) pgs_nil))) (fun _ _ _ _ _ => pts_one (pt_cmpR op_gt (pv 2) (pv 3) (nomark _)))
    (fun _ _ _ _ _ => pe_int)) (pe_lst pa_nil) (nomark _))), ?_⟩
  have hu : (u.map V.int).length = u.length := List.length_map _
  have hv : (v.map V.int).length = v.length := List.length_map _
  refine ⟨.ref a, rfl, .ref b, rfl, a, b, _, _, rfl, .inr ⟨SqT.of ha, SqT.of hb, fun D hD => ?_⟩⟩
  refine lc_made (n := (u.map V.int).length) (walk_zipT (K := K) (xs := u.map V.int) (ys := v.map V.int) (by rw [hu, hv, hl])) RI (fun _ _ _ _ _ r => r) (fun i => u[i]?.bind fun x => v[i]?.bind fun y => if x > y then some 1 else none) hD (by omega)
    (fun H1 s => ⟨SqT.of (s _ _ ha), SqT.of (s _ _ hb)⟩) (fun i x H1 H2 Kk N hi sm y hk1 hk2 => ?_) (fun H1 ys sm hy pr => ?_)
  · obtain ⟨T0, x1, x2, rfl, nT, rfl, e1, e2⟩ := y
    obtain ⟨n1, h1, rfl⟩ := get_int (show (u.map V.int)[i]? = some x1 from e1)
    obtain ⟨n2, h2, rfl⟩ := get_int (show (v.map V.int)[i]? = some x2 from e2)
    refine ⟨T0, _, rfl, SqT.of upd_same, rfl, _, _, rfl, _, _, rfl, rfl, ?_⟩
    refine ⟨rfl, _, rfl, _, rfl, n1, n2, rfl, rfl, _, rfl, ?_⟩
    by_cases h : n2 < n1
    · rw [decide_eq_true h]
      refine iteT (hk1 1 _ _ ?_ (same_new nT) rfl)
      rw [h1, h2]
      exact if_pos h
    · rw [decide_eq_false h]
      refine iteF (hk2 _ ?_ (same_new nT))
      rw [h1, h2]
      exact if_neg h
  · rw [hu] at pr
    have e := ri_list pr
    subst e
    refine ⟨bigle (by decide), fun p hp => eq_none ((same_new hp) _ _ hy) upd_same ?_⟩
    rw [zip_gt u v hl]
    exact q _ (sm.trans (same_new hp))
/-! ### letters -/
def spLetters : Sp := fun vs H Q _ => ∃ (a : Addr) (p : List Int), vs = [.ref a] ∧ IT H a p ∧ p.length ≤ 1000 ∧ ∀ H' b, Same H H' → H b = none → IT H' b (supp p) → Q (.ref b) H'
theorem sc_Letters : FnScope ["_law_product_here", "_law_at"] ["_law_product_here"] (defScope (top 83)) := ⟨rfl, rfl, rfl, by decide +kernel, rfl, by decide +kernel, by decide +kernel⟩
theorem ok_Letters (T : Tx K mg) : Ok P w K mg base "_law_letters" 1 ["_law_product_here"] spLetters := by
  refine mkOk T.d_law_letters sc_Letters (fun _ _ _ _ _ _ us hl => match us, hl with | [_], _ => rfl) (fun vs H Q E h => by obtain ⟨a, p, rfl, _⟩ := h; rfl) (fun cdv A outer s H vs Q E f hr h => ?_)
  obtain ⟨a, p, rfl, ha, hz, q⟩ := h
  refine ⟨_, pss_one (ps_ret (pe_callTy (crTup K) (by rfl) T.f_tuple (by decide +kernel) (pa_cons (pe_lc (own := [("_law_at", 1)]) (g := gName 1) rfl sc_Letters.nd (pi_range1 rfl T.f_range (pa_cons (pe_callB (crLen K) (by rfl) T.f_len PySem.boot_len (pa_cons (pv 0) pa_nil)) pa_nil))
    (blkOk_by (N := ["_law_product_here", "_law_at"]) (sc := defScope (top 83)) (by decide +kernel)) (fun _ _ _ _ _ => pg_name (i := 1) sc_Letters.nd rfl (Or.inl rfl)) (fun _ _ _ _ _ => pts_one (pt_cmpR op_gt (pe_ix (ixT K) (pv 0) (pv 1) (fun _ _ => rfl)) pe_int (nomark _)))
    (fun _ _ _ _ _ => pv 1)) pa_nil))), ?_⟩
  have hl : (p.map V.int).length = p.length := List.length_map _
  refine ⟨.ref a, rfl, a, _, rfl, .inr (SqT.of ha), _, rfl, by rw [hl]; omega, by rw [hl]; omega, fun D hD => ?_⟩
  rw [hl, Int.toNat_natCast]
  refine lc_made (n := p.length) walk_rng RI (fun _ _ _ _ _ r => r) (fun i => if p.getD i 0 > 0 then some (i : Int) else none) hD (by omega) (fun _ _ => trivial) (fun i x H1 H2 Kk N hi sm y h1 h2 => ?_) (fun H1 ys sm hy pr => ?_)
  · obtain ⟨rfl, rfl⟩ := y
    have ei : (p.map V.int)[i]? = some (V.int (p.getD i 0)) := by
      rw [List.getElem?_map, List.getElem?_eq_getElem hi, List.getD_eq_getElem?_getD, List.getElem?_eq_getElem hi]
      rfl
    refine ⟨rfl, .ref a, rfl, .int i, rfl, a, _, _, _, rfl, rfl, SqT.of (sm _ _ ha), atI_nat ei, _, _, rfl, rfl, _, rfl, ?_⟩
    by_cases h : 0 < p.getD i 0
    · rw [decide_eq_true h]
      exact iteT ⟨_, rfl, h1 i _ _ (if_pos h) (Same.refl _) rfl⟩
    · rw [decide_eq_false h]
      exact iteF (h2 _ (if_neg h) (Same.refl _))
  · have e := ri_list pr
    subst e
    refine ⟨D, _, rfl, .inl ⟨SqL.of hy, fun b hb => q _ b (sm.trans (same_new hb)) (fresh_of sm hb) ?_⟩⟩
    have e2 : ((List.range p.length).filterMap fun i => if p.getD i 0 > 0 then some (i : Int) else none) = supp p := by
      unfold supp
      rw [← List.filterMap_eq_map, List.filterMap_filter]
      congr 1
      funext i
      by_cases h : p.getD i 0 > 0
      · simp [h]
      · simp [h]
    rw [← e2]
    exact upd_same
end
end K41

/-! K41L4 -/
/-! The law's own helpers: all members, least products. -/
namespace K41
open PySem PySem.Spec PyProof.Rows L2
theorem RP.go {q : Int × List Int} {v : V} {H H' : Hp} (s : TupS H H') (h : RP q v H) : RP q v H' := by
  obtain ⟨t, b, e, h1, h2⟩ := h
  exact ⟨t, b, e, s _ _ h1, s _ _ h2⟩
theorem u128 {k : Nat} {A : Around} (h : Room k A) : A.units + 128 < cLine := by
  have := h.un
  omega
section
variable {P : Program} {w : World} {K : PySem.W.Frag} {mg : Str → Option Value} {base : Heap}
def spAll : Sp := fun vs H Q _ => ∃ (n : Nat) (l : Addr) (ks : List (List Int)), vs = [.int n, .ref l] ∧ n ≤ 6 ∧ LL H l ks ∧ (∀ k ∈ ks, On n k) ∧ ks.length ≤ 100 ∧
  ∀ H' p L, Same H H' → H p = none → L.Nodup → (∀ k, k ∈ L ↔ On n k ∧ ∃ c ∈ ks, k.Sublist c) → LL H' p L → Q (.ref p) H'
theorem sc_All : FnScope ["_law_size", "_law_sets_here", "_law_found", "_law_one", "_law_other", "_law_many"] ["_law_size", "_law_sets_here"] (defScope (top 79)) := ⟨rfl, rfl, rfl, by decide +kernel, rfl, by decide +kernel, by decide +kernel⟩
theorem ok_All (T : Tx K mg) : Ok P w K mg base "_law_all" 2 ["_law_size", "_law_sets_here"] spAll := by
  refine mkOk T.d_law_all sc_All (fun _ _ _ _ _ _ us hl => match us, hl with | [_, _], _ => rfl) (fun vs H Q E h => by obtain ⟨n, l, ks, rfl, _⟩ := h; rfl) (fun cdv A outer s H vs Q E f hr h => ?_)
  obtain ⟨n, l, ks, rfl, hn, hL, hon, hz, q⟩ := h
  refine ⟨_, pss_cons (ps_setLc (i := 2) (own := [("_law_one", 3)]) (g := gName 3) rfl sc_All.nd rfl rfl (sw_true rfl rfl rfl (by decide +kernel)) (pi_lK K (pcall (ok_Subs T) hr (pa_cons (pv 0) pa_nil)))
      (blkOk_by (N := ["_law_size", "_law_sets_here", "_law_found", "_law_one", "_law_other", "_law_many"]) (sc := defScope (top 79)) (by decide +kernel)) (fun _ _ _ _ _ => pg_name (i := 3) sc_All.nd rfl (Or.inr rfl))
      (fun _ _ _ _ _ => pts_one (pt_cmpR (op_neK K hr.units) (pe_lc (own := [("_law_other", 4)]) (g := gName 4) rfl sc_All.nd (pi_lK K (pv 1)) (blkOk_by (N := ["_law_size", "_law_sets_here", "_law_found", "_law_one", "_law_other", "_law_many"]) (sc := scR 79 0) (by decide +kernel))
        (fun _ _ _ _ _ => pg_name (i := 4) sc_All.nd rfl (Or.inl rfl)) (fun _ _ _ _ _ => pts_one (pt_val (pcall (ok_Inside T) hr (pa_cons (pv 3) (pa_cons (pv 4) pa_nil))))) (fun _ _ _ _ _ => pv 4)) (pe_lst pa_nil) (nomark _)))
      (fun _ _ _ _ _ => pv 3))
    (pss_one (ps_ret (pe_lc (own := [("_law_many", 5), ("_law_one", 3)]) (g := gTup K 2 (gCons (gName 5) (gCons (gName 3) gNil))) (tt := tYes) rfl sc_All.nd
      (pi_lK K (pe_callB (crSortP (u128 hr)) (by rfl) T.f_sorted (by decide +kernel) (pa_cons (pe_lc (own := [("_law_one", 3)]) (g := gName 3) (tt := tYes) rfl sc_All.nd (pi_lK K (pv 2))
        (blkOk_by (N := ["_law_size", "_law_sets_here", "_law_found", "_law_one", "_law_other", "_law_many"]) (sc := defScope (top 79)) (by decide +kernel)) (fun _ _ _ _ _ => pg_name (i := 3) sc_All.nd rfl (Or.inl rfl)) (fun _ _ _ _ _ => pts_nil)
        (fun _ _ _ _ _ => pe_tup (pa_cons (pe_callB (crLen K) (by rfl) T.f_len PySem.boot_len (pa_cons (pv 3) pa_nil)) (pa_cons (pv 3) pa_nil)))) pa_nil)))
      (blkOk_by (N := ["_law_size", "_law_sets_here", "_law_found", "_law_one", "_law_other", "_law_many"]) (sc := defScope (top 79)) (by decide +kernel))
      (fun _ _ _ _ _ => pg_tup rfl (pgs_cons (pg_name (i := 5) sc_All.nd rfl (Or.inl rfl)) (pgs_cons (pg_name (i := 3) sc_All.nd rfl (Or.inl rfl)) pgs_nil))) (fun _ _ _ _ _ => pts_nil) (fun _ _ _ _ _ => pv 3)))), ?_⟩
  obtain ⟨ws, hws, rw0⟩ := id hL
  refine ⟨_, rfl, n, rfl, hn, fun H1 p1 s1 hp1 hks => ?_⟩
  obtain ⟨us, hus, ru⟩ := hks
  have hlen := subs_few hn
  refine ⟨p1, rfl, ⟨us, SqL.of hus⟩, fun D hD => ?_⟩
  have rw1 := rts_go (tups_of s1) rw0
  refine lc_from (xs := us) (ks := subs n) RT RT (fun _ _ _ _ s r => r.go s) (fun k => if ∃ c ∈ ks, ∀ z ∈ k, z ∈ c then some k else none) walk_list (fun H2 s2 => SqL.of (s2 _ _ hus)) ru hD (by omega) (fun k0 x H2 Kk N hk0 s2 r h1 h2 => ?_) (fun H2 ys s2 hy pr => ?_)
  · obtain ⟨b, rfl, hb⟩ := r
    have hb2 := s2 _ _ hb
    have ho := on_few (mem_subs.mp hk0)
    refine ⟨rfl, _, rfl, l, rfl, ⟨ws, SqL.of (s2 _ _ (s1 _ _ hws))⟩, fun D2 hD2 => ?_⟩
    refine lc_from (xs := ws) (ks := ks) RT RT (fun _ _ _ _ s r => r.go s) (fun c => if ∀ z ∈ k0, z ∈ c then some c else none) walk_list (fun H3 s3 => SqL.of (s3 _ _ (s2 _ _ (s1 _ _ hws)))) (rts_go (tups_of s2) rw1) hD2 (by omega) (fun c0 x H3 K3 N3 hc0 s3 r3 g1 g2 => ?_) (fun H3 y3 s3 hy3 pr3 => ?_)
    · obtain ⟨b3, rfl, hb3⟩ := r3
      refine ⟨rfl, _, rfl, _, rfl, b, b3, k0, c0, rfl, s3 _ _ hb2, s3 _ _ hb3, by omega, fun H4 s4 => ?_⟩
      refine ⟨_, rfl, ?_⟩
      by_cases hi : ∀ z ∈ k0, z ∈ c0
      · rw [decide_eq_true hi]
        exact iteT ⟨_, rfl, g1 c0 _ _ (if_pos hi) s4 ⟨b3, rfl, s4 _ _ (s3 _ _ hb3)⟩⟩
      · rw [decide_eq_false hi]
        exact iteF (g2 _ (if_neg hi) s4)
    · refine ⟨bigle (by decide), fun p3 hp3 => ne_ll (LL.go (same_new hp3) ⟨y3, hy3, pr3⟩) ⟨[], upd_same, .nil⟩ ⟨_, rfl, ?_⟩⟩
      have s4 := s3.trans (same_new (o := .lst []) hp3)
      by_cases hex : ∃ c ∈ ks, ∀ z ∈ k0, z ∈ c
      · have hne : ¬ (ks.filterMap fun c => if ∀ z ∈ k0, z ∈ c then some c else none) = [] := fun e => by
          obtain ⟨c, hc, hi⟩ := hex
          have := List.filterMap_eq_nil_iff.mp e c hc
          rw [if_pos hi] at this
          cases this
        rw [decide_eq_false hne]
        exact iteT ⟨_, rfl, h1 k0 _ _ (if_pos hex) s4 ⟨b, rfl, s4 _ _ hb2⟩⟩
      · have he : (ks.filterMap fun c => if ∀ z ∈ k0, z ∈ c then some c else none) = [] := List.filterMap_eq_nil_iff.mpr fun c hc => if_neg fun hi => hex ⟨c, hc, hi⟩
        rw [decide_eq_true he]
        exact iteF (h2 _ (if_neg hex) s4)
  obtain ⟨L0, hL0⟩ : ∃ L0, L0 = (subs n).filterMap fun k => if ∃ c ∈ ks, ∀ z ∈ k, z ∈ c then some k else none := ⟨_, rfl⟩
  rw [← hL0] at pr
  have hm : ∀ k, k ∈ L0 ↔ On n k ∧ ∃ c ∈ ks, k.Sublist c := fun k => by
    rw [hL0, List.mem_filterMap]
    constructor
    · rintro ⟨z, hz, e⟩
      by_cases hex : ∃ c ∈ ks, ∀ y ∈ z, y ∈ c
      · rw [if_pos hex] at e
        cases e
        obtain ⟨c, hc, hi⟩ := hex
        exact ⟨mem_subs.mp hz, c, hc, (on_within (mem_subs.mp hz) (hon c hc)).mp hi⟩
      · rw [if_neg hex] at e
        cases e
    · rintro ⟨ho, c, hc, hs⟩
      exact ⟨k, mem_subs.mpr ho, if_pos ⟨c, hc, (on_within ho (hon c hc)).mpr hs⟩⟩
  have hnd : L0.Nodup := by
    rw [hL0]
    have e : ((subs n).filterMap fun k => if ∃ c ∈ ks, ∀ z ∈ k, z ∈ c then some k else none) = (subs n).filter fun k => decide (∃ c ∈ ks, ∀ z ∈ k, z ∈ c) := by
      have h := fm_yes (fun k => decide (∃ c ∈ ks, ∀ z ∈ k, z ∈ c)) (subs n)
      simp only [decide_eq_true_eq] at h
      exact h
    rw [e]
    exact (subs_nodup n).sublist List.filter_sublist
  have hl0 : L0.length ≤ 64 := Nat.le_trans (nd_le hnd fun k hk => mem_subs.mpr ((hm k).mp hk).1) hlen
  have s12 := s1.trans s2
  refine ⟨_, rfl, D, rfl, ⟨ys, SqL.of hy⟩, fun D3 hD3 => ?_⟩
  refine lc_fromM (xs := ys) (ks := L0) RT RP (fun _ _ _ _ s r => r.go s) (fun k => (((k.map V.int).length : Int), k)) walk_list (fun H3 s3 => SqL.of (s3 _ _ hy)) pr hD3 (by omega) (fun k0 x H3 Kk hk0 s3 r h1 => ?_) (fun H3 zs s3 hz3 pr3 => ?_)
  · obtain ⟨b, rfl, hb⟩ := r
    refine ⟨rfl, _, rfl, b, _, rfl, .inr (SqT.of (s3 _ _ hb)), _, rfl, bigle (by show 2 ≤ _; decide), fun p hp => h1 _ _ (same_new hp) ⟨p, b, rfl, upd_same, (same_new hp) _ _ (s3 _ _ hb)⟩⟩
  refine ⟨D3, zs, _, rfl, hz3, pr3, by rw [List.length_map]; omega, fun qs' ys' p pm pq hp => ?_⟩
  have hql : qs'.length ≤ 64 := by
    rw [pm.length_eq, List.length_map]
    exact hl0
  have s4 := s12.trans (s3.trans (same_new (o := .lst ys') hp))
  refine ⟨p, rfl, ⟨ys', SqL.of upd_same⟩, fun D4 hD4 => ?_⟩
  refine lc_fromM (xs := ys') (ks := qs') RP RT (fun _ _ _ _ s r => r.go s) (fun q => q.2) walk_list (fun H5 s5 => SqL.of (s5 _ _ upd_same)) (pr_imp pq fun _ _ _ r => r.go (tups_of (same_new hp))) hD4 (by omega) (fun q0 x H5 Kk hq0 s5 r h1 => ?_) (fun H5 y5 s5 hy5 pr5 => ?_)
  · obtain ⟨t, b, rfl, ht, hb⟩ := r
    refine ⟨t, _, rfl, SqT.of (s5 _ _ ht), rfl, _, _, rfl, _, _, rfl, rfl, ?_⟩
    exact ⟨rfl, _, rfl, h1 _ _ (Same.refl _) ⟨b, rfl, s5 _ _ hb⟩⟩
  · have hpm : (qs'.map fun q => q.2).Perm L0 := by
      have e := pm.map fun q => q.2
      rw [List.map_map] at e
      have e2 : ((fun q : Int × List Int => q.2) ∘ fun k : List Int => (((k.map V.int).length : Int), k)) = id := rfl
      rw [e2, List.map_id] at e
      exact e
    exact q H5 D4 _ (s4.trans s5) (fresh_of s4 hD4) (hpm.nodup_iff.mpr hnd) (fun k => hpm.mem_iff.trans (hm k)) ⟨y5, hy5, pr5⟩
end
end K41

/-! K41L5 -/
/-! The law's own helpers: least products, drawn sets. -/
namespace K41
open PySem PySem.Spec PyProof.Rows L2
/-- least among the products, as the law asks it -/
def leastB (ks : List (List Int)) (x : List Int) : Bool := ks.all fun y => decide (y = x) || !dv y x
theorem leastB_iff {ks : List (List Int)} {x : List Int} : leastB ks x = true ↔ ∀ y ∈ ks, dv y x = true → y = x := by
  unfold leastB
  rw [List.all_eq_true]
  constructor
  · intro h y hy d
    have := h y hy
    rw [d, Bool.not_true, Bool.or_false, decide_eq_true_eq] at this
    exact this
  · intro h y hy
    by_cases d : dv y x = true
    · rw [h y hy d, decide_eq_true rfl, Bool.true_or]
    · rw [Bool.eq_false_iff.mpr d, Bool.not_false, Bool.or_true]
theorem sp_mut {p l : Addr} {H H1 : Hp} {o : HO} (s : SP p H H1) (hp : Pot H p) (h : H l = none) : SP p H (upd H1 l o) := by
  have hn : l ≠ p := by
    rintro rfl
    obtain ⟨x, y, z, e⟩ := hp
    rw [h] at e
    cases e
  refine ⟨fun b u nb e => ?_, ?_⟩
  · rw [upd_ne (ne_of_none e h)]
    exact s.but b u nb e
  · obtain ⟨x, y, z, e⟩ := s.pot
    exact ⟨x, y, z, by rw [upd_ne (Ne.symm hn)]; exact e⟩
theorem sp_dip {p : Addr} {H H1 : Hp} {x y z : Int} (s : SP p H H1) : SP p H (upd H1 p (.lst [.int x, .int y, .int z])) := s.trans sp_upd
section
variable {P : Program} {w : World} {K : PySem.W.Frag} {mg : Str → Option Value} {base : Heap}
def spLeast : Sp := fun vs H Q _ => ∃ (a : Addr) (ks : List (List Int)) (n : Nat), vs = [.ref a] ∧ LL H a ks ∧ ks.length ≤ 64 ∧ (∀ k ∈ ks, k.length = n) ∧ n ≤ 1000 ∧
  ∀ H' p M, Same H H' → H p = none → M.Nodup → M.Pairwise lexT → (∀ x, x ∈ M ↔ Least ks x) → LL H' p M → Q (.ref p) H'
theorem sc_Least : FnScope ["_law_products", "_law_found", "_law_one", "_law_other"] ["_law_products"] (defScope (top 80)) := ⟨rfl, rfl, rfl, by decide +kernel, rfl, by decide +kernel, by decide +kernel⟩
theorem ok_Least (T : Tx K mg) : Ok P w K mg base "_law_least" 2 ["_law_products"] spLeast := by
  refine mkOk T.d_law_least sc_Least (fun _ _ _ _ _ _ us hl => match us, hl with | [_], _ => rfl) (fun vs H Q E h => by obtain ⟨a, ks, n, rfl, _⟩ := h; rfl) (fun cdv A outer s H vs Q E f hr h => ?_)
  obtain ⟨a, ks, n, rfl, hL, hz, hkl, hn, q⟩ := h
  refine ⟨_, pss_cons (ps_set (i := 1) sc_Least.nd rfl (Or.inl rfl) (pe_lst pa_nil))
    (pss_cons (ps_for PassesOwn.never rfl (pi_lK K (pe_callB (crSortSet (u8 hr.units) rfl) (by rfl) T.f_sorted (by decide +kernel) (pa_cons (pe_callTy (crSet rfl hr.units) (by rfl) T.f_set (by decide +kernel) (pa_cons (pv 0) pa_nil)) pa_nil))) (pg_name (i := 2) sc_Least.nd rfl (Or.inr rfl))
      (pss_one (ps_if (pt_cmpR (op_eqK K hr.units) (pe_lc (own := [("_law_other", 3)]) (g := gName 3) rfl sc_Least.nd (pi_lK K (pv 0)) (blkOk_by (N := ["_law_products", "_law_found", "_law_one", "_law_other"]) (sc := defScope (top 80)) (by decide +kernel))
          (fun _ _ _ _ _ => pg_name (i := 3) sc_Least.nd rfl (Or.inl rfl)) (fun _ _ _ _ _ => pts_one (PW.pt (pw_and (pt_cmpR (op_neK K hr.units) (pv 3) (pv 2) (nomark _)) (pw_and1 (pt_val (pcall (ok_LDiv T) hr (pa_cons (pv 3) (pa_cons (pv 2) pa_nil)))))))) (fun _ _ _ _ _ => pv 3)) (pe_lst pa_nil) (nomark _))
        (pss_one (ps_expr (pe_bm PySem.F.plainAttrs_list PySem.F.slot_list_append PySem.F.type_list_append mt_append (pv 1) (pa_cons (pv 2) pa_nil)))) pss_nil)))
    (pss_one (ps_ret (pv 1)))), ?_⟩
  refine ⟨bigle (by decide), fun p0 hp0 => ?_⟩
  have s0 : Same H (upd H p0 (.lst [])) := same_new hp0
  refine ⟨_, rfl, a, ks, rfl, hL.go s0, hz, fun aS L hS hLi hnd hmem hlen => ?_⟩
  have s1 : Same (upd H p0 (.lst [])) (upd (upd H p0 (.lst [])) aS (SetO P w aS L)) := same_new hS
  refine ⟨aS, L, rfl, upd_same, fun p hp => s1 _ _ (hLi p hp), hlen, fun S ys p pm srt r hp => ?_⟩
  have s2 := s1.trans (same_new (o := .lst ys) hp)
  have s02 := s0.trans s2
  have hSn : S.Nodup := pm.nodup_iff.mpr hnd
  have hSm : ∀ k, k ∈ S ↔ k ∈ ks := fun k => pm.mem_iff.trans (hmem k)
  have hSl : S.length ≤ 64 := by rw [pm.length_eq, List.length_map]; exact hlen
  obtain ⟨vs, hvs, rv⟩ := id hL
  obtain ⟨H2, eH2⟩ : ∃ H2, H2 = upd (upd (upd H p0 (.lst [])) aS (SetO P w aS L)) p (.lst ys) := ⟨_, rfl⟩
  have hp2 : H2 p = some (.lst ys) := by rw [eH2]; exact upd_same
  have hp02 : H2 p0 = some (.lst []) := by rw [eH2]; exact s2 _ _ upd_same
  have rS : RTs S ys H2 := by rw [eH2]; exact rts_go (tups_of (same_new hp)) r
  have sH2 : Same H H2 := by rw [eH2]; exact s02
  have hpp : p ≠ p0 := by
    rintro rfl
    have h1 : upd (upd H p (.lst [])) aS (SetO P w aS L) p = none := hp
    have z := s1 _ _ upd_same
    rw [h1] at z
    cases z
  have hyl : S.length = ys.length := Paired.length rS
  refine ⟨p, rfl, ⟨ys, SqL.of upd_same⟩, ?_⟩
  show _
  refine for_it (walk_list (xs := ys)) (fun i σ H3 => ∃ c d, σ = [some (V.ref a), some (V.ref p0), c, d] ∧ Same H H3 ∧ LL H3 p0 ((S.take i).filter (leastB ks)) ∧ H3 p = some (.lst ys) ∧ RTs S ys H3)
    ⟨_, _, rfl, s02, ⟨[], (show upd (upd (upd H p0 (.lst [])) aS (SetO P w aS L)) p (.lst ys) p0 = _ from eH2 ▸ hp02), .nil⟩, upd_same, (show RTs S ys (upd (upd (upd H p0 (.lst [])) aS (SetO P w aS L)) p (.lst ys)) from eH2 ▸ rS)⟩ (fun i σ H3 _ hP => ?_) (fun i x σ H3 H4 hi hP y => ?_) (fun σ H3 hP => ?_)
  · obtain ⟨c, d, _, _, _, h, _⟩ := hP
    exact SqL.of h
  · obtain ⟨c, d, rfl, s3, ⟨fs, hfs, rf⟩, hp3, r3⟩ := hP
    obtain ⟨rfl, hx⟩ := y
    obtain ⟨k0, b, e0, rfl, hb⟩ := rts_at r3 hx
    have hk0 : k0 ∈ ks := (hSm k0).mp (List.mem_of_getElem? e0)
    have etk : S.take (i + 1) = S.take i ++ [k0] := by rw [List.take_add_one, e0]; rfl
    refine ⟨_, rfl, a, rfl, ⟨vs, SqL.of (s3 _ _ hvs)⟩, fun D hD => ?_⟩
    refine lc_from (xs := vs) (ks := ks) RT RT (fun _ _ _ _ s r => r.go s) (fun y => if y ≠ k0 ∧ dv y k0 = true then some y else none) walk_list (fun H5 s5 => SqL.of (s5 _ _ (s3 _ _ hvs))) (rts_go (tups_of s3) rv) hD (by omega) (fun y0 x H5 Kk N hy0 s5 r5 g1 g2 => ?_) (fun H5 y5 s5 hy5 pr5 => ?_)
    · obtain ⟨b5, rfl, hb5⟩ := r5
      refine ⟨rfl, _, rfl, _, rfl, ne_it (s5 _ _ hb5) (s5 _ _ hb) ⟨_, rfl, ?_⟩⟩
      by_cases he : y0 = k0
      · rw [decide_eq_true he]
        exact iteF (g2 _ (if_neg fun z => z.1 he) (Same.refl _))
      · rw [decide_eq_false he]
        refine iteT ⟨_, rfl, _, rfl, b5, b, y0, k0, rfl, s5 _ _ hb5, s5 _ _ hb, by rw [hkl y0 hy0, hkl k0 hk0], by rw [hkl y0 hy0]; exact hn, fun H6 s6 => ⟨_, rfl, ?_⟩⟩
        by_cases hd : dv y0 k0 = true
        · rw [hd]
          exact iteT ⟨_, rfl, g1 y0 _ _ (if_pos ⟨he, hd⟩) s6 ⟨b5, rfl, s6 _ _ (s5 _ _ hb5)⟩⟩
        · rw [Bool.eq_false_iff.mpr hd]
          exact iteF (g2 _ (if_neg fun z => hd z.2) s6)
    · refine ⟨bigle (by decide), fun p5 hp5 => eq_ll (LL.go (same_new hp5) ⟨y5, hy5, pr5⟩) ⟨[], upd_same, .nil⟩ ⟨_, rfl, ?_⟩⟩
      have s6 := s5.trans (same_new (o := .lst []) hp5)
      have hiff : (ks.filterMap fun y => if y ≠ k0 ∧ dv y k0 = true then some y else none) = [] ↔ leastB ks k0 = true := by
        rw [List.filterMap_eq_nil_iff, leastB_iff]
        constructor
        · intro h y hy d
          refine Classical.byContradiction fun ne => ?_
          have := h y hy
          rw [if_pos ⟨ne, d⟩] at this
          cases this
        · intro h y hy
          exact if_neg fun z => z.1 (h y hy z.2)
      have hf6 := s6 _ _ hfs
      have hlf : ((S.take i).filter (leastB ks)).length ≤ 64 := by
        have h1 := List.length_filter_le (leastB ks) (S.take i)
        rw [List.length_take] at h1
        omega
      have hfl : ((S.take i).filter (leastB ks)).length = fs.length := Paired.length rf
      by_cases hB : leastB ks k0 = true
      · rw [decide_eq_true (hiff.mpr hB)]
        refine iteT ⟨_, rfl, .inl ⟨rfl, _, SqL.of hf6⟩, _, rfl, p0, fs, _, rfl, rfl, hf6, big (by omega), ?_⟩
        have ts : TupS (upd H5 p5 (.lst [])) (upd (upd H5 p5 (.lst [])) p0 (.lst (fs ++ [V.ref b]))) := tups_upd hf6 fun _ z => nomatch z
        have ts6 := (tups_of s6).trans ts
        refine ⟨_, _, rfl, same_mut (s3.trans s6) hp0, ⟨fs ++ [V.ref b], upd_same, ?_⟩, ?_, rts_go ts6 r3⟩
        · rw [etk, List.filter_append, List.filter_cons_of_pos hB, List.filter_nil]
          exact rts_app (rts_go ts6 rf) (.cons ⟨b, rfl, ts6 _ _ hb⟩ .nil)
        · rw [upd_ne hpp]
          exact s6 _ _ hp3
      · rw [decide_eq_false fun z => hB (hiff.mp z)]
        refine iteF ⟨_, _, rfl, s3.trans s6, ⟨fs, hf6, ?_⟩, s6 _ _ hp3, rts_go (tups_of s6) r3⟩
        rw [etk, List.filter_append, List.filter_cons_of_neg hB, List.filter_nil, List.append_nil]
        exact rts_go (tups_of s6) rf
  · obtain ⟨c, d, rfl, s3, hF, _, _⟩ := hP
    rw [← hyl, List.take_length] at hF
    refine ⟨_, rfl, q H3 p0 _ s3 hp0 (hSn.sublist List.filter_sublist) (srt.sublist List.filter_sublist) (fun x => ?_) hF⟩
    rw [List.mem_filter, hSm, leastB_iff]
    exact Iff.rfl
end
end K41

/-! K41L6 -/
/-! Drawn sets. -/
namespace K41
open PySem PySem.Spec PyProof.Rows L2
section
variable {P : Program} {w : World} {K : PySem.W.Frag} {mg : Str → Option Value} {base : Heap}
def spSets : Sp := fun vs H Q _ => ∃ (p : Addr) (n : Nat), vs = [.ref p, .int n] ∧ Pot H p ∧ n ≤ 6 ∧ ∀ H' l ks, SP p H H' → H l = none → LL H' l ks → (∀ k ∈ ks, On n k) → ks.length ≤ 7 → Q (.ref l) H'
theorem sc_Sets : FnScope ["_law_pot_here", "_law_size", "_law_sort", "_law_every", "_law_found", "_law_turn"] ["_law_pot_here", "_law_size"] (defScope (top 78)) := ⟨rfl, rfl, rfl, by decide +kernel, rfl, by decide +kernel, by decide +kernel⟩
theorem ok_Sets (T : Tx K mg) : Ok P w K mg base "_law_sets" 3 ["_law_pot_here", "_law_size"] spSets := by
  refine mkOk T.d_law_sets sc_Sets (fun _ _ _ _ _ _ us hl => match us, hl with | [_, _], _ => rfl) (fun vs H Q E h => by obtain ⟨p, n, rfl, _⟩ := h; rfl) (fun cdv A outer s H vs Q E f hr h => ?_)
  obtain ⟨p, n, rfl, hp, hn, q⟩ := h
  refine ⟨_, pss_cons (ps_set (i := 2) sc_Sets.nd rfl (Or.inl rfl) (pcall (ok_Dip T) (hr.mono (by decide)) (pa_cons (pv 0) (pa_cons pe_int pa_nil))))
    (pss_cons (ps_if (pt_cmpR op_eq (pv 2) pe_int (nomark _)) (pss_one (ps_ret (pe_lst pa_nil))) pss_nil)
    (pss_cons (ps_if (pt_cmpR op_eq (pv 2) pe_int (nomark _)) (pss_one (ps_ret (pe_lst (pa_cons (pe_tup pa_nil) pa_nil)))) pss_nil)
    (pss_cons (ps_par (i := 3) (j := 4) (by rfl) sc_Sets.nd rfl rfl (by decide) rfl rfl (pa_cons (pcall (ok_Subs T) (hr.mono (by decide)) (pa_cons (pv 1) pa_nil)) (pa_cons (pe_lst pa_nil) pa_nil)) (by rfl))
    (pss_cons (ps_for PassesOwn.never rfl (pi_range1 rfl T.f_range (pa_cons (pe_op op_add pe_int (pcall (ok_Dip T) (hr.mono (by decide)) (pa_cons (pv 0) (pa_cons pe_int pa_nil)))) pa_nil)) (pg_name (i := 5) sc_Sets.nd rfl (Or.inl rfl))
      (pss_one (ps_expr (pe_bm PySem.F.plainAttrs_list PySem.F.slot_list_append PySem.F.type_list_append mt_append (pv 4) (pa_cons (pcall (ok_Pick T) hr (pa_cons (pv 0) (pa_cons (pv 3) pa_nil))) pa_nil)))))
    (pss_one (ps_ret (pv 4))))))), ?_⟩
  obtain ⟨x, y, z, hpe⟩ := id hp
  refine ⟨_, rfl, p, 12, x, y, z, rfl, hpe, by decide, by decide, fun r x1 y1 z1 h0 h12 => ?_⟩
  have s1 : SP p H (upd H p (.lst [.int x1, .int y1, .int z1])) := sp_upd
  have np : ∀ {b : Addr}, (upd H p (.lst [.int x1, .int y1, .int z1])) b = none → H b = none := fun h => s1.none hp h
  refine ⟨_, rfl, rfl, _, rfl, ?_⟩
  by_cases hr0 : V.int r = V.int 0
  · rw [decide_eq_true hr0]
    refine iteT ⟨bigle (by decide), fun l hl => ?_⟩
    exact q _ l [] (sp_mut s1 hp (np hl)) (np hl) ⟨[], upd_same, .nil⟩ (fun k hk => nomatch hk) (by decide)
  rw [decide_eq_false hr0]
  refine iteF ⟨_, rfl, rfl, _, rfl, ?_⟩
  by_cases hr1 : V.int r = V.int 1
  · rw [decide_eq_true hr1]
    refine iteT ⟨bigle (by decide), fun t ht => ⟨bigle (by show 1 ≤ _; decide), fun l hl => ?_⟩⟩
    have s2 := sp_mut (o := .tup []) s1 hp (np ht)
    refine q _ l [[]] (sp_mut s2 hp (s2.none hp hl)) (s2.none hp hl) ⟨[.ref t], upd_same, .cons ⟨t, rfl, ?_⟩ .nil⟩ (fun k hk => ?_) (by decide)
    · show upd _ l _ t = _
      rw [upd_ne (ne_of_none upd_same hl), upd_same]
      rfl
    · rw [List.mem_singleton.mp hk]
      exact ⟨List.Pairwise.nil, fun _ h => nomatch h⟩
  rw [decide_eq_false hr1]
  refine iteF ?_
  refine ⟨_, rfl, n, rfl, hn, fun H2 e s2 he hE => ⟨bigle (by decide), fun l hl => ?_⟩⟩
  have s12 : SP p H H2 := s1.trans (sp_same s1.pot s2)
  have hlH : H l = none := s12.none hp hl
  refine ⟨_, _, rfl, ?_⟩
  obtain ⟨H3, eH3⟩ : ∃ H3, H3 = upd H2 l (.lst []) := ⟨_, rfl⟩
  rw [← eH3]
  have s3 : SP p H H3 := eH3 ▸ sp_mut s12 hp hlH
  have hE3 : LL H3 e (subs n) := by rw [eH3]; exact hE.go (same_new hl)
  have hl3 : H3 l = some (.lst []) := by rw [eH3]; exact upd_same
  obtain ⟨x3, y3, z3, hp3⟩ := s3.pot
  refine ⟨_, rfl, p, 7, x3, y3, z3, rfl, hp3, by decide, by decide, fun r2 x4 y4 z4 g0 g7 => ⟨_, _, rfl, rfl, _, rfl, by omega, by omega, ?_⟩⟩
  have s4 : SP p H (upd H3 p (.lst [.int x4, .int y4, .int z4])) := sp_dip s3
  have s34 : SP p H3 (upd H3 p (.lst [.int x4, .int y4, .int z4])) := sp_upd
  have hlen := subs_few hn
  refine for_it (n := (1 + r2).toNat) walk_rng (fun i σ H5 => ∃ d ks, σ = [some (V.ref p), some (V.int n), some (V.int r), some (V.ref e), some (V.ref l), d] ∧ SP p H H5 ∧ LL H5 e (subs n) ∧ LL H5 l ks ∧ (∀ k ∈ ks, On n k) ∧ ks.length = i)
    ⟨_, [], rfl, s4, s34.ll s3.pot hE3, s34.ll s3.pot ⟨[], hl3, .nil⟩, ⟨(fun k hk => by cases hk), rfl⟩⟩ (fun _ _ _ _ _ => trivial) (fun i x σ H5 H6 hi hP y => ?_) (fun σ H5 hP => ?_)
  · obtain ⟨d, ks, rfl, s5, hE5, ⟨ws, hws, rw5⟩, hon, hkl⟩ := hP
    obtain ⟨rfl, rfl⟩ := y
    refine ⟨_, rfl, .inl ⟨rfl, _, SqL.of hws⟩, _, rfl, _, rfl, p, e, subs n, rfl, s5.pot, hE5, ?_, by omega, fun H7 b k s7 hk hb => ?_⟩
    · rw [subs_len]
      exact Nat.two_pow_pos n
    have s57 := s5.trans s7
    have hll : LL H7 l ks := s7.ll s5.pot ⟨ws, hws, rw5⟩
    obtain ⟨ws7, hws7, rw7⟩ := hll
    have hwl : ks.length = ws7.length := Paired.length rw7
    refine ⟨l, ws7, _, rfl, rfl, hws7, big (by omega), ?_⟩
    have ts : TupS H7 (upd H7 l (.lst (ws7 ++ [V.ref b]))) := tups_upd hws7 fun _ z => nomatch z
    have hel : e ≠ l := by
      rintro rfl
      obtain ⟨us2, hus2, _⟩ := hE
      have h4 : H2 e = none := hl
      rw [h4] at hus2
      cases hus2
    refine ⟨_, ks ++ [k], rfl, sp_mut s57 hp hlH, ?_, ⟨_, upd_same, rts_app (rts_go ts rw7) (.cons ⟨b, rfl, ts _ _ hb⟩ .nil)⟩, fun k' hk' => ?_, by rw [List.length_append, hkl]; rfl⟩
    · obtain ⟨us, hus, ru⟩ := s7.ll s5.pot hE5
      exact ⟨us, by rw [upd_ne hel]; exact hus, rts_go ts ru⟩
    · rcases List.mem_append.mp hk' with h | h
      · exact hon k' h
      · rw [List.mem_singleton.mp h]
        exact mem_subs.mp hk
  · obtain ⟨d, ks, rfl, s5, _, hll, hon, hkl⟩ := hP
    exact ⟨_, rfl, q H5 l ks s5 hlH hll hon (by omega)⟩
end
end K41

/-! K41V -/
/-! Own in, own !=, str(x), list(x) of instances with slots. -/
namespace K41
open PySem PySem.Spec PyProof.Rows L2
section
variable {prog : Program} {w : World} {A : Around} {E : Value → Shared → Prop} {s : Shared} {K : PySem.W.Frag} {x C f : Addr} {ox : Obj} {od : Option Obj}
theorem contains_own {y : Value} {Q : Bool → Shared → Prop} (X : K.In s.heap) (I : PySem.W.InstAt s.heap x ox C od) (hs : PySem.W.findIn K (.ref C) "__contains__" = some (some (.ref f))) (hf : PySem.W.isFn K (.ref f) = true)
    (h : wpAny (model prog w) A (call (.ref f) [.ref x, y]) (fun v s' => ∃ b, v = .bool b ∧ Q b s') E s) : wpAny (model prog w) A (contains (.ref x) y) Q E s := by
  unfold contains
  refine wpAny_holding ?_
  refine wpAny_bind (wpAny_bind (I.type.here ((PySem.W.looks_findIn X hs).here ?_)))
  show wpAny _ _ (if (some (Value.ref f) == some Value.none) = true then _ else _) _ E s
  rw [if_neg (show ¬ ((some (Value.ref f) == some Value.none) = true) from Bool.false_ne_true)]
  refine wpAny_bind (m := callSpecialUnlessNone? (.ref x) (Str.ofString "__contains__") [y] _) ?_
  unfold callSpecialUnlessNone?
  refine wpAny_bind (wpAny_bind (I.type.here ((PySem.W.looks_findIn X hs).here (wpAny_holding (wpAny_bind ((PySem.W.bind_fn X _ (beq_iff_eq.mp hf)).here ?_))))))
  show wpAny _ _ (if (Value.ref f == Value.none) = true then _ else _) _ E s
  rw [if_neg (show ¬ ((Value.ref f == Value.none) = true) from Bool.false_ne_true)]
  refine wpAny_bind (wpAny_mono h (fun v s' hv => ?_) fun _ _ z => z)
  obtain ⟨b, rfl, hq⟩ := hv
  exact wpAny_pure (wpAny_truthy_bool hq)
theorem ne_own {b tb : Value} {Q : Value → Shared → Prop} (hu : A.units + 1 < cLine) (X : K.In s.heap) (I : PySem.W.InstAt s.heap x ox C od) (hb : PySem.W.Looks (model prog w) s.heap (typeOf b) tb) (hn : PySem.W.notFirst K C tb = true)
    (hm : PySem.W.mroIn K C (.type "object") = some true) (hs : PySem.W.findIn K (.ref C) "__ne__" = some (some (.builtin "object.__ne__"))) (he : PySem.W.findIn K (.ref C) "__eq__" = some (some (.ref f))) (hf : PySem.W.isFn K (.ref f) = true)
    (h : wpAny (model prog w) A.in1 (call (.ref f) [.ref x, b]) (fun v s' => ∃ k, v = .bool k ∧ Q (.bool (!k)) s') E s) : wpAny (model prog w) A (richCompare .NotEq (.ref x) b) Q E s := by
  have body : wpAny (model prog w) A (call (.builtin "object.__ne__") [.ref x, b]) (fun v s' => ∃ k, v = .bool k ∧ Q (.bool k) s') E s := by
    refine wpAny_call (codeAny_call_builtin PySem.F.slot_object_ne.plain PySem.F.cmpEntry_ne (PySem.W.check_slot (i := "object.__ne__") (owner := "object") (n := "__ne__") PySem.F.cmpKind_ne PySem.F.cmpSplit_ne (I.type.andThen (PySem.W.looks_mroIn X hm)) (PySem.F.cmpArgs_ne _ _) ?_))
    unfold Builtin.«object.__ne__»
    refine wpAny_bind (m := slotArgs "__ne__" 1 _) (wpAny_pure ?_)
    refine wpAny_bind (m := cRoomFor _ _) (wpAny_cRoomFor hu ?_)
    refine wpAny_bind (m := callSpecialIfBound? (.ref x) (Str.ofString "__eq__") [b]) (PySem.W.ifBound_K X I he hf (wpAny_mono h (fun v s' hv => ?_) fun _ _ z => z))
    obtain ⟨k, rfl, hq⟩ := hv
    exact wpAny_bind (wpAny_truthy_bool (wpAny_pure ⟨_, rfl, hq⟩))
  have spec : wpAny (model prog w) A (callSpecialIfBound? (.ref x) "__ne__" [b]) (fun r s' => ∃ v, r = some v ∧ ∃ k, v = .bool k ∧ Q (.bool k) s') E s := by
    simp only [callSpecialIfBound?, bindSpecialIfBound?]
    refine wpAny_holding (wpAny_bind (wpAny_bind (wpAny_bind (I.type.here ((PySem.W.looks_findIn X hs).here ?_)))))
    refine wpAny_bind (wpAny_askSetting (wpAny_ite ?_))
    have fin : wpAny (model prog w) A (call (.builtin "object.__ne__") ([.ref x] ++ [b]) >>= fun v => pure (some v)) (fun r s' => ∃ v, r = some v ∧ ∃ k, v = .bool k ∧ Q (.bool k) s') E s := wpAny_bind (wpAny_mono body (fun v s' h' => wpAny_pure ⟨v, rfl, h'⟩) fun _ _ h' => h')
    split
    · exact wpAny_bind ((PySem.W.Looks.of_pure (PySem.F.slot_object_ne.bind _)).here (wpAny_pure (by exact fin)))
    · exact wpAny_tryCatch (wpAny_bind ((PySem.W.Looks.of_pure (PySem.F.slot_object_ne.bind _)).here (wpAny_pure (by exact fin))))
  have one : wpAny (model prog w) A (tryCompare (.ref x) (cmpInfo .NotEq).2.1 b) (fun r s' => ∃ v, r = some v ∧ Q v s') E s := by
    unfold tryCompare
    refine wpAny_bind (wpAny_mono spec (fun r s' hv => ?_) fun _ _ e => e)
    obtain ⟨v, rfl, k, rfl, hq⟩ := hv
    exact wpAny_pure ⟨_, rfl, hq⟩
  unfold richCompare
  simp only [oneThing_ref]
  refine wpAny_holding (wpAny_bind (wpAny_cRoomFor (by omega) ?_))
  refine wpAny_bind (I.type.here (wpAny_bind (hb.here ?_)))
  split
  · rename_i q
    have e : PySem.W.subIn K tb (.ref C) = some false := by
      rcases Bool.or_eq_true_iff.mp hn with e | e
      · rw [beq_iff_eq.mp e] at q; simp at q
      · exact beq_iff_eq.mp e
    refine wpAny_bind ((PySem.W.looks_subIn X e).here ?_)
    simp only [Bool.false_eq_true, if_false]
    refine wpAny_bind (wpAny_mono one (fun r s' z => ?_) fun _ _ e => e)
    obtain ⟨v, rfl, hq⟩ := z
    exact wpAny_pure hq
  · refine wpAny_bind (wpAny_pure ?_)
    simp only [Bool.false_eq_true, if_false]
    refine wpAny_bind (wpAny_mono one (fun r s' z => ?_) fun _ _ e => e)
    obtain ⟨v, rfl, hq⟩ := z
    exact wpAny_pure hq
/-- a list's iterator at its end: its object stays -/
theorem next_endL {it l : Addr} {i : Nat} {items} {Q : Option Value → Shared → Prop} (hh : A.handled = none) (hit : s.heap.IsListIter it l i) (hl : s.heap.IsList l items) (hx : items[i]? = none)
    (hQ : ∀ h', Heap.ExtBut it s.heap h' → (∃ o, h'.get? it = some o) → Q none { s with heap := h' }) : wpAny (model prog w) A (pyNext (.ref it)) Q E s := by
  obtain ⟨o, ho, hc, hd⟩ := id hit
  obtain ⟨ol, hol, _, nl, hdl⟩ := hl
  unfold pyNext
  refine wpAny_bind (wpAny_attempt (wpAny_callSpecial?_slot (name := Str.ofString "__next__") hit.typeIs slot_listiter_next
    (wpAny_call_entry slot_listiter_next hit.typeIs entry_listiter_next ?_ (args_listiter_next _))))
  show wpAny _ _ (field (.ref it) 0 >>= _) _ _ s
  refine wpAny_bind (wpAny_field ho hd (x := .ref l) rfl ?_)
  show wpAny _ _ (if (Value.ref l == Value.none) = true then _ else _) _ _ s
  rw [if_neg (show ¬ ((Value.ref l == Value.none) = true) from Bool.false_ne_true)]
  show wpAny _ _ (field (.ref it) 1 >>= _) _ _ s
  refine wpAny_bind (wpAny_field ho hd (x := .int i 0) rfl ?_)
  show wpAny _ _ (seqItems? (.ref l) >>= _) _ _ s
  refine wpAny_bind (wpAny_seqItems hol hdl ?_)
  simp only [Int.toNat_natCast, hx]
  refine wpAny_bind (wpAny_rule (wpAny_bind (wpAny_setField ho hd (by simp) ?_)))
  show wpAny _ _ (newExc (.type "StopIteration") [] >>= _) _ _ _
  refine wpAny_bind ?_
  simp only [newExc, newTuple]
  refine wpAny_bind (wpAny_newObj_type ?_ (by size_fits))
  refine wpAny_bind (m := firstArgMember _ _) (wpAny_of_eq (a := Value.none) (by first | rfl | (simp only [firstArgMember]; rfl)) ?_)
  refine wpAny_newObj_type ?_ (by size_fits)
  simp only [raiseNew]
  refine wpAny_bind (wpAny_handled ?_)
  rw [show A.in1.handled = none from hh]
  refine wpAny_bind (wpAny_pure (wpAny_throw ?_))
  refine wpAny_bind (wpAny_isInstance (T := "StopIteration") (b := true) ⟨_, Heap.get?_push_size _ rfl, rfl⟩ isSubtype_stop ?_)
  have hself := Heap.get?_update_self (Obj.mapFields (·.setIfInBounds 0 Value.none)) ho (Obj.isFreed_of_fields (Obj.data_mapFields hd _))
  exact wpAny_pure (hQ _ (((Heap.SameBut.update ..).extBut.push _).push _) ⟨_, Heap.get?_push_of_some _ (Heap.get?_push_of_some _ hself)⟩)
end
end K41

/-! K41W -/
/-! The same as rules of the layer. -/
namespace K41
open PySem PySem.Spec PyProof.Rows L2
section
variable {X : Cx} {C g : Addr} {n : Nat} {sp : Sp}
/-- x in c by c's own __contains__ -/
def rInOwn (C : Addr) (sp : Sp) : R2 := fun x y H Q => ∃ a dx vs, y = .ref a ∧ SlX.Slt H a C dx vs ∧ sp [y, x] H (fun z H' => ∃ b, z = .bl b ∧ Q (.bl b) H') E0
theorem op_inOwn (hs : PySem.W.findIn X.K (.ref C) "__contains__" = some (some (.ref g))) (hf : PySem.W.isFn X.K (.ref g) = true) (F : FnR X.prog X.w X.K X.mg X.base CX0 n g sp) (hr : Room n X.A) : OpR X (compareOp .In) (rInOwn C sp) := by
  intro pins s σ H x y v u Q I rx ry h
  obtain ⟨a, dx, vs, rfl, ha, q⟩ := h
  cases (show u = Value.ref a from ry)
  obtain ⟨sl, od, _, J, _⟩ := SlX.slt_inst I ha
  show wpAny _ _ (contains (.ref a) v >>= fun b => pure (Value.bool b)) _ _ s
  refine wpAny_bind (contains_own I.kIn J hs hf (wpAny_mono (wpAny_call (run_fnR (us := [.ref a, v]) (vs := [.ref a, x]) F hr pass0 I (.cons rfl (.cons rx .nil)) q)) (fun w s' z => ?_) fun _ _ x => x))
  obtain ⟨z', H', I', rz, b, eb, qz⟩ := z
  subst eb
  cases (show w = Value.bool b from rz)
  exact ⟨b, rfl, wpAny_pure ⟨.bl b, H', I', rfl, qz⟩⟩
/-- x != y by x's own __eq__ -/
def rNeOwn (K : PySem.W.Frag) (C : Addr) (sp : Sp) : R2 := fun x y H Q => ∃ a dx vs b C' dy ws, x = .ref a ∧ y = .ref b ∧ SlX.Slt H a C dx vs ∧ SlX.Slt H b C' dy ws ∧ PySem.W.notFirst K C (.ref C') = true ∧ sp [x, y] H (fun z H' => ∃ k, z = .bl k ∧ Q (.bl (!k)) H') E0
theorem op_neOwn (hm : PySem.W.mroIn X.K C (.type "object") = some true) (hs : PySem.W.findIn X.K (.ref C) "__ne__" = some (some (.builtin "object.__ne__"))) (he : PySem.W.findIn X.K (.ref C) "__eq__" = some (some (.ref g))) (hf : PySem.W.isFn X.K (.ref g) = true)
    (F : FnR X.prog X.w X.K X.mg X.base CX0 n g sp) (hr : Room (n + 1) X.A) : OpR X (compareOp .NotEq) (rNeOwn X.K C sp) := by
  intro pins s σ H x y v u Q I rx ry h
  obtain ⟨a, dx, vs, b, C', dy, ws, rfl, rfl, ha, hb, hn, q⟩ := h
  cases (show v = Value.ref a from rx)
  cases (show u = Value.ref b from ry)
  obtain ⟨sl, od, _, J, _⟩ := SlX.slt_inst I ha
  obtain ⟨sl', od', _, J', _⟩ := SlX.slt_inst I hb
  show wpAny _ _ (richCompare .NotEq (.ref a) (.ref b)) _ _ s
  refine ne_own (tb := .ref C') (by have := hr.units; omega) I.kIn J J'.type hn hm hs he hf ?_
  refine wpAny_mono (wpAny_call (SlX.run_at (us := [.ref a, .ref b]) (ws := [.ref a, .ref b]) F hr.in1 I.env0.in1 pass0 I (.cons rfl (.cons rfl .nil)) q)) (fun w s' z => ?_) fun _ _ x => x
  obtain ⟨z', H', I', rz, k, ek, qz⟩ := z
  subst ek
  cases (show w = Value.bool k from rz)
  exact ⟨k, rfl, .bl (!k), H', I', rfl, qz⟩
/-- str(x) by x's own __str__ -/
def rStrOwn (C : Addr) (sp : Sp) : List V → Hp → VK → Prop := fun xs H Q => ∃ a dx vs, xs = [V.ref a] ∧ SlX.Slt H a C dx vs ∧ sp [.ref a] H (fun z H' => ∃ y, z = .str y ∧ Q z H') E0
theorem crStrOwn (hs : PySem.W.findIn X.K (.ref C) "__str__" = some (some (.ref g))) (hf : PySem.W.isFn X.K (.ref g) = true) (F : FnR X.prog X.w X.K X.mg X.base CX0 n g sp) (hr : Room (n + 2) X.A) : CallR X (.type "str") (rStrOwn C sp) := by
  intro pins s σ H xs us Q I r h
  obtain ⟨a, dx, vs, rfl, hsl, q⟩ := h
  obtain ⟨u, rfl, ru⟩ := r.one
  cases (show u = Value.ref a from ru)
  obtain ⟨sl, od, _, J, _⟩ := SlX.slt_inst I hsl
  have hr2 : Room n X.A.in1.in1 := (show Room (n + 1) X.A.in1 from Room.in1 hr).in1
  refine PySem.W.kso_call hr2.units0 I.kIn J hs hf (wpAny_mono (wpAny_call (SlX.run_at (us := [.ref a]) (ws := [.ref a]) F hr2 I.env0.in1.in1 pass0 I (.cons rfl .nil) q)) (fun w s' z => ?_) fun _ _ x => x)
  obtain ⟨z', H', I', rz, y, ey, qz⟩ := z
  subst ey
  obtain ⟨t, e⟩ := (show ∃ t, w = Value.str y t from rz)
  cases e
  exact ⟨.str y, H', I', ⟨t, rfl⟩, qz⟩
end

/-! ### list(x), x's own __iter__ an iterator over a list -/
/-- at it an iterator over the list at l, the next place is i; some object -/
def ItL (l it : Addr) (i : Nat) : HO := .ext fun h => h.IsListIter it l i
def ItW (it : Addr) : HO := .ext fun h => ∃ o, h.get? it = some o
theorem itW_ok {P : Program} {w : World} {H : Hp} {h : Heap} {it : Addr} (e : ∃ o, h.get? it = some o) : ObjOk P w H h it (ItW it) := ⟨e, e, fun h1 h2 q k => by
  obtain ⟨o, z⟩ := q
  exact ⟨o, k _ z⟩⟩
theorem itL_ok {P : Program} {w : World} {H : Hp} {h : Heap} {l it : Addr} {i : Nat} (e : h.IsListIter it l i) : ObjOk P w H h it (ItL l it i) := ⟨e, by obtain ⟨o, z, _⟩ := e; exact ⟨o, z⟩, fun h1 h2 q k => by
  obtain ⟨o, z, r⟩ := q
  exact ⟨o, k _ z, r⟩⟩
section
variable {X : Cx} {pins : List (Addr × Obj)} {σ : L2.St}
theorem itL_get {H : Hp} {s : Shared} {l it : Addr} {i : Nat} (I : Inv X pins σ H s) (e : H it = some (ItL l it i)) : s.heap.IsListIter it l i := (I.hok it _ e).1
theorem list_loop {A1 : Around} {q it l : Addr} {zs : List V} {Rs : Result → Shared → Prop} (hh : A1.in1.handled = none) (hz : zs.length ≤ 1000000) (hqi : q ≠ it) (hli : l ≠ it) (hlq : l ≠ q) :
    ∀ (k i : Nat) (H : Hp) (s : Shared), i + k = zs.length → Inv X pins σ H s → H it = some (ItL l it i) → H q = some (.lst (zs.take i)) → H l = some (.lst zs) →
    (∀ H' s', Inv X pins σ H' s' → (∀ b, b ≠ it → b ≠ q → H' b = H b) → H' q = some (.lst zs) → Rs (.ok (.ret .none)) s') →
    codeAny (model X.prog X.w) A1 (.builtin "list.extend.loop" ⟨[.ref q, .ref it, .none], []⟩) Rs s
  | 0, i, H, s, hk, I, hit, hq, hl, fin => by
    refine codeAny_builtin PySem.F.entry_extend_loop ?_
    rw [Around.under_plainId PySem.F.plain_extend_loop _]
    show wpAny _ A1.in1 (pyNext (.ref it) >>= _) _ _ s
    obtain ⟨its, rv, pl, _⟩ := I.list (SqL.of (K := X.K) hl)
    have hlen := rv.length
    have hi : i = zs.length := by omega
    refine wpAny_bind (next_endL hh (itL_get I hit) pl.isList (by simp; omega) fun h' eb ho => wpAny_pure ?_)
    refine fin _ _ (I.write (x := it) (e := it) (o := ItW it) (t' := s.toks) (by rw [hit]; exact True.intro) (.inl rfl) (fun b o nb z => eb b o nb z) ho (itW_ok ho)) (fun b nb _ => upd_ne nb) ?_
    rw [upd_ne hqi, hq, hi, List.take_length]
  | k + 1, i, H, s, hk, I, hit, hq, hl, fin => by
    refine codeAny_builtin PySem.F.entry_extend_loop ?_
    rw [Around.under_plainId PySem.F.plain_extend_loop _]
    show wpAny _ A1.in1 (pyNext (.ref it) >>= _) _ _ s
    obtain ⟨its, rv, pl, _⟩ := I.list (SqL.of (K := X.K) hl)
    have hlen := rv.length
    have hi : i < zs.length := by omega
    obtain ⟨u, hu, ru⟩ := rv.get (List.getElem?_eq_getElem hi)
    refine wpAny_bind (wpAny_pyNext_list_item (itL_get I hit) pl.isList (x := u) (by rw [List.getElem?_toArray]; exact hu) fun h' hit' sb => ?_)
    have I1 : Inv X pins σ (upd H it (ItL l it (i + 1))) { s with heap := h' } := I.write (x := it) (e := it) (o := ItL l it (i + 1)) (t' := s.toks) (by rw [hit]; exact True.intro) (.inl rfl) (fun b o nb z => (sb.2 b nb).trans z) (by obtain ⟨o, z, _⟩ := hit'; exact ⟨o, z⟩) (itL_ok hit')
    have hq1 : upd H it (ItL l it (i + 1)) q = some (.lst (zs.take i)) := by rw [upd_ne hqi]; exact hq
    show wpAny _ A1.in1 (updateSeq q (·.push u) >>= _) _ _ _
    obtain ⟨z, its2, n2, r2, hl2, e⟩ := I1.lstM hq1
    have htl : (zs.take i).length = i := by rw [List.length_take]; omega
    have hb : i < sizeLine := big (by omega)
    refine wpAny_bind (wpAny_updateSeq e rfl (wpAny_pure ⟨plainId_quiet PySem.F.plain_extend_loop _, ?_⟩) (by rw [List.size_toArray]; omega) (by show (its2.toArray.push u).size ≤ sizeLine + 1; rw [Array.size_push, List.size_toArray]; omega))
    have et : zs.take (i + 1) = zs.take i ++ [zs[i]] := by
      rw [List.take_add_one, List.getElem?_eq_getElem hi]
      rfl
    refine list_loop hh hz hqi hli hlq k (i + 1) _ _ (by omega) (I1.lset (its' := its2 ++ [u]) (ys := zs.take (i + 1)) (t' := s.toks) hq1 e (by simp) (by rw [et]; exact r2.append (.cons ru .nil)) (by rw [List.length_take]; omega)) (by rw [upd_ne (Ne.symm hqi), upd_same]) upd_same (by rw [upd_ne hlq, upd_ne hli]; exact hl) fun H' s' I' kp hq' => ?_
    exact fin H' s' I' (fun b n1 n2 => by rw [kp b n1 n2, upd_ne n2, upd_ne n1]) hq'
end
end K41

/-! K41G5 -/
/-! Properties and methods of lots and families. -/
namespace K41
open PySem PySem.Spec PyProof.Rows L2
/-- what the classes have from object -/
structure Ts (K : PySem.W.Frag) : Prop where
  nL : PySem.W.findIn K (.ref (ga K "Lot")) "__ne__" = some (some (.builtin "object.__ne__"))
  nF : PySem.W.findIn K (.ref (ga K "Family")) "__ne__" = some (some (.builtin "object.__ne__"))
section
variable {P : Program} {w : World} {K : PySem.W.Frag} {mg : Str → Option Value} {base : Heap}
/-! ### properties -/
def spLet (K : PySem.W.Frag) : Sp := fun vs H Q _ => ∃ x n M, vs = [.ref x] ∧ LotAt K H x n M ∧ Q (.int n) H
theorem sc_Let : FnScope ["self"] ["self"] (defScope (mth 42 3)) := ⟨rfl, rfl, rfl, by decide +kernel, rfl, by decide +kernel, by decide +kernel⟩
theorem ok_Let (C : Tc K mg) : FnR P w K mg base CX0 1 (pg K "Lot" "letters") (spLet K) := by
  refine mkM C.pL0.fn sc_Let (fun _ _ _ _ _ _ us hl => match us, hl with | [_], _ => rfl) (fun vs H Q E h => by obtain ⟨a, k, v, rfl, _⟩ := h; rfl) (fun cdv A outer s H vs Q E hr h => ?_)
  obtain ⟨x, n, M, rfl, ⟨dx, t, hs, hM⟩, q⟩ := h
  exact ⟨_, pss_one (ps_ret (SlX.pe_sl (pv 0))), _, rfl, x, _, dx, _, _, 0, _, rfl, hs, C.LO.sc, C.sL0, rfl, q⟩
def spMem (K : PySem.W.Frag) : Sp := fun vs H Q _ => ∃ x n M, vs = [.ref x] ∧ LotAt K H x n M ∧ ∀ t, TL H t M → Q (.ref t) H
theorem sc_Mem : FnScope ["self"] ["self"] (defScope (mth 42 4)) := ⟨rfl, rfl, rfl, by decide +kernel, rfl, by decide +kernel, by decide +kernel⟩
theorem ok_Mem (C : Tc K mg) : FnR P w K mg base CX0 1 (pg K "Lot" "members") (spMem K) := by
  refine mkM C.pL1.fn sc_Mem (fun _ _ _ _ _ _ us hl => match us, hl with | [_], _ => rfl) (fun vs H Q E h => by obtain ⟨a, k, v, rfl, _⟩ := h; rfl) (fun cdv A outer s H vs Q E hr h => ?_)
  obtain ⟨x, n, M, rfl, ⟨dx, t, hs, hM⟩, q⟩ := h
  exact ⟨_, pss_one (ps_ret (SlX.pe_sl (pv 0))), _, rfl, x, _, dx, _, _, 1, _, rfl, hs, C.LO.sc, C.sL1, rfl, q t hM⟩
def spCor (K : PySem.W.Frag) : Sp := fun vs H Q _ => ∃ x n L M, vs = [.ref x] ∧ FamAt K H x n L M ∧ Q (.int n) H
theorem sc_Cor : FnScope ["self"] ["self"] (defScope (mth 60 2)) := ⟨rfl, rfl, rfl, by decide +kernel, rfl, by decide +kernel, by decide +kernel⟩
theorem ok_Cor (C : Tc K mg) : FnR P w K mg base CX0 1 (pg K "Family" "corners") (spCor K) := by
  refine mkM C.pF0.fn sc_Cor (fun _ _ _ _ _ _ us hl => match us, hl with | [_], _ => rfl) (fun vs H Q E h => by obtain ⟨a, k, L, v, rfl, _⟩ := h; rfl) (fun cdv A outer s H vs Q E hr h => ?_)
  obtain ⟨x, n, L, M, rfl, ⟨dx, d, t, l, hs, _⟩, q⟩ := h
  exact ⟨_, pss_one (ps_ret (SlX.pe_sl (pv 0))), _, rfl, x, _, dx, _, _, 0, _, rfl, hs, C.FA.sc, C.sF0, rfl, q⟩
def spSqf (K : PySem.W.Frag) : Sp := fun vs H Q _ => ∃ x n M, vs = [.ref x] ∧ LotAt K H x n M ∧ M.length ≤ 100 ∧ (∀ m ∈ M, 0 < m.length ∧ ∀ z ∈ m, z ≤ 1) ∧ ∀ H', Same H H' → Q (.bl true) H'
theorem sc_Sqf : FnScope ["self", "member"] ["self"] (defScope (mth 42 7)) := ⟨rfl, rfl, rfl, by decide +kernel, rfl, by decide +kernel, by decide +kernel⟩
theorem ok_Sqf (T : Tx K mg) (C : Tc K mg) : FnR P w K mg base CX0 1 (pg K "Lot" "is_squarefree") (spSqf K) := by
  refine mkM C.pLs.fn sc_Sqf (fun _ _ _ _ _ _ us hl => match us, hl with | [_], _ => rfl) (fun vs H Q E h => by obtain ⟨a, k, v, rfl, _⟩ := h; rfl) (fun cdv A outer s H vs Q E hr h => ?_)
  obtain ⟨x, n, M, rfl, ⟨dx, t, hs, ws, hM, pr⟩, hz, hin, q⟩ := h
  refine ⟨_, pss_one (ps_ret (pe_callB (crAll K rfl) (by rfl) T.f_all (by decide +kernel) (pa_cons (pe_lc (own := [("member", 1)]) (g := gName 1) (tt := tYes) rfl sc_Sqf.nd (pi_tK K (SlX.pe_sl (pv 0)))
    (blkOk_by (N := ["self", "member"]) (sc := defScope (mth 42 7)) (by decide +kernel)) (fun _ _ _ _ _ => pg_name (i := 1) sc_Sqf.nd rfl (Or.inl rfl)) (fun _ _ _ _ _ => pts_nil)
    (fun _ _ _ _ _ => pe_cmpR op_le (pe_callB (crMaxT K rfl) (by rfl) T.f_max (by decide +kernel) (pa_cons (pv 1) pa_nil)) pe_int (nomark _))) pa_nil))), ?_⟩
  refine ⟨_, rfl, x, _, dx, _, _, 1, _, rfl, hs, C.LO.sc, C.sL1, rfl, t, rfl, ⟨ws, SqT.of hM⟩, fun D hD => ?_⟩
  refine lc_fromM (xs := ws) (ks := M) RT RB (fun _ _ _ _ _ r => r) (fun _ => true) walk_tup (fun H1 s => SqT.of (s _ _ hM)) pr hD (by omega) (fun k0 y H1 Kk hk sm r hk1 => ?_) (fun H1 ys sm hy pr2 => ?_)
  · obtain ⟨c, rfl, hc0⟩ := r
    refine ⟨rfl, .ref c, rfl, c, k0, rfl, SqT.of (sm _ _ hc0), (hin k0 hk).1, fun m hm _ => ?_⟩
    refine ⟨m, 1, rfl, rfl, hk1 _ _ (Same.refl _) ?_⟩
    show V.bl _ = V.bl _
    rw [decide_eq_true ((hin k0 hk).2 m hm)]
  · have e := rb_list pr2
    subst e
    refine ⟨D, _, rfl, SqL.of hy, ?_⟩
    rw [all_true _ (fun b hb => by obtain ⟨_, _, e⟩ := List.mem_map.mp hb; exact e.symm)]
    exact q _ sm
/-! ### in -/
def spCont (K : PySem.W.Frag) : Sp := fun vs H Q _ => ∃ x n M b p, vs = [.ref x, .ref b] ∧ LotAt K H x n M ∧ IT H b p ∧ p.length = n ∧ n ≤ 100 ∧ (∀ m ∈ M, m.length = n) ∧ M.length ≤ 100 ∧ inB 60 p = true ∧ ∀ H', Same H H' → Q (.bl (M.any fun m => dv m p)) H'
theorem sc_Cont : FnScope ["self", "value"] ["self", "value"] (defScope (mth 42 13)) := ⟨rfl, rfl, rfl, by decide +kernel, rfl, by decide +kernel, by decide +kernel⟩
theorem ok_Cont (T : Tx K mg) (C : Tc K mg) : FnR P w K mg base CX0 4 (ma K (ga K "Lot") "__contains__") (spCont K) := by
  refine mkM C.mLc.fn sc_Cont (fun _ _ _ _ _ _ us hl => match us, hl with | [_, _], _ => rfl) (fun vs H Q E h => by obtain ⟨a, k, v, b, p, rfl, _⟩ := h; rfl) (fun cdv A outer s H vs Q E hr h => ?_)
  obtain ⟨x, n, M, b, p, rfl, ⟨dx, t, hs, hM⟩, hb, hp, hn, hl, hz, hin, q⟩ := h
  refine ⟨_, pss_one (ps_ret (pe_and (pcall (ok_In T) hr (pa_cons (SlX.pe_sl (pv 0)) (pa_cons (pv 1) pa_nil))) (pe_one (pcall (ok_Has T) (hr.mono (by decide)) (pa_cons (SlX.pe_sl (pv 0)) (pa_cons (pv 1) pa_nil)))))), ?_⟩
  refine ⟨_, rfl, x, _, dx, _, _, 0, _, rfl, hs, C.LO.sc, C.sL0, rfl, _, rfl, b, p, by rw [hp], hb, by omega, fun H1 s1 => ?_⟩
  rw [hin]
  refine ⟨true, rfl, iteT ?_⟩
  exact ⟨_, rfl, x, _, dx, _, _, 1, _, rfl, slt_go hs s1, C.LO.sc, C.sL1, rfl, _, rfl, t, b, M, p, rfl, hM.go (tups_of s1), s1 _ _ hb, fun m hm => by rw [hl m hm, hp], by omega, by omega, fun H2 s2 => q H2 (s1.trans s2)⟩
/-! ### ==, of the same -/
def spLEq (K : PySem.W.Frag) : Sp := fun vs H Q _ => ∃ x y n M, vs = [.ref x, .ref y] ∧ LotAt K H x n M ∧ LotAt K H y n M ∧ Q (.bl true) H
theorem sc_LEq : FnScope ["self", "other"] ["self", "other"] (defScope (mth 42 14)) := ⟨rfl, rfl, rfl, by decide +kernel, rfl, by decide +kernel, by decide +kernel⟩
theorem ok_LEq (T : Tx K mg) (C : Tc K mg) : FnR P w K mg base CX0 1 (ma K (ga K "Lot") "__eq__") (spLEq K) := by
  refine mkM C.mLe.fn sc_LEq (fun _ _ _ _ _ _ us hl => match us, hl with | [_, _], _ => rfl) (fun vs H Q E h => by obtain ⟨a, k, v, p, rfl, _⟩ := h; rfl) (fun cdv A outer s H vs Q E hr h => ?_)
  obtain ⟨x, y, n, M, rfl, ⟨dx, t, hs, hM⟩, ⟨dy, u, hu, hN⟩, q⟩ := h
  refine ⟨_, pss_cons (ps_if (pt_not (pt_val (pe_callB (crIsi2 K (.ref (ga K "Lot"))) (by rfl) T.f_isinstance (by decide +kernel) (pa_cons (pv 1) (pa_cons (pe_glob (v := .ref (ga K "Lot")) (by rfl) C.LO.gl rfl) pa_nil))))) (pss_one ps_never) pss_nil)
    (pss_one (ps_ret (pe_and (pe_cmpR op_eq (SlX.pe_sl (pv 0)) (SlX.pe_sl (pv 1)) (nomark _)) (pe_one (pe_cmpR (op_eqK K hr.units) (SlX.pe_sl (pv 0)) (SlX.pe_sl (pv 1)) (nomark _)))))), ?_⟩
  refine ⟨_, rfl, isi_own hu C.LO.sc C.LO.si C.kLO ⟨true, rfl, iteF ?_⟩⟩
  refine ⟨_, rfl, x, _, dx, _, _, 0, _, rfl, hs, C.LO.sc, C.sL0, rfl, _, rfl, y, _, dy, _, _, 0, _, rfl, hu, C.LO.sc, C.sL0, rfl, rfl, ?_⟩
  rw [decide_eq_true rfl]
  refine ⟨true, rfl, iteT ?_⟩
  refine ⟨_, rfl, x, _, dx, _, _, 1, _, rfl, hs, C.LO.sc, C.sL1, rfl, _, rfl, y, _, dy, _, _, 1, _, rfl, hu, C.LO.sc, C.sL1, rfl, eq_tl hM hN ?_⟩
  rw [decide_eq_true rfl]
  exact q
def spFEq (K : PySem.W.Frag) : Sp := fun vs H Q _ => ∃ x y n L L' M, vs = [.ref x, .ref y] ∧ FamAt K H x n L M ∧ FamAt K H y n L' M ∧ Q (.bl true) H
theorem sc_FEq : FnScope ["self", "other"] ["self", "other"] (defScope (mth 60 13)) := ⟨rfl, rfl, rfl, by decide +kernel, rfl, by decide +kernel, by decide +kernel⟩
theorem ok_FEq (T : Tx K mg) (C : Tc K mg) : FnR P w K mg base CX0 1 (ma K (ga K "Family") "__eq__") (spFEq K) := by
  refine mkM C.mFe.fn sc_FEq (fun _ _ _ _ _ _ us hl => match us, hl with | [_, _], _ => rfl) (fun vs H Q E h => by obtain ⟨a, k, v, p, r, t, rfl, _⟩ := h; rfl) (fun cdv A outer s H vs Q E hr h => ?_)
  obtain ⟨x, y, n, L, L', M, rfl, ⟨dx, d, t, l, hs, _, hM, _⟩, ⟨dy, d', u, l', hu, _, hN, _⟩, q⟩ := h
  refine ⟨_, pss_cons (ps_if (pt_not (pt_val (pe_callB (crIsi2 K (.ref (ga K "Family"))) (by rfl) T.f_isinstance (by decide +kernel) (pa_cons (pv 1) (pa_cons (pe_glob (v := .ref (ga K "Family")) (by rfl) C.FA.gl rfl) pa_nil))))) (pss_one ps_never) pss_nil)
    (pss_one (ps_ret (pe_and (pe_cmpR op_eq (SlX.pe_sl (pv 0)) (SlX.pe_sl (pv 1)) (nomark _)) (pe_one (pe_cmpR (op_eqK K hr.units) (SlX.pe_sl (pv 0)) (SlX.pe_sl (pv 1)) (nomark _)))))), ?_⟩
  refine ⟨_, rfl, isi_own hu C.FA.sc C.FA.si C.kFA ⟨true, rfl, iteF ?_⟩⟩
  refine ⟨_, rfl, x, _, dx, _, _, 0, _, rfl, hs, C.FA.sc, C.sF0, rfl, _, rfl, y, _, dy, _, _, 0, _, rfl, hu, C.FA.sc, C.sF0, rfl, rfl, ?_⟩
  rw [decide_eq_true rfl]
  refine ⟨true, rfl, iteT ?_⟩
  refine ⟨_, rfl, x, _, dx, _, _, 2, _, rfl, hs, C.FA.sc, C.sF2, rfl, _, rfl, y, _, dy, _, _, 2, _, rfl, hu, C.FA.sc, C.sF2, rfl, eq_tl hM hN ?_⟩
  rw [decide_eq_true rfl]
  exact q
/-! ### iter, len of a family -/
def spFIt (K : PySem.W.Frag) : Sp := fun vs H Q _ => ∃ x dx v0 v1 v2 l zs, vs = [.ref x] ∧ SlX.Slt H x (ga K "Family") dx [v0, v1, v2, some (.ref l)] ∧ H l = some (.lst zs) ∧ ∀ it, H it = none → Q (.ref it) (upd H it (ItO l it 0))
theorem sc_FIt : FnScope ["self"] ["self"] (defScope (mth 60 12)) := ⟨rfl, rfl, rfl, by decide +kernel, rfl, by decide +kernel, by decide +kernel⟩
theorem ok_FIt (T : Tx K mg) (C : Tc K mg) : FnR P w K mg base CX0 1 (ma K (ga K "Family") "__iter__") (spFIt K) := by
  refine mkM C.mFi.fn sc_FIt (fun _ _ _ _ _ _ us hl => match us, hl with | [_], _ => rfl) (fun vs H Q E h => by obtain ⟨a, k, v0, v1, v2, l, zs, rfl, _⟩ := h; rfl) (fun cdv A outer s H vs Q E hr h => ?_)
  obtain ⟨x, dx, v0, v1, v2, l, zs, rfl, hs, hl, q⟩ := h
  refine ⟨_, pss_one (ps_ret (pe_callB call_iterL (by rfl) T.f_iter (by decide +kernel) (pa_cons (SlX.pe_sl (pv 0)) pa_nil))), ?_⟩
  exact ⟨_, rfl, x, _, dx, _, _, 3, _, rfl, hs, C.FA.sc, C.sF3, rfl, l, zs, rfl, SqL.of hl, q⟩
def spFLen (K : PySem.W.Frag) : Sp := fun vs H Q _ => ∃ x dx v0 v1 v2 l zs, vs = [.ref x] ∧ SlX.Slt H x (ga K "Family") dx [v0, v1, v2, some (.ref l)] ∧ H l = some (.lst zs) ∧ Q (.int zs.length) H
theorem sc_FLen : FnScope ["self"] ["self"] (defScope (mth 60 10)) := ⟨rfl, rfl, rfl, by decide +kernel, rfl, by decide +kernel, by decide +kernel⟩
theorem ok_FLen (T : Tx K mg) (C : Tc K mg) : FnR P w K mg base CX0 1 (ma K (ga K "Family") "__len__") (spFLen K) := by
  refine mkM C.mFl.fn sc_FLen (fun _ _ _ _ _ _ us hl => match us, hl with | [_], _ => rfl) (fun vs H Q E h => by obtain ⟨a, k, v0, v1, v2, l, zs, rfl, _⟩ := h; rfl) (fun cdv A outer s H vs Q E hr h => ?_)
  obtain ⟨x, dx, v0, v1, v2, l, zs, rfl, hs, hl, q⟩ := h
  refine ⟨_, pss_one (ps_ret (pe_callB (crLen K) (by rfl) T.f_len PySem.boot_len (pa_cons (SlX.pe_sl (pv 0)) pa_nil))), ?_⟩
  exact ⟨_, rfl, x, _, dx, _, _, 3, _, rfl, hs, C.FA.sc, C.sF3, rfl, l, zs, rfl, .inl (SqL.of hl), q⟩
end
end K41

/-! K41G6 -/
/-! list(family). -/
namespace K41
open PySem PySem.Spec PyProof.Rows L2
section
variable {X : Cx}
/-- a callee that raises nothing -/
theorem run_0 {A : Around} {pins : List (Addr × Obj)} {σ : L2.St} {H : Hp} {s : Shared} {g : Addr} {n : Nat} {sp : Sp} {Q : VK} {us : List Value} {ws : List V} (F : FnR X.prog X.w X.K X.mg X.base CX0 n g sp) (hr : Room n A) (e0 : Env0 X.prog X.w X.K X.mg X.base A X.stack s H) (I : Inv X pins σ H s) (r : Vals ws us) (h : sp ws H Q E0) :
    wpAny (model X.prog X.w) A (call (.ref g) us) (EP X pins σ Q) (fun _ _ => False) s := by
  refine wpAny_call (codeAny_mono (F A X.stack s H us ws Q E0 hr e0 r h) fun r s' hq => ?_)
  cases r with
  | error e => exact hq
  | ok fl =>
    cases fl with
    | ret u => exact I.after hq
    | next => exact False.elim hq
    | brk => exact False.elim hq
    | cont => exact False.elim hq
theorem env_at {A : Around} {pins : List (Addr × Obj)} {σ : L2.St} {H : Hp} {s : Shared} (I : Inv X pins σ H s) (e0 : A.frames = X.A.frames) : Env0 X.prog X.w X.K X.mg X.base A X.stack s H := by
  have e := I.env0
  exact ⟨by rw [e0]; exact e.frames, e.mod, e.bs, e.bsz, e.funs, e.frf, e.hok, e.bare⟩
/-- what the length hint says -/
theorem fam_hint {pins : List (Addr × Obj)} {σ : L2.St} {H : Hp} {s : Shared} {A : Around} {E : Value → Shared → Prop} {Q : Bool → Shared → Prop} {x dx l : Addr} {v0 v1 v2 : Option V} {zs : List V} (T : Tx X.K X.mg) (C : Tc X.K X.mg) (hr : Room 2 A) (e0 : A.frames = X.A.frames) (I : Inv X pins σ H s)
    (hs : SlX.Slt H x (ga X.K "Family") dx [v0, v1, v2, some (.ref l)]) (hl : H l = some (.lst zs)) (hz : zs.length ≤ 1000000) (h : ∀ b s', Inv X pins σ H s' → Q b s') : wpAny (model X.prog X.w) A (Builtin.List.listLengthHint (.ref x)) Q E s := by
  obtain ⟨sl, od, _, J, _⟩ := SlX.slt_inst I hs
  obtain ⟨m0, hF⟩ := I.fr
  unfold Builtin.List.listLengthHint
  refine wpAny_bind (wpAny_bind (J.type.here ((PySem.W.looks_findIn I.kIn C.mFl.me.at_).here ?_)))
  refine PySem.W.KFB.if_not rfl ?_
  refine PySem.W.KFB.if_so rfl ?_
  refine wpAny_bind (wpAny_rule ?_)
  refine wpAny_bind (wpAny_attempt (wpAny_mono (PySem.W.len_K hF I.ok.mod.kin J C.mFl.me.at_ C.mFl.me.fn (wpAny_mono (run_0 (us := [.ref x]) (ws := [.ref x]) (ok_FLen T C) hr.in1 (env_at I e0).in1 I (.cons rfl .nil) (Q := fun z H' => z = .int zs.length ∧ H' = H) ⟨x, dx, v0, v1, v2, l, zs, rfl, hs, hl, rfl, rfl⟩) (fun u s' z => ?_) fun e s' he => he)) (fun _ _ z => z) fun _ _ z => z.elim))
  obtain ⟨z', H', I', rz, ez, eH⟩ := z
  subst ez eH
  obtain ⟨t, e⟩ := (show ∃ t, u = Value.int zs.length t from rz)
  cases e
  refine ⟨⟨by omega, by omega⟩, ?_⟩
  have htl : Builtin.List.listTooLong ((zs.length : Int).toNat) = false := by
    rw [Int.toNat_natCast]
    exact notLongL (bigle hz)
  refine wpAny_bind (m := asInt? _) (wpAny_pure ?_)
  exact wpAny_ite_split (fun hab => absurd hab (by rw [htl]; decide)) (fun _ => wpAny_pure (h _ _ (I'.tok _)))
/-- list(family) -/
def rListFam (K : PySem.W.Frag) : List V → Hp → VK → Prop := fun xs H Q => ∃ x dx v0 v1 v2 l zs, xs = [.ref x] ∧ SlX.Slt H x (ga K "Family") dx [v0, v1, v2, some (.ref l)] ∧ H l = some (.lst zs) ∧ zs.length ≤ 1000 ∧ ∀ H' q, Same H H' → H q = none → H' q = some (.lst zs) → Q (.ref q) H'
theorem crListFam (T : Tx X.K X.mg) (C : Tc X.K X.mg) (hr : Room 4 X.A) (hc : X.calm = true) : CallR X (.type "list") (rListFam X.K) := by
  intro pins s σ H xs us Q I rv h
  obtain ⟨x, dx, v0, v1, v2, l, zs, rfl, hs, hl, hz, hQ⟩ := h
  obtain ⟨u, rfl, ru⟩ := rv.one
  cases (show u = Value.ref x from ru)
  refine callType_codes (Q₁ := fun obj s₁ => obj = .ref s.heap.objs.size ∧ s₁ = { s with heap := s.heap.push { cls := .type "list", data := .seq #[] } }) PySem.F.called_list (PySem.F.typeCall_list_1 _) PySem.F.entry_list_init
    (code_list_new _ ⟨rfl, rfl⟩) fun obj s₁ h₁ => ?_
  obtain ⟨rfl, rfl⟩ := h₁
  have hS : (s.heap.push { cls := .type "list", data := .seq #[] }).get? s.heap.objs.size = some { cls := .type "list", data := .seq #[] } := Heap.get?_push_size _ rfl
  refine ⟨⟨_, hS, rfl⟩, PySem.F.args_list_init_2 _ _, ?_⟩
  have fr : H s.heap.objs.size = none := I.hok.fresh (Nat.le_refl _)
  generalize hqa : s.heap.objs.size = q at *
  have I1 : Inv X pins σ (upd H q (.lst [])) { s with heap := s.heap.push { cls := .type "list", data := .seq #[] } } := by
    rw [← hqa]
    exact I.lnew (its := []) (t' := s.toks) .nil (Nat.zero_le _)
  show wpAny _ _ (do let old ← Builtin.List.listItems (.ref q); Builtin.List.listUpdate (.ref q) (fun _ => #[]); letGo old.toList.reverse; Builtin.List.listExtendWith (.ref q) (.ref x) .none) _ _ _
  refine wpAny_bind ?_
  unfold Builtin.List.listItems
  refine wpAny_bind (wpAny_seqItems hS rfl (wpAny_pure ?_))
  show wpAny _ _ (updateSeq q (fun _ => #[]) >>= fun _ => letGo (#[] : Array Value).toList.reverse >>= fun _ => Builtin.List.listExtendWith (.ref q) (.ref x) .none) _ _ _
  refine wpAny_bind (wpAny_updateSeq hS rfl ?_)
  have I2 := I1.lset (f := fun _ => #[]) (its := []) (its' := []) (ys := []) (t' := s.toks) upd_same hS rfl .nil (Nat.zero_le _)
  rw [upd_upd] at I2
  refine wpAny_bind (wpAny_letGo ?_)
  have s1 : Same H (upd H q (.lst [])) := same_new fr
  have hs2 := slt_go hs s1
  have hl2 := s1 _ _ hl
  have hlq : l ≠ q := ne_of_none hl fr
  generalize hst : ({ s with heap := (s.heap.push { cls := .type "list", data := .seq #[] }).update q (Obj.mapSeq fun _ => #[]), toks := s.toks } : Shared) = s3 at I2 ⊢
  generalize hH1 : upd H q (.lst []) = H1 at I1 I2 s1 hs2 hl2
  have hq1 : H1 q = some (.lst []) := by rw [← hH1]; exact upd_same
  obtain ⟨sl, od, _, J, _⟩ := SlX.slt_inst I2 hs2
  obtain ⟨m0, hF⟩ := I2.fr
  have hne : q ≠ x := by
    rintro rfl
    rcases hs2 with ⟨z, _⟩ | ⟨z, _⟩
    · rw [z] at hq1; cases hq1
    · rw [z] at hq1; cases hq1
  unfold Builtin.List.listExtendWith
  refine wpAny_bind (J.type.here ?_)
  have h1 : Builtin.List.listSameRef (.ref q) (.ref x) = false := by simp [Builtin.List.listSameRef, hne]
  have h2 : (Value.ref (ga X.K "Family") == Value.type "list") = false := rfl
  have h3 : (Value.ref (ga X.K "Family") == Value.type "tuple") = false := rfl
  simp only [h1, h2, h3, Bool.or_false, Bool.false_eq_true, if_false]
  have hr2 : Room 2 X.A.in1.in1 := (show Room 3 X.A.in1 from Room.in1 hr).in1
  refine wpAny_bind (PySem.W.owit_iter hF I2.ok.mod.kin J C.mFi.me.at_ C.mFi.me.fn (wpAny_mono (run_0 (us := [.ref x]) (ws := [.ref x]) (ok_FIt T C) (hr2.mono (by decide)) I2.env0.in1.in1 I2 (.cons rfl .nil) (Q := fun z H' => ∃ it, z = .ref it ∧ H1 it = none ∧ H' = upd H1 it (ItO l it 0)) ⟨x, dx, v0, v1, v2, l, zs, rfl, hs2, hl2, fun it hit => ⟨it, rfl, hit, rfl⟩⟩) (fun u s' z => ?_) fun e s' he => he.elim))
  obtain ⟨z', H', I3, rz, it, ez, hit, eH⟩ := z
  subst ez eH
  cases (show u = Value.ref it from rz)
  have git := itO_get I3 upd_same
  unfold PySem.W.OwitIt
  refine wpAny_specialOf (T := "list_iterator") ⟨_, git, rfl⟩ slot_listiter_next.lookup ?_
  have hit3 : H1 it = none := hit
  have s3' : Same H1 (upd H1 it (ItO l it 0)) := same_new hit
  have I4 : Inv X pins σ (upd H1 it (ItL l it 0)) s' := by
    have z := I3.write (x := it) (e := it) (o := ItL l it 0) (h' := s'.heap) (t' := s'.toks) (by rw [upd_same]; exact True.intro) (.inl rfl) (fun b o _ z => z) ⟨_, git⟩ (itL_ok ⟨_, git, rfl, rfl⟩)
    rw [upd_upd] at z
    exact z
  have s4 : Same H1 (upd H1 it (ItL l it 0)) := same_new hit
  have hqi : q ≠ it := ne_of_none hq1 hit
  have hli : l ≠ it := ne_of_none hl2 hit
  refine wpAny_bind (wpAny_holding (fam_hint T C hr2 rfl I4 (slt_go hs2 s4) (s4 _ _ hl2) (by omega) fun room s5 I5 => ?_))
  have fin : ∀ (H6 : Hp) (s6 : Shared), Inv X pins σ H6 s6 → H6 it = some (ItL l it 0) → H6 q = some (.lst []) → H6 l = some (.lst zs) → Same H H6 → codeAny (model X.prog X.w) X.A.in1 (.builtin "list.extend.loop" ⟨[.ref q, .ref it, .none], []⟩) (wants (fun r s₂ => r = .none ∧ EP X pins σ Q (.ref q) s₂) X.xe) s6 := by
    intro H6 s6 I6 e1 e2 e3 sm
    refine list_loop (A1 := X.A.in1) (zs := zs) (Rs := wants (fun r s₂ => r = .none ∧ EP X pins σ Q (.ref q) s₂) X.xe) (show X.A.handled = none from I.ok.hd hc) (by omega) hqi hli hlq zs.length 0 H6 s6 (by omega) I6 e1 e2 e3 fun H7 s7 I7 kp hq7 => ⟨rfl, .ref q, H7, I7, rfl, hQ H7 q (fun b o e => ?_) fr hq7⟩
    rw [kp b (ne_of_none (s1 _ _ e) hit) (ne_of_none e fr)]
    exact sm b o e
  have sm5 : Same H (upd H1 it (ItL l it 0)) := s1.trans s4
  have hq5 := s4 _ _ hq1
  refine wpAny_ite_split (fun _ => ?_) (fun _ => wpAny_pure ⟨plainId_quiet PySem.F.plain_extend_loop _, fin _ _ I5 upd_same hq5 (s4 _ _ hl2) sm5⟩)
  refine wpAny_bind (wpAny_rule ?_)
  refine wpAny_bind ?_
  show wpAny _ _ (updateSeq q (·.push .none) >>= fun _ => updateSeq q (·.pop)) _ _ _
  obtain ⟨z, its, k, r3, hl3, e3⟩ := I5.lstM hq5
  cases r3
  refine wpAny_bind (wpAny_updateSeq e3 rfl ?_)
  have I6 := I5.lset (f := (·.push Value.none)) (its' := [Value.none]) (ys := [.non]) (t' := s5.toks) hq5 e3 (by simp) (.cons rfl .nil) (by rw [List.length_singleton, sizeLine_eq]; decide)
  obtain ⟨z4, its4, k4, r4, hl4, e4⟩ := I6.lstM upd_same
  obtain ⟨u4, rfl, ru4⟩ := r4.one
  refine wpAny_updateSeq e4 rfl ?_ (by show 1 ≤ sizeLine; rw [sizeLine_eq]; decide) (by show 0 ≤ sizeLine + 1; exact Nat.zero_le _)
  have I7 := I6.lset (f := (·.pop)) (its := [u4]) (its' := []) (ys := []) (t' := s5.toks) upd_same e4 (by rfl) .nil (Nat.zero_le _)
  refine wpAny_pure ⟨plainId_quiet PySem.F.plain_extend_loop _, fin _ _ I7 ?_ upd_same ?_ fun b o e => ?_⟩
  · rw [upd_upd, upd_ne (Ne.symm hqi), upd_same]
  · rw [upd_upd, upd_ne hlq]
    exact s4 _ _ hl2
  · rw [upd_upd, upd_ne (ne_of_none e fr)]
    exact sm5 b o e
end
end K41

/-! K41L7 -/
/-! What a draw leaves; lots and families made from tuples. -/
namespace K41
open PySem PySem.Spec PyProof.Rows L2
section
variable {p : Addr} {H H' : Hp}
theorem SP.keep {a : Addr} {o : HO} (s : SP p H H') (h : Pot H p) (e : H a = some o) (ho : ∀ vs, o ≠ .lst vs) : H' a = some o := by
  obtain ⟨x, y, z, e2⟩ := h
  exact s.but a _ (ne_of e e2 fun q => ho _ q) e
theorem SP.slt {a C dx : Addr} {vs : List (Option V)} (s : SP p H H') (h : Pot H p) (e : SlX.Slt H a C dx vs) : SlX.Slt H' a C dx vs := by
  rcases e with ⟨h1, h2⟩ | ⟨h1, h2⟩
  · exact .inl ⟨s.keep h h1 (fun _ z => nomatch z), h2⟩
  · exact .inr ⟨s.keep h h1 (fun _ z => nomatch z), s.keep h h2 (fun _ z => nomatch z)⟩
theorem SP.tl {a : Addr} {M : List (List Int)} (s : SP p H H') (h : Pot H p) (e : TL H a M) : TL H' a M := e.go (s.tups h)
theorem SP.dk {a : Addr} {M : List (List Int)} (s : SP p H H') (h : Pot H p) (e : DK H a M) : DK H' a M := by
  obtain ⟨us, e, r⟩ := e
  exact ⟨us, s.keep h e (fun _ z => nomatch z), r⟩
variable {K : PySem.W.Frag}
theorem SP.lot {x : Addr} {n : Nat} {M : List (List Int)} (s : SP p H H') (h : Pot H p) (e : LotAt K H x n M) : LotAt K H' x n M := by
  obtain ⟨dx, t, h1, r⟩ := e
  exact ⟨dx, t, s.slt h h1, s.tl h r⟩
theorem SP.fam {x : Addr} {n : Nat} {L M : List (List Int)} (s : SP p H H') (h : Pot H p) (e : FamAt K H x n L M) : FamAt K H' x n L M := by
  obtain ⟨dx, d, t, l, h1, r1, r2, r3⟩ := e
  exact ⟨dx, d, t, l, s.slt h h1, s.dk h r1, s.tl h r2, s.ll h r3⟩
theorem SP.go {H1 : Hp} (s : SP p H H') (t : Same H' H1) : SP p H H1 := s.trans (sp_same s.pot t)
end
theorem lex_same {l m : List (List Int)} (h1 : l.Pairwise lexT) (h2 : m.Pairwise lexT) (n1 : l.Nodup) (n2 : m.Nodup) (h : ∀ x, x ∈ l ↔ x ∈ m) : l = m := sorted_uniq (fun x y a b => lex_anti x y b a) h1 h2 n1 n2 h
theorem Tops.same {L L' M M' : List (List Int)} (a : Tops L M) (b : Tops L' M') (h : ∀ x, x ∈ L ↔ x ∈ L') : M = M' := lex_same a.srt b.srt a.nd b.nd fun x => (a.mem x).trans ((great_same h x).trans (b.mem x).symm)
section
variable {K : PySem.W.Frag}
theorem mk_fam {H : Hp} {m x dx : Addr} {n : Nat} {ks : List (List Int)} {R : VK} (hn1 : 1 ≤ n) (hn6 : n ≤ 6) (hm : TL H m ks) (hz : ks.length ≤ 256) (hon : ∀ k ∈ ks, On n k) (hx : H x = none) (hdx : H dx = none) (nex : dx ≠ x)
    (q : ∀ H' L1 M, Same H H' → Fam n L1 → (∀ k, k ∈ L1 ↔ On n k ∧ ∃ c ∈ ks, k.Sublist c) → Tops L1 M → FamAt K H' x n L1 M → R .non H') :
    spFI K [V.ref x, .int n, .ref m] (upd (upd H dx (.own x)) x (.ins (ga K "Family") dx [])) R E0 := by
  obtain ⟨nx, sx⟩ := new_made (C := ga K "Family") hx hdx nex
  have hsub : ∀ k c, c ∈ ks → k.Sublist c → On n k := fun k c hc h => on_sub (hon c hc) h
  refine ⟨x, dx, m, n, fun L0 => L0.Nodup ∧ ∀ k, k ∈ L0 ↔ ∃ c ∈ ks, k.Sublist c, rfl, nx, hn1, hn6, fun L0 h => ⟨h.1, fun k hk => ?_⟩, .inr ⟨ks, hm.go (tups_of sx), hz, hon, fun L0 a b => ⟨a, b⟩, fun H' p L0 s2 hp hL hl => ⟨p, rfl, but2_same s2, hL, hl, nx.go s2, fun H3 L1 M b pm m1 m2 m3 hF => ?_⟩⟩⟩
  · obtain ⟨c, hc, h2⟩ := (h.2 k).mp hk
    exact hsub k c hc h2
  · have e : ∀ k, k ∈ L1 ↔ ∃ c ∈ ks, k.Sublist c := fun k => pm.mem_iff.trans (hL.2 k)
    have eo : ∀ k, k ∈ L1 → On n k := fun k hk => by
      obtain ⟨c, hc, h2⟩ := (e k).mp hk
      exact hsub k c hc h2
    refine q H3 L1 M (but2_new hx hdx sx b) ⟨pm.nodup_iff.mpr hL.1, eo, fun k hk y hy => ?_⟩ (fun k => ⟨fun hk => ⟨eo k hk, (e k).mp hk⟩, fun hk => (e k).mpr hk.2⟩) ⟨m1, m2, m3⟩ hF
    obtain ⟨c, hc, h2⟩ := (e k).mp hk
    exact (e y).mpr ⟨c, hc, (wo_sub hy).trans h2⟩
theorem mk_lot {H : Hp} {m x dx : Addr} {n : Nat} {ks : List (List Int)} {R : VK} (hn1 : 1 ≤ n) (hn8 : n ≤ 8) (hm : TL H m ks) (hT : Told n ks) (hx : H x = none) (hdx : H dx = none) (nex : dx ≠ x)
    (q : ∀ H' M, Same H H' → M.Nodup → M.Pairwise lexT → (∀ k, k ∈ M ↔ Least ks k) → LotAt K H' x n M → R .non H') :
    spLI K [V.ref x, .int n, .ref m] (upd (upd H dx (.own x)) x (.ins (ga K "Lot") dx [])) R E0 := by
  obtain ⟨nx, sx⟩ := new_made (C := ga K "Lot") hx hdx nex
  exact ⟨x, dx, m, n, rfl, nx, hn1, hn8, .inr ⟨ks, hm.go (tups_of sx), hT, fun H' p ks' s2 hp a1 a2 a3 a4 => ⟨p, rfl, s2, q _ ks' (slH_same (sx.trans s2) hx hdx) a1 a2 a3 (lot_here (nx.go s2) a4)⟩⟩⟩
end
/-- products of sets: no squares, few -/
theorem minnon_prods {n : Nat} {L M : List (List Int)} (h : ∀ m, m ∈ M ↔ ∃ c, MinNon n L c ∧ m = prod n c) (nd : M.Nodup) (hn : n ≤ 6) : M.length ≤ 64 ∧ (∀ m ∈ M, m.length = n) ∧ (∀ m ∈ M, ∀ z ∈ m, z = 0 ∨ z = 1) := by
  refine ⟨?_, fun m hm => ?_, fun m hm z hz => ?_⟩
  · refine Nat.le_trans (nd_le (m := (subs n).map (prod n)) nd fun m hm => ?_) (by rw [List.length_map]; exact subs_few hn)
    obtain ⟨c, hc, rfl⟩ := (h m).mp hm
    exact List.mem_map.mpr ⟨c, mem_subs.mpr hc.1, rfl⟩
  · obtain ⟨c, hc, rfl⟩ := (h m).mp hm
    exact prod_len n c
  · obtain ⟨c, hc, rfl⟩ := (h m).mp hm
    exact prod_01 hz
theorem fm_notM (p : List Int → Prop) [DecidablePred p] (g : List Int → List Int) : ∀ ks : List (List Int), (ks.filterMap fun k => if p k then none else some (g k)) = (ks.filter fun k => decide (¬ p k)).map g
  | [] => rfl
  | k :: ks => by
    by_cases hm : p k
    · rw [List.filterMap_cons_none (by rw [if_pos hm]), List.filter_cons_of_neg (by simp [hm]), fm_notM p g ks]
    · rw [List.filterMap_cons_some (by rw [if_neg hm]), List.filter_cons_of_pos (by simp [hm]), List.map_cons, fm_notM p g ks]
theorem u65 {k : Nat} {A : Around} (h : Room k A) : A.units + 65 < cLine := by
  have := h.un
  omega
section
variable {X : Cx}
def rListK (K : PySem.W.Frag) : List V → Hp → VK → Prop := fun xs H Q => ∃ p ys, xs = [.ref p] ∧ (SqL K H p ys ∨ SqT K H p ys) ∧ ∀ l, H l = none → Q (.ref l) (upd H l (.lst ys))
theorem crListK (K : PySem.W.Frag) (h : X.K = K := by rfl) : CallR X (.type "list") (rListK K) := h ▸ call_list_of
end
end K41

/-! K41L8 -/
/-! Whether the lot of a drawn family is right. -/
namespace K41
open PySem PySem.Spec PyProof.Rows L2
abbrev NFR : List Str := ["_law_pot_here", "_law_size", "_law_sets_here", "_law_members", "_law_family", "_law_none", "_law_lot", "_law_turn", "_law_product_here", "_law_one", "_law_letter"]
section
variable {P : Program} {w : World} {K : PySem.W.Frag} {mg : Str → Option Value} {base : Heap}
def spFR : Sp := fun vs H Q _ => ∃ p, vs = [.ref p] ∧ Pot H p ∧ ∀ H', SP p H H' → Q (.bl true) H'
theorem sc_FR : FnScope NFR ["_law_pot_here"] (defScope (top 84)) := ⟨rfl, rfl, rfl, by decide +kernel, rfl, by decide +kernel, by decide +kernel⟩
theorem noSq_01 {M : List (List Int)} (h : ∀ m ∈ M, ∀ z ∈ m, z = 0 ∨ z = 1) : noSq M = true := by
  unfold noSq
  exact List.all_eq_true.mpr fun m hm => List.all_eq_true.mpr fun z hz => decide_eq_true (by rcases h m hm z hz with e | e <;> omega)
theorem ok_FR (T : Tx K mg) (C : Tc K mg) (S : Ts K) : Ok P w K mg base "_law_family_right" 10 ["_law_pot_here"] spFR := by
  refine mkOk T.d_law_family_right sc_FR (fun _ _ _ _ _ _ us hl => match us, hl with | [_], _ => rfl) (fun vs H Q E h => by obtain ⟨p, rfl, _⟩ := h; rfl) (fun cdv A outer s H vs Q E f hr h => ?_)
  obtain ⟨p, rfl, hp, q⟩ := h
  refine ⟨_, pss_cons (ps_set (i := 1) sc_FR.nd rfl (Or.inr rfl) (pe_op op_add pe_int (pcall (ok_Dip T) (hr.mono (by decide)) (pa_cons (pv 0) (pa_cons pe_int pa_nil)))))
    (pss_cons (ps_set (i := 2) sc_FR.nd rfl (Or.inl rfl) (pcall (ok_Sets T) (hr.mono (by decide)) (pa_cons (pv 0) (pa_cons (pv 1) pa_nil))))
    (pss_cons (ps_asg (pe_tup (pa_cons (pcall (ok_All T) (hr.mono (by decide)) (pa_cons (pv 1) (pa_cons (pv 2) pa_nil))) (pa_cons (StX.pe_makeR C.FA.mr (ok_FI T C) (hr.mono (by decide)) (by rfl) C.FA.gl pass0 (pa_cons (pv 1) (pa_cons (pe_callTy (crTup K) (by rfl) T.f_tuple (by decide +kernel) (pa_cons (pv 2) pa_nil)) pa_nil))) pa_nil)))
        (pg_tup rfl (pgs_cons (pg_name (i := 3) sc_FR.nd rfl (Or.inr rfl)) (pgs_cons (pg_name (i := 4) sc_FR.nd rfl (Or.inl rfl)) pgs_nil))))
    (pss_cons (ps_setLc (i := 5) (own := [("_law_one", 9)]) (g := gName 9) rfl sc_FR.nd rfl rfl (sw_true rfl rfl rfl (by decide +kernel)) (pi_lK K (pcall (ok_Subs T) (hr.mono (by decide)) (pa_cons (pv 1) pa_nil)))
        (blkOk_by (N := NFR) (sc := defScope (top 84)) (by decide +kernel)) (fun _ _ _ _ _ => pg_name (i := 9) sc_FR.nd rfl (Or.inl rfl)) (fun _ _ _ _ _ => pts_one (pt_cmpR (op_niK K (u65 hr)) (pv 9) (pv 3) rfl))
        (fun _ _ _ _ _ => pcall (ok_LProd T) (hr.mono (by decide)) (pa_cons (pv 1) (pa_cons (pv 9) pa_nil))))
    (pss_cons (ps_set (i := 6) sc_FR.nd rfl (Or.inl rfl) (pcall (ok_LoF T C) hr (pa_cons (pv 4) pa_nil)))
    (pss_cons (ps_if (PW.pt (pw_or (pt_cmpR op_ne (SlX.pe_propSl (E := E0) (pv 6) C.LO.sc C.pL0.at_ C.pL0.get C.pL0.tk C.pL0.rc (ok_Let C) (hr.mono (by decide)) (fun _ _ _ _ z => z)) (pv 1) (nomark _))
        (pw_or (pt_cmpR (op_neK K hr.units) (pe_callTy (crListK K) (by rfl) T.f_list (by decide +kernel) (pa_cons (SlX.pe_propSl (E := E0) (pv 6) C.LO.sc C.pL1.at_ C.pL1.get C.pL1.tk C.pL1.rc (ok_Mem C) (hr.mono (by decide)) (fun _ _ _ _ z => z)) pa_nil)) (pcall (ok_Least T) (hr.mono (by decide)) (pa_cons (pv 5) pa_nil)) (nomark _))
        (pw_or (pt_not (pt_val (SlX.pe_propSl (E := E0) (pv 6) C.LO.sc C.pLs.at_ C.pLs.get C.pLs.tk C.pLs.rc (ok_Sqf T C) (hr.mono (by decide)) (fun _ _ _ _ z => z))))
        (pw_or1 (pt_cmpR (op_neOwn C.FA.si.cm S.nF C.mFe.me.at_ C.mFe.me.fn (ok_FEq T C) (hr.mono (by decide))) (pcall (ok_FO T C) hr (pa_cons (pv 6) pa_nil)) (pv 4) (nomark _))))))) (pss_one ps_never) pss_nil)
    (pss_cons (ps_for PassesOwn.never rfl (pi_range1 rfl T.f_range (pa_cons pe_int pa_nil)) (pg_name (i := 7) sc_FR.nd rfl (Or.inl rfl))
        (pss_cons (ps_set (i := 8) sc_FR.nd rfl (Or.inl rfl) (pe_callTy (crTup K) (by rfl) T.f_tuple (by decide +kernel) (pa_cons (pe_lc (own := [("_law_letter", 10)]) (g := gName 10) (tt := tYes) rfl sc_FR.nd (pi_range1 rfl T.f_range (pa_cons (pv 1) pa_nil))
            (blkOk_by (N := NFR) (sc := defScope (top 84)) (by decide +kernel)) (fun _ _ _ _ _ => pg_name (i := 10) sc_FR.nd rfl (Or.inl rfl)) (fun _ _ _ _ _ => pts_nil) (fun _ _ _ _ _ => pcall (ok_Dip T) (hr.mono (by decide)) (pa_cons (pv 0) (pa_cons pe_int pa_nil)))) pa_nil)))
        (pss_one (ps_if (pt_cmpR op_ne (pe_cmpR (op_inOwn C.mLc.me.at_ C.mLc.me.fn (ok_Cont T C) (hr.mono (by decide))) (pv 8) (pv 6) rfl) (pe_cmpR (op_niK K (u65 hr)) (pcall (ok_Letters T) (hr.mono (by decide)) (pa_cons (pv 8) pa_nil)) (pv 3) rfl) (nomark _)) (pss_one ps_never) pss_nil))))
    (pss_one (ps_ret pe_bl)))))))), ?_⟩
  obtain ⟨x, y, z, hpe⟩ := id hp
  refine ⟨_, rfl, p, 6, x, y, z, rfl, hpe, by decide, by decide, fun r x1 y1 z1 h0 h6 => ?_⟩
  have s1 : SP p H (upd H p (.lst [.int x1, .int y1, .int z1])) := sp_upd
  generalize hH1 : upd H p (.lst [.int x1, .int y1, .int z1]) = H1 at s1 ⊢
  obtain ⟨n, hn⟩ : ∃ n : Nat, 1 + r = (n : Int) := ⟨(1 + r).toNat, by omega⟩
  have hn1 : 1 ≤ n := by omega
  have hn6 : n ≤ 6 := by omega
  refine ⟨_, _, rfl, rfl, ?_⟩
  dsimp only
  rw [hn]
  refine ⟨_, rfl, _, rfl, p, n, rfl, s1.pot, hn6, fun H2 l ks s2 hl2 hL2 hon hkl => ?_⟩
  have s02 := s1.trans s2
  refine ⟨_, rfl, _, rfl, n, l, ks, rfl, hn6, hL2, hon, by omega, fun H3 a L s3 ha hnd hmem hLa => ?_⟩
  obtain ⟨vs3, hvs3, rv3⟩ := hL2.go s3
  refine ⟨_, rfl, _, rfl, l, vs3, rfl, .inl ⟨SqL.of hvs3, fun t ht => ?_⟩⟩
  intro yf dyf hyf hdyf nyf
  refine mk_fam hn1 hn6 (ks := ks) ⟨vs3, upd_same, rts_go (tups_of (same_new ht)) rv3⟩ (by omega) hon hyf hdyf nyf fun H5 L1 Mx s5 hF hmF tops hfam => ⟨rfl, ?_⟩
  refine ⟨bigle (by show 2 ≤ _; decide), fun tp htp => ?_⟩
  refine ⟨tp, _, rfl, SqT.of upd_same, rfl, _, _, rfl, _, _, rfl, rfl, ?_⟩
  have s36 := ((same_new (o := .tup vs3) ht).trans s5).trans (same_new (o := .tup [V.ref a, V.ref yf]) htp)
  have hfam6 := hfam.go (same_new (o := .tup [V.ref a, V.ref yf]) htp)
  generalize hH6 : upd H5 tp (.tup [V.ref a, V.ref yf]) = H6 at s36 hfam6 ⊢
  refine ⟨_, rfl, n, rfl, hn6, fun H7 p7 s7 hp7 hks => ?_⟩
  obtain ⟨us, hus, ru⟩ := hks
  have hlen := subs_few hn6
  have hLa7 := hLa.go (s36.trans s7)
  refine ⟨p7, rfl, ⟨us, SqL.of hus⟩, fun D hD => ?_⟩
  refine lc_from (xs := us) (ks := subs n) RT RT (fun _ _ _ _ s r => r.go s) (fun k => if k ∈ L then none else some (prod n k)) walk_list (fun H8 s8 => SqL.of (s8 _ _ hus)) ru hD (by omega) (fun k0 x H8 Kk N hk0 s8 r h1 h2 => ?_) (fun H8 ys s8 hy8 pr => ?_)
  · obtain ⟨b, rfl, hb⟩ := r
    refine ⟨rfl, _, rfl, _, rfl, ni_ll (s8 _ _ hb) (hLa7.go s8) ⟨_, rfl, ?_⟩⟩
    by_cases hm : k0 ∈ L
    · rw [decide_eq_true hm]
      exact iteF (h2 _ (if_pos hm) (Same.refl _))
    · rw [decide_eq_false hm]
      exact iteT ⟨_, rfl, _, rfl, n, b, k0, rfl, s8 _ _ hb, by omega, fun H9 p9 s9 hp9 hi9 => h1 _ _ _ (if_neg hm) s9 ⟨p9, rfl, hi9⟩⟩
  rw [fm_notM (fun k => k ∈ L)] at pr
  obtain ⟨N1, hN1⟩ : ∃ N1, N1 = (subs n).filter fun k => decide (k ∉ L) := ⟨_, rfl⟩
  rw [← hN1] at pr
  have mN1 : ∀ k, k ∈ N1 ↔ On n k ∧ k ∉ L1 := fun k => by
    rw [hN1, List.mem_filter, mem_subs, decide_eq_true_eq, hmem, hmF]
  have lN1 : N1.length ≤ 64 := by
    have := List.length_filter_le (fun k => decide (k ∉ L)) (subs n)
    rw [hN1]
    omega
  have s78 := s7.trans s8
  have hfam8 := hfam6.go s78
  have hLN : LL H8 D (N1.map (prod n)) := ⟨ys, hy8, pr⟩
  refine ⟨_, rfl, yf, n, L1, Mx, rfl, hfam8, hF, hn1, hn6, fun H9 x M s9 hx9 hMn hMs hMm hlot => ?_⟩
  obtain ⟨hM64, hMl, hM01⟩ := minnon_prods hMm hMn hn6
  obtain ⟨dxl, tl, hsl, htl⟩ := id hlot
  refine ⟨_, rfl, x, dxl, _, rfl, hsl, x, n, M, rfl, hlot, _, rfl, rfl, _, rfl, ?_⟩
  rw [decide_eq_true rfl]
  refine iteF ?_
  refine ⟨_, rfl, x, dxl, _, rfl, hsl, x, n, M, rfl, hlot, fun t2 ht2 => ?_⟩
  obtain ⟨vm, hvm, rvm⟩ := ht2
  refine ⟨t2, vm, rfl, .inr (SqT.of hvm), fun lm hlm => ?_⟩
  have s10 : Same H9 (upd H9 lm (.lst vm)) := same_new hlm
  have hLm : LL (upd H9 lm (.lst vm)) lm M := ⟨vm, upd_same, rts_go (tups_of s10) rvm⟩
  generalize hH10 : upd H9 lm (.lst vm) = H10 at s10 hLm ⊢
  refine ⟨_, rfl, D, N1.map (prod n), n, rfl, hLN.go (s9.trans s10), by rw [List.length_map]; exact lN1, fun k hk => by obtain ⟨c, _, rfl⟩ := List.mem_map.mp hk; exact prod_len n c, by omega, fun H11 pl Ml s11 hpl hnd11 hsrt11 hm11 hL11 => ?_⟩
  refine ne_ll (hLm.go s11) hL11 ⟨_, rfl, ?_⟩
  have eM : M = Ml := lex_same hMs hsrt11 hMn hnd11 fun x => (hMm x).trans ((least_none hF mN1 x).symm.trans (hm11 x).symm)
  rw [decide_eq_true eM]
  refine iteF ?_
  have s911 := s10.trans s11
  refine ⟨_, rfl, x, dxl, _, rfl, slt_go hsl s911, x, n, M, rfl, hlot.go s911, by omega, fun m hm => ⟨by rw [hMl m hm]; omega, fun z hz => by rcases hM01 m hm z hz with e | e <;> omega⟩, fun H12 s12 => ⟨true, rfl, iteF ?_⟩⟩
  have s912 := s911.trans s12
  refine ⟨_, rfl, x, n, M, rfl, noSq_01 hM01, hlot.go s912, hn1, hn6, by omega, hMl, fun H13 y2 L2' Mx2 s13 hy2 nd2 hm2 tops2 hfam2 => ?_⟩
  have e2 : Mx2 = Mx := tops2.same tops fun k => (hm2 k).trans ⟨fun h => (back_sets hF hMm h.1).mpr h.2, fun h => ⟨hF.on k h, (back_sets hF hMm (hF.on k h)).mp h⟩⟩
  subst e2
  have s913 := s912.trans s13
  have hfam13 := hfam8.go (s9.trans s913)
  obtain ⟨dx2, d2, t2', l2, hs2, _⟩ := id hfam2
  obtain ⟨dxf, df, tf, lf, hsf, _⟩ := id hfam13
  refine ⟨_, rfl, y2, dx2, _, yf, _, dxf, _, rfl, rfl, hs2, hsf, C.nFA, ⟨y2, yf, n, L2', L1, Mx2, rfl, hfam2, hfam13, true, rfl, false, rfl, iteF ?_⟩⟩
  have sp13 : SP p H H13 := s02.go (s3.trans (s36.trans (s78.trans (s9.trans s913))))
  have hLa13 := hLa.go (s36.trans (s78.trans (s9.trans s913)))
  have hlot13 := hlot.go s913
  clear hfam hfam6 hfam8 hfam2 hfam13 hs2 hsf
  refine ⟨_, rfl, by decide, by decide, ?_⟩
  refine for_it (n := 4) walk_rng (fun i σ H1 => ∃ c d e g, σ = [some (V.ref p), some (V.int n), some (V.ref l), some (V.ref a), some (V.ref yf), some (V.ref D), some (V.ref x), c, d, e, g] ∧ SP p H13 H1) ⟨_, _, _, _, rfl, sp_refl sp13.pot⟩ (fun _ _ _ _ _ => trivial) (fun i v σ Hb Hb' hi hP yv => ?_) (fun σ Hb hP => ?_)
  · obtain ⟨c, d, e, g, rfl, sb⟩ := hP
    obtain ⟨rfl, rfl⟩ := yv
    refine ⟨_, rfl, n, rfl, by omega, by omega, fun D2 hD2 => ?_⟩
    rw [Int.toNat_natCast]
    refine lc_it walk_rng (fun j Hc => SP p Hb Hc ∧ ∃ ds : List Int, Hc D2 = some (.lst (ds.map V.int)) ∧ ds.length = j ∧ ∀ t ∈ ds, 0 ≤ t ∧ t < 3) ⟨sp_mut (sp_refl sb.pot) sb.pot hD2, [], upd_same, rfl, fun _ h => by cases h⟩ (fun _ _ _ _ => trivial) (fun j v Hc Hc' hj hPc yc => ?_) (fun Hc hPc => ?_)
    · obtain ⟨sc, ds, hds, hdl, hdr⟩ := hPc
      obtain ⟨rfl, rfl⟩ := yc
      obtain ⟨x4, y4, z4, hp4⟩ := sc.pot
      have hne : D2 ≠ p := by
        rintro rfl
        obtain ⟨_, _, _, z⟩ := sb.pot
        rw [hD2] at z
        cases z
      refine ⟨rfl, yes (iteT ⟨_, rfl, p, 3, x4, y4, z4, rfl, hp4, by decide, by decide, fun r2 x5 y5 z5 r0 r3 => ⟨ds.map V.int, by rw [upd_ne hne]; exact hds, big (by rw [List.length_map]; omega), sp_mut (sp_dip sc) sb.pot hD2, ds ++ [r2], ?_, by rw [List.length_append, hdl]; rfl, fun t ht => ?_⟩⟩)⟩
      · rw [upd_same, List.map_append]
        rfl
      · rcases List.mem_append.mp ht with ht | ht
        · exact hdr t ht
        · rw [List.mem_singleton.mp ht]
          exact ⟨r0, r3⟩
    · obtain ⟨sc, ds, hds, hdl, hdr⟩ := hPc
      refine ⟨D2, _, rfl, .inl ⟨SqL.of hds, fun b hb => ?_⟩⟩
      have sb2 : SP p H13 (upd Hc b (.tup (ds.map V.int))) := (sb.trans sc).go (same_new hb)
      have hib : IT (upd Hc b (.tup (ds.map V.int))) b ds := upd_same
      generalize hHd : upd Hc b (.tup (ds.map V.int)) = Hd at sb2 hib ⊢
      have hlotd := sb2.lot sp13.pot hlot13
      obtain ⟨dx5, t5, hs5, _⟩ := id hlotd
      refine ⟨_, rfl, _, rfl, x, dx5, _, rfl, hs5, x, n, M, b, ds, rfl, hlotd, hib, hdl, by omega, hMl, by omega, ?_, fun He se => ⟨_, rfl, ?_⟩⟩
      · unfold inB
        exact List.all_eq_true.mpr fun t ht => decide_eq_true (by have := hdr t ht; omega)
      · have sb3 := sb2.go se
        refine ⟨_, rfl, b, ds, rfl, se _ _ hib, by omega, fun Hf b2 sf hb2 hi2 => ?_⟩
        have sb4 := sb3.go sf
        refine ⟨_, rfl, ni_ll hi2 (sb4.ll sp13.pot hLa13) ⟨rfl, _, rfl, ?_⟩⟩
        have hin := in_lot hF hMm hdl fun t ht => (hdr t ht).1
        have e1 : (M.any fun m => dv m ds) = !decide (supp ds ∈ L) := by
          rw [Bool.eq_iff_iff, hin, Bool.not_eq_true', decide_eq_false_iff_not, hmem, hmF]
        rw [e1, decide_eq_true rfl]
        exact iteF ⟨_, _, _, _, rfl, sb4⟩
  · obtain ⟨c, d, e, g, rfl, sb⟩ := hP
    exact q _ (sp13.trans sb)
end
end K41

/-! K41X1 -/
/-! An exception over ArithmeticError that is made with its reason. -/
namespace K41
open PySem PySem.Spec PyProof.Rows L2
abbrev arTail : List Value := [.type "ArithmeticError", .type "Exception", .type "BaseException", .type "object"]
/-- what the written part says of Refused -/
structure Rf (P : Program) (K : PySem.W.Frag) (mg : Str → Option Value) : Prop where
  gl : mg "Refused" = some (.ref (ga K "Refused"))
  cls : ∃ nm q N bs sn sub ab col dd k0 k1 k2 k3 k5, K.lookup (ga K "Refused") = some (excClassObj nm q (ga K "Refused") N bs arTail true sn sub ab col dd k0 k1 k2 k3 k5 "ArithmeticError.__new__")
  ini : PySem.W.findIn K (.ref (ga K "Refused")) "__init__" = some (some (.ref (ma K (ga K "Refused") "__init__")))
  ty : PySem.W.typeIn K (.ref (ma K (ga K "Refused") "__init__")) = some (.type "function")
  fn : ∃ oc od kV doc pm an cda ct cc osl ccl cdd vs ccs file tf cl cld csl, K.lookup (ma K (ga K "Refused") "__init__") = some ⟨oc, od, .func (PySem.W.ksFn "__init__" "Refused.__init__" (defArgs (mth 9 0)) (defBody (mth 9 0)) (defScope (mth 9 0)) .none kV doc pm an (.ref cda) ct cc), osl⟩ ∧
    PySem.W.codeIn K (.ref cda) "Refused.__init__" = true ∧ K.lookup cda = some ⟨ccl, cdd, .fields vs, ccs⟩ ∧ vs[2]? = some (.str file tf) ∧ ((P.main.file : Str) == file) = true ∧ K.lookup cc = some ⟨cl, cld, .cell (some (.ref (ga K "Refused"))), csl⟩
  noR : PySem.W.findIn K (.ref (ga K "Refused")) "reason" = some none
  sa : PySem.W.findIn K (.ref (ga K "Refused")) "__setattr__" = some (some (.builtin "object.__setattr__"))
  exC : PySem.W.subIn K (.ref (ga K "Refused")) (.type "BaseException") = some true
  arC : PySem.W.subIn K (.ref (ga K "Refused")) (.type "ArithmeticError") = some true
  tyC : PySem.W.typeIn K (.ref (ga K "Refused")) = some (.type "type")
  kC : PySem.W.keepIn K (.ref (ga K "Refused")) = true
  st : PySem.W.nsIn K PySem.cStatics "thirdparty.any" = some none
  own : PySem.W.mroIn K (ga K "Refused") (.ref (ga K "Refused")) = some true
  sup : PySem.W.ks_superIn K (ga K "Refused") (ga K "Refused") "__init__" = some (some (.builtin "ArithmeticError.__init__"))
  top : (P.main.scope.names.lookup ("super" : Str)).isSome = false
/-! ### self.reason = v -/
section
open Builtin Builtin.ObjectAttr
variable {prog : Program} {w : World} {A : Around} {R : Result → Shared → Prop} {hp : Heap} {g : Array GenState} {d : Drawn} {t : Nat} {os : OsState}
theorem ar_has {K : PySem.W.Frag} {c : Addr} {cd : ClassData} (hcd : PySem.W.clsIn K c = some cd) (hm : cd.mro = .ref c :: arTail) {b : Value} (hb : (Value.ref c :: arTail).contains b = true) : PySem.W.mroIn K c b = some true := by
  unfold PySem.W.mroIn
  rw [hcd, Option.bind_some, hm]
  rw [if_neg (show ¬ (List.isEmpty (Value.ref c :: arTail) = true) from Bool.false_ne_true)]
  rw [hb]
theorem ar_set {K : PySem.W.Frag} {nam : Str} {tk : Tok} {v : Value} {x c : Addr} {fv : Array Value} {cd : ClassData}
    (X : K.In hp) (hx : hp.get? x = some { cls := .ref c, data := .fields fv }) (hcd : PySem.W.clsIn K c = some cd) (hm : cd.mro = .ref c :: arTail) (hh : cd.hasDict = true) (ha : PySem.W.findIn K (.ref c) nam = some none)
    (fin : ∀ h' tk' dx, (∀ b o, b ≠ x → hp.get? b = some o → h'.get? b = some o) → hp.objs.size ≤ dx → dx ≠ x → h'.get? x = some { cls := .ref c, dict := some dx, data := .fields fv } →
      h'.Ns1 dx (fun y => if y = nam then some v else none) → R (.ok (.ret .none)) ⟨h', g, d, tk', os⟩) :
    codeAny (model prog w) A (.call (.builtin "object.__setattr__") ⟨[.ref x, .str nam tk, v], []⟩) R ⟨hp, g, d, t, os⟩ := by
  have J : PySem.W.InstAt hp x { cls := .ref c, data := .fields fv } c none := ⟨hx, rfl, rfl, trivial⟩
  have apart : x ≠ hp.objs.size := Nat.ne_of_lt (Heap.lt_size hx)
  have sf := F.store_object
  have isO : PySem.W.Looks (model prog w) hp (isInstance (.ref x) (.type "object")) true := J.type.andThen (PySem.W.looks_mroIn X (ar_has hcd hm (by rw [List.contains_cons, Bool.or_eq_true]; exact .inr (by decide +kernel))))
  refine codeAny_call_builtin sf.slot.plain sf.entry (@PySem.W.check_slot (model prog w) _ _ ⟨hp, g, d, t, os⟩ "object.__setattr__" "object" "__setattr__" (.ref x) [.str nam tk, v] [] _ sf.kind sf.split isO (sf.args (.ref x) (.str nam tk) v) ?_)
  have row : PySem.W.Looks (model prog w) hp (mroOf (.ref c)) cd.mro := (PySem.W.looks_clsIn X hcd).andThen .now
  have tak : PySem.W.Looks (model prog w) hp (storeTaker? none) none := .now
  have pass : refuseLoop (.ref x) "__setattr__" cd.mro = pure () := by
    rw [hm, refuseLoop_ref]
    exact F.store_ArithmeticError.passes _
  rw [PySem.W.osa_eq, refuse_eq]
  refine wpAny_bind (wpAny_bind (J.type.at (wpAny_bind (row.at ?_))))
  rw [pass]
  refine wpAny_pure (wpAny_bind (J.type.at (wpAny_bind ((PySem.W.looks_findIn X ha).at (wpAny_bind (tak.at ?_))))))
  have dat : PySem.W.Looks (model prog w) hp (classData c) cd := PySem.W.looks_clsIn X hcd
  obtain ⟨nm, bs, mro, ns, qn, hd, sn, sb, ab, col, del⟩ := cd
  dsimp only at hh
  subst hh
  show wpAny _ _ (storeInOwnDict (.ref x) (.ref c) (.str nam tk) nam v false) _ _ _
  unfold storeInOwnDict ownDictForStores
  repeat (first | with_reducible refine PySem.HandSPX.store_in_new ?_ ?_ | with_reducible refine wpAny_loadPart_at hx ?_ | with_reducible refine dat.at ?_ | wp_step)
  · exact ⟨_, #[], _, (Heap.get?_update_ne _ _ _ _ apart.symm).trans (Heap.get?_push_at rfl rfl), rfl, fun e he => absurd he (by simp), fun _ => rfl⟩
  · intro h' tk' hn sb2
    have hx2 : (hp.push { cls := .type "dict", data := .dict #[] }).get? x = some { cls := .ref c, data := .fields fv } := Heap.get?_push_of_some _ hx
    refine fin h' tk' hp.objs.size (fun b o hb ho => ?_) (Nat.le_refl _) apart.symm ?_ hn
    · exact (sb2.2 b (Nat.ne_of_lt (Heap.lt_size ho))).trans ((Heap.get?_update_ne _ _ _ _ hb).trans (Heap.get?_push_of_some _ ho))
    · exact (sb2.2 x apart).trans (Heap.get?_update_self _ hx2 rfl)
end
end K41

/-! K41X2 -/
/-! Its __init__, run. -/
namespace K41
open PySem PySem.Spec PyProof.Rows L2
section
variable {prog : Program} {w : World} {A : Around} {E : Value → Shared → Prop}
theorem ar_call1 {M : Model} {s : Shared} {pos : Pos} {u x : Addr} {i : String} {env : Env} {e : Expr} {Q : Value → Shared → Prop} (h : wpAny M A (eval e env) (fun v s₁ => PySem.W.KxsAt i u x s₁.heap ∧ wpAny M A (call (.ref u) [v]) Q E s₁) E s)
    (he : starEach [e] env = [(false, eval e env)] := by rfl) : wpAny M A (callWith pos (.ref u) [] (backTo pos (starEach [e] env)) []) Q E s := by
  have z : wpAny M A (spliced (backTo pos (starEach [e] env))) (fun vs s₁ => PySem.W.KxsAt i u x s₁.heap ∧ wpAny M A (call (.ref u) vs) Q E s₁) E s := spliced_more (wpAny_mono h (fun v s1 q => spliced_none q) fun _ _ q => q) he
  rw [he] at z ⊢
  exact PySem.W.kxs_callWith (i := i) (x := x) rfl (Calls.evalArgs_plain z)
variable {h : Heap} {g : Array GenState} {d : Drawn} {t : Nat} {os : OsState}
theorem ar_call2 {nm q : Str} {C N : Addr} {bs bm : List Value} {hdct : Bool} {sn : List Str} {sub : List Value} {ab : Bool} {col : Option Bool} {dd : Option Addr} {k0 k1 k2 k3 k5 : Option Value} {u e t0 : Addr} {rest : List Value} {Q : Value → Shared → Prop}
    (hC : h.get? C = some (excClassObj nm q C N bs bm hdct sn sub ab col dd k0 k1 k2 k3 k5 "ArithmeticError.__new__")) (he : h.get? e = some (PySem.HandSPX.excO C t0)) (hu : h.get? u = some (PySem.W.kxs_mw "ArithmeticError.__init__" e)) (hz : rest.length ≤ sizeLine)
    (hq : ∀ h' t1, (∀ b o, b ≠ e → h.get? b = some o → h'.get? b = some o) → h'.get? e = some (PySem.HandSPX.excO C t1) → Q .none ⟨h', g, d, t, os⟩) : wpAny (model prog w) A (call (.ref u) rest) Q E ⟨h, g, d, t, os⟩ := by
  have fb := F.excBase_ArithmeticError
  refine wpAny_call (codeAny_of_tree ?_)
  show wpAny _ A.in1 (callAny (.ref u) ⟨rest, []⟩) _ _ _
  unfold callAny
  refine wpAny_bind (wpAny_load hu ?_)
  simp only [PySem.W.kxs_mw]
  refine PySem.W.KFB.if_so (by decide) (PySem.W.KFB.if_so (by decide) ?_)
  refine wpAny_bind (PySem.W.check_bound_init fb.toExcCallFacts hC he rfl (wpAny_bind (wpAny_pure (wpAny_pure ⟨plainId_quiet fb.init.plain _, codeAny_builtin fb.initEntry ?_⟩))))
  exact PySem.W.exc_init_tree (cls := .ref C) (t0 := t0) (dv := none) (c2 := .none) (c3 := .none) (b4 := .bool false) he hz fun h' a b _ => hq h' _ a b
end
section
variable {X : Cx}
theorem rf_binds (kV doc pm : Value) (an : Option Addr) (cdv ct : Value) (cc : Addr) (us : List Value) (hl : us.length = 2) : bindArgs (PySem.W.ksFn "__init__" "Refused.__init__" (defArgs (mth 9 0)) (defBody (mth 9 0)) (defScope (mth 9 0)) .none kV doc pm an cdv ct cc) ⟨us, []⟩ = pure ((["self", "reason"] : List Str).zip us) := match us, hl with
  | [_, _], _ => rfl
theorem rf_nocell : ∀ x ∈ (defScope (mth 9 0)).names, x.2 ≠ NameKind.cell := by decide +kernel
theorem rf_body {A : Around} {s2 : Shared} {x t0 : Addr} {u : Value} {R : Result → Shared → Prop} (T : Rf X.prog X.K X.mg) (hmS : X.mg "super" = none) (Bk : ∀ b o, X.base.get? b = some o → s2.heap.get? b = some o) (M0 : Mod X.K X.mg X.base) (hd : A.depth < recursionLimit) (hxb : X.base.get? x = none)
    (hx : s2.heap.get? x = some (PySem.HandSPX.excO (ga X.K "Refused") t0))
    (fin : ∀ h' tk' dx t1, (∀ b o, b ≠ x → s2.heap.get? b = some o → h'.get? b = some o) → s2.heap.objs.size ≤ dx → dx ≠ x → h'.get? x = some { cls := .ref (ga X.K "Refused"), dict := some dx, data := .fields #[.ref t1, .none, .none, .none, .bool false, .none] } →
      h'.Ns1 dx (fun y => if y = "reason" then some u else none) → R (.ok (.ret .none)) { s2 with heap := h', toks := tk' }) :
    codeAny (model X.prog X.w) A (.call (.ref (ma X.K (ga X.K "Refused") "__init__")) ⟨[.ref x, u], []⟩) R s2 := by
  obtain ⟨oc, od, kV, doc, pm, an, cda, ct, cc, osl, ccl, cdd, vs, ccs, file, tf, cl, cld, csl, lk, hcd, hcode, hvs, hfile, hcell⟩ := T.fn
  obtain ⟨nm, q, N, bs, sn, sub, ab, col, dd, k0, k1, k2, k3, k5, hC⟩ := T.cls
  have KX : X.K.In s2.heap := M0.kin.keeps Bk
  have ne : x ≠ ga X.K "Refused" := fun e => by
    have z := KX _ _ hC
    rw [← e, hx] at z
    cases z
  have ncc : x ≠ cc := fun e => by
    have z := KX _ _ hcell
    rw [← e, hx] at z
    cases z
  have hcl : PySem.W.clsIn X.K (ga X.K "Refused") = some { name := nm, bases := bs, mro := .ref (ga X.K "Refused") :: arTail, ns := N, qualname := q, hasDict := true, slotNames := sn, subclasses := sub, abstract := ab, collection := col, hasDel := false } := by unfold PySem.W.clsIn; rw [hC] <;> rfl
  refine PySem.ks_codeAny_call_defAt (body := defBody (mth 9 0)) (binds := [("self", .ref x), ("reason", u)]) hd (KX _ _ lk) rfl (M0.nolimit.keeps Bk) (PySem.W.codeRec_of KX hcd) rfl (BindsTo.of_eq (rf_binds _ _ _ _ _ _ _ _ rfl)) rf_nocell (fun y hy => ?_) (fun h1 hns hk => ?_) rfl rfl rfl
  · rcases List.mem_cons.mp hy with rfl | hy
    · exact (by decide +kernel : (defScope (mth 9 0)).names.lookup ("self" : Str) = some NameKind.local)
    · rw [List.mem_singleton.mp hy]
      exact (by decide +kernel : (defScope (mth 9 0)).names.lookup ("reason" : Str) = some NameKind.local)
  · have Bk1 : ∀ b o, X.base.get? b = some o → h1.get? b = some o := fun b o e => hk b o (Bk b o e)
    have K1 : X.K.In h1 := M0.kin.keeps Bk1
    obtain ⟨mb, hb1, hb2⟩ := M0.blt
    have hx1 := hk _ _ hx
    refine PySem.ks_wpAt_execs_cons (PySem.ks_wpAt_Expr_any (PySem.ks_wpAt_MethodCall (PySem.ks_wpAt_super_base (by rfl) (by rfl) (by rfl) rfl (K1 _ _ lk) rfl (by rfl) rfl (K1 _ _ hcode) rfl hvs hfile T.top ?_)))
    refine PySem.W.ks_loadName_global (by rfl) (by rfl) (Calls.loadGlobal_builtin (M0.glob.keeps Bk1) hmS (hb1.keeps Bk1) ((hb2 _ (by decide)).trans (by rfl)) ⟨rfl, ?_⟩)
    refine wpAny_loadName_free (by rfl) (by rfl) (by rfl) ⟨_, K1 _ _ hcell, rfl⟩ ?_
    refine wpAny_loadName_local (by rfl) (by rfl) hns (by rfl) ?_
    refine ks_wpAny_isType_cls (K1 _ _ hC) rfl ⟨rfl, ?_⟩
    obtain ⟨hp0, g, d, tk, os⟩ := s2
    refine ks_wpAny_call_super (K1 _ _ hC) rfl hx1 rfl (fun _ z => nomatch z) (PySem.W.looks_mroIn K1 T.own) (fun h2 e2 k2 => ?_)
    have K2 : X.K.In h2 := K1.keeps k2
    have hx2 := k2 _ _ hx1
    have I2 : PySem.W.InstAt h2 x (PySem.HandSPX.excO (ga X.K "Refused") t0) (ga X.K "Refused") none := ⟨hx2, rfl, rfl, trivial⟩
    have sup := T.sup
    unfold PySem.W.ks_superIn at sup
    rw [hcl] at sup
    refine PySem.W.kxs_getMethod PySem.W.kxs_ArithmeticError e2 (PySem.W.looks_opaque K2 T.st) (fun A Q E s k q => wpAny_bind ((PySem.W.looks_clsIn K2 hcl) A _ E s k (wpAny_pure q))) rfl K2 sup (I2.type.andThen (PySem.W.looks_subIn K2 T.arC)) ne (by decide) ?_
    have e3 : (h2.push (PySem.W.kxs_mw "ArithmeticError.__init__" x)).get? h2.objs.size = some (PySem.W.kxs_mw "ArithmeticError.__init__" x) := Heap.get?_push_at rfl rfl
    have k3 : ∀ b o, h2.get? b = some o → (h2.push (PySem.W.kxs_mw "ArithmeticError.__init__" x)).get? b = some o := fun b o e => Heap.get?_push_of_some _ e
    have K3 := K2.keeps k3
    refine ar_call1 (wpAny_Constant_str ⟨e3, ?_⟩)
    refine ar_call2 (K3 _ _ hC) (k3 _ _ hx2) e3 (bigle (by show 1 ≤ _; decide)) fun h4 t1 k4 hx4 => ?_
    have K4 : X.K.In h4 := fun a o e => k4 a o (fun z => by
      have y := M0.kin a o e
      rw [z, hxb] at y
      cases y) (K3 _ _ e)
    have neL : hp0.objs.size ≠ x := fun z => by
      have y := Heap.lt_size hx
      rw [← z] at y
      exact absurd y (Nat.lt_irrefl _)
    have hns4 : h4.Ns hp0.objs.size (fun y => ([("self", Value.ref x), ("reason", u)] : List (Str × Value)).reverse.lookup y) := by
      obtain ⟨oL, es, ep, a, r⟩ := hns
      exact ⟨oL, es, ep, k4 _ _ neL (k3 _ _ (k2 _ _ a)), r⟩
    refine PySem.ks_wpAt_execs_cons (PySem.ks_wpAt_Assign_Attr (PySem.wpAt_of_wpAny (wpAny_Name (wpAny_loadName_local (by rfl) (by rfl) hns4 (by rfl) (wpAny_Name (wpAny_loadName_local (by rfl) (by rfl) hns4 (by rfl) ?_) (by decide))) (by decide))))
    refine PySem.W.set_plain K4 (ox := PySem.HandSPX.excO (ga X.K "Refused") t1) (od := none) ⟨hx4, rfl, rfl, trivial⟩ T.sa (ar_set K4 hx4 hcl rfl rfl T.noR fun h5 tk5 dx k5' hdx ndx hx5 hn5 => ?_)
    refine PySem.wpAt_of_wpAny (wpAny_pure ?_)
    refine fin h5 _ dx t1 (fun b o nb e => k5' b o nb (k4 b o nb (k3 _ _ (k2 _ _ (hk _ _ e))))) (Nat.le_trans (Nat.le_of_lt hns4.lt) hdx) ndx hx5 hn5
end
end K41

/-! K41X3 -/
/-! Refused(reason), as a rule. -/
namespace K41
open PySem PySem.Spec PyProof.Rows L2
def tMkRf (K : PySem.W.Frag) (ta : TA) : L2.St → Hp → XK → Prop := fun σ H Q => ta σ H fun vs H1 => ∃ v, vs = [v] ∧ ∀ d, H1 d = none → Q (.ref (ga K "Refused")) (some d) (upd H1 d (.xd [("reason", v)]))
section
variable {X : Cx} {e : Expr} {p pos : Pos} {ta : TA}
theorem pmk_rf (T : Rf X.prog X.K X.mg) (hmS : X.mg "super" = none) (hr : Room 1 X.A) (hg : Gl X "Refused") (ha : PA X [e] ta) (he : starEach [e] X.env = (false, eval e X.env) :: starEach [] X.env := by rfl) (hpl : (backTo pos (starEach [] X.env)).any (·.1) = false := by rfl) :
    PMk X (.Call (.Name "Refused" p) [e] [] pos) (tMkRf X.K ta) := by
  intro pins s σ H Q I h
  obtain ⟨nm, q, N, bs, sn, sub, ab, col, dd, k0, k1, k2, k3, k5, hC⟩ := T.cls
  refine wpAny_Call_Name_kw (ld_glob I hg T.gl ?_ (by decide))
  refine PySem.W.callWith_K (h₀ := X.base) I.ok.mod.kin T.kC (thn (ha.run pos pins s σ H _ I h) fun us s1 ⟨vs, H1, I1, r1, v, ev, q1⟩ => ⟨I1.kIn, ?_⟩) he hpl
  subst ev
  obtain ⟨u, rfl, ru⟩ := vals1 r1
  show wpAny _ _ (call (.ref (ga X.K "Refused")) [u]) _ _ _
  obtain ⟨hp, g, dr, tk, os⟩ := s1
  have kk : ∀ b o, hp.get? b = some o → ((hp.push (PySem.W.kdv_tup [u])).push (PySem.HandSPX.excO (ga X.K "Refused") hp.objs.size)).get? b = some o := fun b o e => Heap.get?_push_of_some _ (Heap.get?_push_of_some _ e)
  have fresh : ∀ b, hp.objs.size ≤ b → hp.get? b = none := fun b hb => by
    cases z : hp.get? b with
    | none => rfl
    | some o => exact absurd (Nat.lt_of_lt_of_le (Heap.lt_size z) hb) (Nat.lt_irrefl _)
  have base0 : X.base.get? (hp.objs.size + 1) = none := by
    cases z : X.base.get? (hp.objs.size + 1) with
    | none => rfl
    | some o =>
      have y := I1.bk _ _ z
      have y2 := fresh (hp.objs.size + 1) (Nat.le_succ _)
      rw [show (Shared.heap ⟨hp, g, dr, tk, os⟩).get? (hp.objs.size + 1) = none from y2] at y
      cases y
  refine wpAny_call (PySem.HandSPX.call_own F.excBase_ArithmeticError (fun Y => rfl) (I1.kIn _ _ hC) (PySem.W.looks_findIn I1.kIn T.ini) (fun self => PySem.W.bind_fn I1.kIn self T.ty) (bigle (by show 1 ≤ _; decide))
    (rf_body (t0 := hp.objs.size) T hmS (fun b o z => kk b o (I1.bk b o z)) I1.mod (hr.make (ga X.K "Refused") [u] []).depth base0 (by heap_get) fun h5 tk5 dx t1 k5' hdx ndx hx5 hn5 => ⟨rfl, ?_⟩))
  have hdx0 : hp.objs.size ≤ dx := by
    have z : hp.objs.size + 1 + 1 ≤ dx := by
      have y := hdx
      simp only [Heap.push] at y
      simpa using y
    omega
  obtain ⟨G, g1, g2⟩ := restrict h5 fun b => (hp.get? b).isSome || decide (b = dx)
  have gk : ∀ b o, hp.get? b = some o → G.get? b = some o := fun b o z => by
    rw [g1 b (by simp [z])]
    refine k5' b o (fun y => ?_) (kk b o z)
    rw [y, fresh _ (Nat.le_succ _)] at z
    cases z
  have gd : G.get? dx = h5.get? dx := g1 dx (by simp)
  have ge : G.get? (hp.objs.size + 1) = none := g2 _ (by rw [fresh _ (Nat.le_succ _)]; simp [Ne.symm ndx])
  have gup : ∀ b o, G.get? b = some o → h5.get? b = some o := fun b o z => by
    cases y : ((hp.get? b).isSome || decide (b = dx)) with
    | false => rw [g2 b y] at z; cases z
    | true => rw [← g1 b y]; exact z
  have J : Inv X pins σ (upd H1 dx (.xd [("reason", v)])) ⟨G, g, dr, tk5, os⟩ := I1.laid (t' := tk5) (a := dx) (o := .xd [("reason", v)]) (h' := G) gk hdx0 ⟨_, hn5.at (fun o y => gd.trans y), relO_put (fs := []) ru fun _ => True.intro⟩
  refine ⟨hp.objs.size + 1, _, _, ⟨G, g, dr, tk5, os⟩, upd H1 dx (.xd [("reason", v)]), .ref (ga X.K "Refused"), some dx, rfl, J, gup, ge, hx5, ⟨rfl, rfl⟩, rfl, rfl, ?_, rfl, I1.bare, raises_own T.exC T.tyC, q1 dx (I1.hok.fresh hdx0)⟩
  rw [upd_ne (Ne.symm ndx)]
  exact I1.hok.fresh (Nat.le_succ _)
end
end K41

/-! K41X4 -/
/-! Lots with squares are refused. -/
namespace K41
open PySem PySem.Spec PyProof.Rows L2
/-- a def that errors leave, with its promise -/
structure OkX (P : Program) (w : World) (K : PySem.W.Frag) (mg : Str → Option Value) (base : Heap) (x : Str) (k : Nat) (ps : List Str) (sp : Sp) : Prop where
  ex : ∃ f fd, FnOk P w K mg base (L2.CX P w) k f fd ps sp ∧ mg x = some (.ref f) ∧ PySem.W.keepIn K (.ref f) = true ∧ Binds K fd ps []
section
variable {P : Program} {w : World} {K : PySem.W.Frag} {mg : Str → Option Value} {base : Heap}
theorem mkOkX {x : Str} {st : Stmt} {N ps : List Str} {k : Nat} {sp : Sp} (D : DefIn K mg x st) (S : FnScope N ps (defScope st))
    (hb : ∀ (kV doc pm : Value) (an : Option Addr) (cdv ct : Value) (us : List Value), us.length = ps.length → bindArgs (PySem.W.fnOf x x (defArgs st) (defBody st) (defScope st) .none kV doc pm an cdv ct) ⟨us, []⟩ = pure (ps.zip us))
    (len : ∀ vs H Q E, sp vs H Q E → vs.length = ps.length)
    (hbody : ∀ (cdv : Value) (A : Around) (outer : List Env) (s : Shared) (H : Hp) (vs : List V) (Q : VK) (E : XK) (f : Addr), Room k (A.deeper (envOfC x (defScope st) s.heap.objs.size f cdv)) → sp vs H Q E →
      ∃ t, PSs (cxOf (L2.CX P w) P w K mg base N x (defScope st) f cdv A outer s H E) (defBody st) t ∧ t { nx := fun _ H' => Q .non H', rt := Q } (start N vs) H) : OkX P w K mg base x (k + 1) ps sp := by
  obtain ⟨fd, F, g⟩ := D
  exact ⟨ga K x, fd, F.okX S len fun cdv A outer s H vs Q E hr h => hbody cdv A outer s H vs Q E _ hr h, g, F.kp, F.binds hb⟩
theorem OkX.mono {x : Str} {j k : Nat} {ps : List Str} {sp : Sp} (G : OkX P w K mg base x j ps sp) (h : j ≤ k) : OkX P w K mg base x k ps sp := by
  obtain ⟨f, fd, F, q⟩ := G.ex
  exact ⟨f, fd, F.mono h, q⟩
end
section
variable {X : Cx}
theorem xcall {k : Nat} {x : Str} {p pos : Pos} {ps : List Str} {sp : Sp} {e : Expr} {es : List Expr} {t : TA} {W : WX} (G : OkX X.prog X.w X.K X.mg X.base x k ps sp) (hr : Room k X.A) (tk : Takes X W) (ha : PA X (e :: es) t) (hg : Gl X x := by rfl)
    (hdb : (x == ("__debug__" : Str)) = false := by decide) (he : starEach (e :: es) X.env = (false, eval e X.env) :: starEach es X.env := by rfl) (hpl : (backTo pos (starEach es X.env)).any (·.1) = false := by rfl) :
    PE X (.Call (.Name x p) (e :: es) [] pos) (tCallS sp (WE W) t) := by
  obtain ⟨f, fd, F, g, kp, b⟩ := G.ex
  exact pe_callS F hr hg g kp b (fun σ => passAt tk σ) ha hdb he hpl
end
section
variable {P : Program} {w : World} {K : PySem.W.Frag} {mg : Str → Option Value} {base : Heap}
/-- what the error bears -/
def Squares (K : PySem.W.Frag) (H : Hp) (E : XK) : Prop := ∀ H' d t, Same H H' → H' d = some (.xd [("reason", .ref t)]) → H' t = some (.tup [.str "squares"]) → E (.ref (ga K "Refused")) (some d) H'
def spRSX (K : PySem.W.Frag) : Sp := fun vs H Q E => ∃ x n M, vs = [.ref x] ∧ LotAt K H x n M ∧ M.length ≤ 100 ∧ (∀ m ∈ M, m.length ≤ 100) ∧ noSq M = false ∧ Squares K H E
theorem ok_RSX (R : Rf P K mg) (T : Tx K mg) (C : Tc K mg) : OkX P w K mg base "require_without_squares" 2 ["lot"] (spRSX K) := by
  refine mkOkX T.d_require_without_squares sc_RS (fun _ _ _ _ _ _ us hl => match us, hl with | [_], _ => rfl) (fun vs H Q E h => by obtain ⟨l, n, L, rfl, _⟩ := h; rfl) (fun cdv A outer s H vs Q E f hr h => ?_)
  obtain ⟨x, n, M, rfl, ⟨dx, t, hs, hM⟩, hz, hl, hsq, q⟩ := h
  obtain ⟨tk, hc⟩ := T.c_SQUARES
  refine ⟨_, pss_one (ps_if (pt_not (pt_val (pcall (ok_Sq T) hr (pa_cons (SlX.pe_sl (pv 0)) pa_nil)))) (pss_one (ps_raise rfl (takes_of rfl rfl rfl rfl) (pmk_rf R T.f_super hr (by rfl) (pa_cons (pe_tup (pa_cons (pe_glob (v := .str "squares") (by rfl) hc ⟨_, rfl⟩) pa_nil)) pa_nil)))) pss_nil), ?_⟩
  refine ⟨_, rfl, x, _, dx, _, _, 1, _, rfl, hs, C.LO.sc, C.sL1, rfl, t, M, rfl, hM, hz, hl, fun H' s1 => ?_⟩
  rw [hsq]
  refine ⟨false, rfl, iteT ?_⟩
  refine ⟨bigle (by show 1 ≤ _; decide), fun p hp => ⟨_, rfl, fun d hd => q _ d p ((s1.trans (same_new hp)).trans (same_new hd)) upd_same ?_⟩⟩
  rw [upd_ne (ne_of_none upd_same hd), upd_same]
def spFOX (K : PySem.W.Frag) : Sp := spRSX K
theorem ok_FOX (R : Rf P K mg) (T : Tx K mg) (C : Tc K mg) : OkX P w K mg base "family_of" 3 ["lot"] (spFOX K) := by
  refine mkOkX T.d_family_of sc_FO (fun _ _ _ _ _ _ us hl => match us, hl with | [_], _ => rfl) (fun vs H Q E h => by obtain ⟨l, n, L, rfl, _⟩ := h; rfl) (fun cdv A outer s H vs Q E f hr h => ?_)
  have h' := h
  obtain ⟨x, n, M, rfl, hlot, hz, hl, hsq, q⟩ := h
  refine ⟨_, pss_cons (ps_expr (pcall (ok_RL T C) (hr.mono (by decide)) (pa_cons (pv 0) pa_nil))) (pss_cons (ps_expr (xcall (ok_RSX R T C) hr (takes_of rfl rfl rfl rfl) (pa_cons (pv 0) pa_nil))) pss_never), ?_⟩
  exact ⟨_, rfl, x, n, M, rfl, hlot, _, rfl, x, n, M, rfl, hlot, hz, hl, hsq, q⟩
end
end K41

/-! K41R2 -/
/-! max(t, default=d), t a tuple of ints. -/
namespace K41
open PySem PySem.Spec PyProof.Rows L2
theorem mx_name : (toString "max" ++ toString ".loop" : String) = "max.loop" := by decide
theorem mx_args (a d : Value) : argsOk "max" ⟨[a], [(Str.ofString "default", d)]⟩ := by unfold argsOk; kernel_rfl
section
variable {prog : Program} {w : World} {A : Around} {R : Result → Shared → Prop} {I S : Addr} {fp wr : List Addr} {n : Nat} {P : Nat → Value → Prop} {St : Nat → Heap → Prop} {kw : List (Str × Value)}
/-- what the end hands on -/
abbrev MxEnd (R : Result → Shared → Prop) (P : Value → Prop) (wr : List Addr) (S : Addr) (s : Shared) : Prop := ∀ v h' tk, P v → (∀ b o, b ∉ wr → b ≠ S → s.heap.get? b = some o → h'.get? b = some o) → R (.ok (.ret v)) { s with heap := h', toks := tk }
theorem mx_loop (W : Walks prog w A.in1 I fp wr n P St) (bt : Nat → Nat → Bool) (hcmp : CmpOf prog w A.in1 .Gt P bt) (hSf : S ∉ fp) : ∀ (k j : Nat) (s : Shared) (vb : Value) (c : Nat), j + 1 + k = n → St (j + 1) s.heap → P (argBest bt j) vb →
    s.heap.get? S = some { cls := .type "list", dict := none, data := .seq #[vb, vb] c, slots := #[] } → MxEnd R (P (argBest bt (n - 1))) wr S s → codeAny (model prog w) A (.builtin "max.loop" ⟨[.ref I, .none, .ref S], kw⟩) R s
  | 0, j, s, vb, c, hk, st, hP, hS, fin => by
    have hSw : S ∉ wr := fun z => hSf (W.sub _ z)
    have e : n - 1 = j := by omega
    have e2 : j + 1 = n := by omega
    rw [e] at fin
    refine codeAny_builtin F.entry_max_loop ?_
    rw [Around.under_plainId F.plain_max_loop _]
    refine wpAny_bind (m := seqItems? (.ref S)) (wpAny_seqItems hS rfl ?_)
    refine wpAny_bind (m := tryCatch (pyNext (.ref I)) _) (wpAny_tryCatch (W.done s _ _ (e2 ▸ st) fun h1 tk k1 => ?_))
    refine wpAny_bind (m := updateSeq S fun _ => #[]) (wpAny_updateSeq (k1 S _ hSw hS) rfl (wpAny_bind (wpAny_letGo (wpAny_pure ?_))))
    exact fin vb _ tk hP fun b o nb nS z => (Heap.get?_update_other _ _ (Ne.symm nS)).trans (k1 b o nb z)
  | k + 1, j, s, vb, c, hk, st, hP, hS, fin => by
    have hSw : S ∉ wr := fun z => hSf (W.sub _ z)
    refine codeAny_builtin F.entry_max_loop ?_
    rw [Around.under_plainId F.plain_max_loop _]
    refine wpAny_bind (m := seqItems? (.ref S)) (wpAny_seqItems hS rfl ?_)
    refine wpAny_bind (m := tryCatch (pyNext (.ref I)) _) (wpAny_tryCatch (W.item (j + 1) s _ _ (by omega) st fun v h1 tk hPv st1 k1 => ?_))
    have hS1 := k1 S _ hSw hS
    refine wpAny_bind (m := tryCatch (holding [v, v] (richCompare .Gt v vb >>= _)) _) (wpAny_tryCatch (wpAny_holding (wpAny_bind (hcmp (j + 1) (argBest bt j) v vb _ _ _ hPv hP ?_))))
    refine wpAny_bind (wpAny_holding (wpAny_truthy_bool (wpAny_bind (wpAny_letGo (wpAny_pure ?_)))))
    by_cases hb : bt (j + 1) (argBest bt j) = true
    · rw [if_pos hb]
      refine wpAny_bind (m := updateSeq S fun _ => #[v, v]) (wpAny_updateSeq hS1 rfl (wpAny_bind (wpAny_letGo ?_)))
      rw [mx_name]
      refine wpAny_pure ⟨plainId_quiet F.plain_max_loop _, mx_loop W bt hcmp hSf k (j + 1) _ v _ (by omega) (W.frame _ _ _ st1 fun b hm o z => (Heap.get?_update_other _ _ (fun y : S = b => hSf (by rw [y]; exact hm))).trans z) ?_ (Heap.get?_update_self _ hS1 rfl) fun v2 h2 tk2 hP2 k2 => ?_⟩
      · show P (if bt (j + 1) (argBest bt j) then j + 1 else argBest bt j) v
        rw [if_pos hb]
        exact hPv
      · exact fin v2 h2 tk2 hP2 fun b o nb nS z => k2 b o nb nS ((Heap.get?_update_other _ _ (Ne.symm nS)).trans (k1 b o nb z))
    · rw [if_neg hb]
      refine wpAny_bind (wpAny_letGo ?_)
      rw [mx_name]
      refine wpAny_pure ⟨plainId_quiet F.plain_max_loop _, mx_loop W bt hcmp hSf k (j + 1) _ vb c (by omega) st1 ?_ hS1 fun v2 h2 tk2 hP2 k2 => fin v2 h2 tk2 hP2 fun b o nb nS z => k2 b o nb nS (k1 b o nb z)⟩
      show P (if bt (j + 1) (argBest bt j) then j + 1 else argBest bt j) vb
      rw [if_neg hb]
      exact hP
theorem mx_first (W : Walks prog w A.in1 I fp wr n P St) (bt : Nat → Nat → Bool) (hcmp : CmpOf prog w A.in1 .Gt P bt) (hSf : S ∉ fp) (hn : 0 < n) {s : Shared} {c : Nat} (st : St 0 s.heap)
    (hS : s.heap.get? S = some { cls := .type "list", dict := none, data := .seq #[] c, slots := #[] }) (fin : MxEnd R (P (argBest bt (n - 1))) wr S s) : codeAny (model prog w) A (.builtin "max.loop" ⟨[.ref I, .none, .ref S], kw⟩) R s := by
  have hSw : S ∉ wr := fun z => hSf (W.sub _ z)
  refine codeAny_builtin F.entry_max_loop ?_
  rw [Around.under_plainId F.plain_max_loop _]
  refine wpAny_bind (m := seqItems? (.ref S)) (wpAny_seqItems hS rfl ?_)
  refine wpAny_bind (m := tryCatch (pyNext (.ref I)) _) (wpAny_tryCatch (W.item 0 s _ _ hn st fun v h1 tk hPv st1 k1 => ?_))
  have hS1 := k1 S _ hSw hS
  refine wpAny_bind (m := updateSeq S fun _ => #[v, v]) (wpAny_updateSeq hS1 rfl ?_)
  rw [mx_name]
  refine wpAny_pure ⟨plainId_quiet F.plain_max_loop _, mx_loop W bt hcmp hSf (n - 1) 0 _ v _ (by omega) (W.frame _ _ _ st1 fun b hm o z => (Heap.get?_update_other _ _ (fun y : S = b => hSf (by rw [y]; exact hm))).trans z) hPv (Heap.get?_update_self _ hS1 rfl) fun v2 h2 tk2 hP2 k2 => ?_⟩
  exact fin v2 h2 tk2 hP2 fun b o nb nS z => k2 b o nb nS ((Heap.get?_update_other _ _ (Ne.symm nS)).trans (k1 b o nb z))
theorem mx_none {d : Value} (W : Walks prog w A.in1 I fp wr 0 P St) {s : Shared} {c : Nat} (st : St 0 s.heap) (hS : s.heap.get? S = some { cls := .type "list", dict := none, data := .seq #[] c, slots := #[] })
    (fin : MxEnd R (fun v => v = d) wr S s) : codeAny (model prog w) A (.builtin "max.loop" ⟨[.ref I, .none, .ref S], [(Str.ofString "default", d)]⟩) R s := by
  refine codeAny_builtin F.entry_max_loop ?_
  rw [Around.under_plainId F.plain_max_loop _]
  refine wpAny_bind (m := seqItems? (.ref S)) (wpAny_seqItems hS rfl ?_)
  refine wpAny_bind (m := tryCatch (pyNext (.ref I)) _) (wpAny_tryCatch (W.done s _ _ st fun h1 tk k1 => ?_))
  refine wpAny_bind (wpAny_rule (wpAny_pure ?_))
  exact fin d h1 tk rfl fun b o nb _ z => k1 b o nb z
end
section
variable {prog : Program} {w : World} {A : Around} {E : Value → Shared → Prop} {s : Shared} {t : Addr} {its : List Value} {ns : List Int} {d : Value}
theorem maxD_tup {Q : Value → Shared → Prop} (hh : A.handled = none) (ht : IsTup s.heap t its.toArray) (hi : IntsAre its ns)
    (h : ∀ h' tk v, (∀ b o, s.heap.get? b = some o → h'.get? b = some o) → ((ns = [] ∧ v = d) ∨ ∃ m t', v = .int m t' ∧ m ∈ ns ∧ ∀ a ∈ ns, a ≤ m) → Q v { s with heap := h', toks := tk }) : wpAny (model prog w) A (call (.builtin "max") [.ref t] [(Str.ofString "default", d)]) Q E s := by
  obtain ⟨xs, e, rfl⟩ := int_items hi
  have ht2 : s.heap.IsTuple t (intItems xs) := by rw [← e]; exact ht
  have hlt : t < s.heap.objs.size := ht.lt
  refine kmk_tree F.kind_max F.plain_max F.entry_max (mx_args _ _) ?_
  refine wpAny_bind (m := Builtin.Builtins.bindParams "max" ["key", "default"] 0 ⟨[], [(Str.ofString "default", d)]⟩) (wpAny_of_eq (show _ = pure [none, some d] from rfl) ?_)
  refine wpAny_bind (wpAny_pure ?_)
  refine wpAny_bind (wpAny_pyIter_tuple ht2 ?_)
  refine wpAny_bind (wpAny_newObj_type ?_)
  rw [mx_name]
  have W := Walks.tuple (prog := prog) (w := w) (A := A.in1) hh s.heap.objs.size t (Nat.ne_of_lt hlt) (intItems xs)
  have ef : ∀ b, b ∈ ([s.heap.objs.size, t] : List Addr) → b < (s.heap.push { cls := .type "tuple_iterator", data := .fields #[.ref t, .int 0 0] }).objs.size := fun b hb => by
    rw [Heap.size_push]
    have hb2 : b = s.heap.objs.size ∨ b = t := by simpa using hb
    rcases hb2 with z | z
    · rw [z]
      exact Nat.lt_succ_self _
    · rw [z]
      exact Nat.lt_succ_of_lt hlt
  have nS : (s.heap.push { cls := .type "tuple_iterator", data := .fields #[.ref t, .int 0 0] }).objs.size ∉ ([s.heap.objs.size, t] : List Addr) := fun z => Nat.lt_irrefl _ (ef _ z)
  have up : ∀ b o, s.heap.get? b = some o → ((s.heap.push { cls := .type "tuple_iterator", data := .fields #[.ref t, .int 0 0] }).push { cls := .type "list", data := .seq #[] }).get? b = some o := fun b o z => Heap.get?_push_of_some _ (Heap.get?_push_of_some _ z)
  have kept : ∀ {h' : Heap}, (∀ b o, b ∉ [s.heap.objs.size] → b ≠ (s.heap.push { cls := .type "tuple_iterator", data := .fields #[.ref t, .int 0 0] }).objs.size → ((s.heap.push { cls := .type "tuple_iterator", data := .fields #[.ref t, .int 0 0] }).push { cls := .type "list", data := .seq #[] }).get? b = some o → h'.get? b = some o) → ∀ b o, s.heap.get? b = some o → h'.get? b = some o := fun {h'} k b o z => k b o (fun y => by
    have y2 : b = s.heap.objs.size := by simpa using y
    exact Nat.lt_irrefl _ (y2 ▸ Heap.lt_size z)) (fun y => by
    have y2 := Heap.lt_size z
    rw [y] at y2
    exact Nat.lt_irrefl _ (Nat.lt_trans (show s.heap.objs.size < (s.heap.push { cls := .type "tuple_iterator", data := .fields #[.ref t, .int 0 0] }).objs.size by rw [Heap.size_push]; exact Nat.lt_succ_self _) y2)) (up b o z)
  refine wpAny_pure ⟨plainId_quiet F.plain_max_loop _, ?_⟩
  have st0 : ((s.heap.push { cls := .type "tuple_iterator", data := .fields #[.ref t, .int 0 0] }).push { cls := .type "list", data := .seq #[] }).IsTupleIter s.heap.objs.size t 0 ∧ ((s.heap.push { cls := .type "tuple_iterator", data := .fields #[.ref t, .int 0 0] }).push { cls := .type "list", data := .seq #[] }).IsTuple t (intItems xs) :=
    ⟨⟨_, Heap.get?_push_of_some _ (Heap.get?_push_size _ rfl), rfl, rfl⟩, (ht2.push _).push _⟩
  by_cases hz : xs.size = 0
  · have e0 : (intItems xs).size = 0 := by simp [intItems, hz]
    rw [e0] at W
    have en : xs.toList.map (·.1) = [] := by
      have z : xs = #[] := Array.eq_empty_of_size_eq_zero hz
      rw [z]
      rfl
    exact mx_none W st0 (Heap.get?_push_size _ rfl) fun v h' tk hv k => h h' tk v (kept k) (.inl ⟨en, hv⟩)
  · have e0 : (intItems xs).size = xs.size := by simp [intItems]
    refine mx_first W _ (CmpOf.ints_gt (numAt xs) (fun _ _ => intItems_at)) nS (by omega) st0 (Heap.get?_push_size _ rfl) fun v h' tk hP k => ?_
    rw [e0] at hP
    obtain ⟨t', rfl⟩ := intItems_at hP
    obtain ⟨h1, h2⟩ := argBest_gt (numAt xs) (xs.size - 1)
    refine h h' tk _ (kept k) (.inr ⟨_, t', rfl, ?_, fun a ha => ?_⟩)
    · rw [numAt_eq]
      exact PySem.getD_mem (by rw [List.length_map, Array.length_toList]; omega)
    · obtain ⟨j, hj, rfl⟩ := mem_getD ha
      rw [List.length_map, Array.length_toList] at hj
      rw [← numAt_eq]
      exact h2 j (by omega)
end
/-- max(t, default=d) -/
def rMaxD (K : PySem.W.Frag) : List V → List V → Hp → VK → Prop := fun vs zs H Q => ∃ (a : Addr) (ns : List Int) (d : Int), vs = [V.ref a] ∧ zs = [.int d] ∧ SqT K H a (ns.map V.int) ∧ ∀ m : Int, ((ns = [] ∧ m = d) ∨ (m ∈ ns ∧ ∀ j ∈ ns, j ≤ m)) → Q (.int m) H
theorem crMaxD {X : Cx} (K : PySem.W.Frag) (hc : X.calm = true) (hK : X.K = K := by rfl) : CallRK X (.builtin "max") ["default"] (rMaxD K) := by
  subst hK
  intro pins s σ H vs zs us ws Q I r rz h
  obtain ⟨a, ns, d, rfl, rfl, hs, q⟩ := h
  obtain ⟨its, rv, ht, _⟩ := I.tuple hs
  rw [Vals.ref1 r]
  obtain ⟨u, rfl, ru⟩ := vals1 rz
  refine maxD_tup (I.ok.hd hc) ht rv.ints fun h' tk v hk hv => ?_
  rcases hv with ⟨e, rfl⟩ | ⟨m, t', rfl, h1, h2⟩
  · exact ⟨.int d, H, I.kept hk, ru, q d (.inl ⟨e, rfl⟩)⟩
  · exact ⟨.int m, H, I.kept hk, ⟨_, rfl⟩, q m (.inr ⟨h1, h2⟩)⟩
end K41

/-! K41L9 -/
/-! Whether the family of a drawn lot is right. -/
namespace K41
open PySem PySem.Spec PyProof.Rows L2
abbrev NLR : List Str := ["_law_pot_here", "_law_size", "_law_products", "_law_lot", "_law_family", "_law_due", "_law_square", "error", "_law_turn", "_law_one", "_law_u"]
theorem rep_flat {α : Type} (a : α) : ∀ k : Nat, (List.replicate k [a]).flatten = List.replicate k a
  | 0 => rfl
  | k + 1 => by rw [List.replicate_succ, List.flatten_cons, rep_flat a k, List.replicate_succ]; rfl
/-- all but the first letter's exponent are 0 -/
def tailZ (u : List Int) : Bool := (u.drop 1).all fun z => decide (z = 0)
theorem tailZ_iff {u : List Int} : tailZ u = true ↔ ∀ (i : Nat) (x : Int), 1 ≤ i → u[i]? = some x → x = 0 := by
  unfold tailZ
  rw [List.all_eq_true]
  constructor
  · intro h i x hi hx
    have z := h x (List.mem_of_getElem? (i := i - 1) (by rw [List.getElem?_drop, show 1 + (i - 1) = i by omega]; exact hx))
    exact of_decide_eq_true z
  · intro h x hx
    obtain ⟨i, hi⟩ := List.getElem?_of_mem hx
    rw [List.getElem?_drop] at hi
    exact decide_eq_true (h _ x (by omega) hi)
section
variable {P : Program} {w : World} {K : PySem.W.Frag} {mg : Str → Option Value} {base : Heap}
theorem sc_LR : FnScope NLR ["_law_pot_here"] (defScope (top 85)) := ⟨rfl, rfl, rfl, by decide +kernel, rfl, by decide +kernel, by decide +kernel⟩
/-- what the catch needs -/
structure Rx (K : PySem.W.Frag) : Prop where
  xf : XfC K (ga K "Refused")
  ex : PySem.W.exmOne K (.ref (ga K "Refused")) (.ref (ga K "Refused")) = some true
theorem ok_LR (R : Rf P K mg) (Y : Rx K) (T : Tx K mg) (C : Tc K mg) (S : Ts K) : Ok P w K mg base "_law_lot_right" 10 ["_law_pot_here"] spFR := by
  refine mkOk T.d_law_lot_right sc_LR (fun _ _ _ _ _ _ us hl => match us, hl with | [_], _ => rfl) (fun vs H Q E h => by obtain ⟨p, rfl, _⟩ := h; rfl) (fun cdv A outer s H vs Q E f hr h => ?_)
  obtain ⟨p, rfl, hp, q⟩ := h
  refine ⟨_, pss_cons (ps_set (i := 1) sc_LR.nd rfl (Or.inr rfl) (pe_op op_add pe_int (pcall (ok_Dip T) (hr.mono (by decide)) (pa_cons (pv 0) (pa_cons pe_int pa_nil)))))
    (pss_cons (ps_set (i := 2) sc_LR.nd rfl (Or.inr rfl) (pe_lc (own := [("_law_turn", 8)]) (g := gName 8) (tt := tYes) rfl sc_LR.nd (pi_range1 rfl T.f_range (pa_cons (pcall (ok_Dip T) (hr.mono (by decide)) (pa_cons (pv 0) (pa_cons pe_int pa_nil))) pa_nil))
        (blkOk_by (N := NLR) (sc := defScope (top 85)) (by decide +kernel)) (fun _ _ _ _ _ => pg_name (i := 8) sc_LR.nd rfl (Or.inl rfl)) (fun _ _ _ _ _ => pts_nil)
        (fun _ _ _ _ _ => pcall (ok_LProd T) (hr.mono (by decide)) (pa_cons (pv 1) (pa_cons (pcall (ok_Pick T) (hr.mono (by decide)) (pa_cons (pv 0) (pa_cons (pcall (ok_Subs T) (hr.mono (by decide)) (pa_cons (pv 1) pa_nil)) pa_nil))) pa_nil)))))
    (pss_cons (ps_set (i := 3) sc_LR.nd rfl (Or.inl rfl) (StX.pe_makeR C.LO.mr (ok_LI T C) (hr.mono (by decide)) (by rfl) C.LO.gl pass0 (pa_cons (pv 1) (pa_cons (pe_callTy (crTup K) (by rfl) T.f_tuple (by decide +kernel) (pa_cons (pv 2) pa_nil)) pa_nil))))
    (pss_cons (ps_set (i := 4) sc_LR.nd rfl (Or.inl rfl) (pcall (ok_FO T C) hr (pa_cons (pv 3) pa_nil)))
    (pss_cons (ps_setLc (i := 5) (own := [("_law_one", 9)]) (g := gName 9) rfl sc_LR.nd rfl rfl (sw_true rfl rfl rfl (by decide +kernel)) (pi_lK K (pcall (ok_Subs T) (hr.mono (by decide)) (pa_cons (pv 1) pa_nil)))
        (blkOk_by (N := NLR) (sc := defScope (top 85)) (by decide +kernel)) (fun _ _ _ _ _ => pg_name (i := 9) sc_LR.nd rfl (Or.inr rfl)) (fun _ _ _ _ _ => pts_one (pt_cmpR (op_eqK K hr.units) (pe_lc (own := [("_law_u", 10)]) (g := gName 10) rfl sc_LR.nd (pi_lK K (pv 2))
          (blkOk_by (N := NLR) (sc := scR 85 4) (by decide +kernel)) (fun _ _ _ _ _ => pg_name (i := 10) sc_LR.nd rfl (Or.inl rfl)) (fun _ _ _ _ _ => pts_one (pt_val (pcall (ok_LDiv T) (hr.mono (by decide)) (pa_cons (pv 10) (pa_cons (pcall (ok_LProd T) (hr.mono (by decide)) (pa_cons (pv 1) (pa_cons (pv 9) pa_nil))) pa_nil))))) (fun _ _ _ _ _ => pv 10)) (pe_lst pa_nil) (nomark _)))
        (fun _ _ _ _ _ => pv 9))
    (pss_cons (ps_if (PW.pt (pw_or (pt_cmpR (op_neK K hr.units) (pe_callB (crSortL (u8 hr.units)) (by rfl) T.f_sorted (by decide +kernel) (pa_cons (pe_callTy (crListFam T C (hr.mono (by decide)) rfl) (by rfl) T.f_list (by decide +kernel) (pa_cons (pv 4) pa_nil)) pa_nil)) (pe_callB (crSortL (u8 hr.units)) (by rfl) T.f_sorted (by decide +kernel) (pa_cons (pv 5) pa_nil)) (nomark _))
        (pw_or (pt_cmpR op_ne (SlX.pe_propSl (E := E0) (pv 4) C.FA.sc C.pF0.at_ C.pF0.get C.pF0.tk C.pF0.rc (ok_Cor C) (hr.mono (by decide)) (fun _ _ _ _ z => z)) (pv 1) (nomark _))
        (pw_or1 (pt_cmpR (op_neOwn C.LO.si.cm S.nL C.mLe.me.at_ C.mLe.me.fn (ok_LEq T C) (hr.mono (by decide))) (pcall (ok_LoF T C) hr (pa_cons (pv 4) pa_nil)) (pv 3) (nomark _)))))) (pss_one ps_never) pss_nil)
    (pss_cons (ps_set (i := 6) sc_LR.nd rfl (Or.inl rfl) (pe_op op_cat (pv 2) (pe_lst (pa_cons (pe_callTy (crTup K) (by rfl) T.f_tuple (by decide +kernel) (pa_cons (pe_op op_cat (pe_lst (pa_cons pe_int pa_nil)) (pe_op op_rep (pe_lst (pa_cons pe_int pa_nil)) (pe_op op_sub (pv 1) pe_int))) pa_nil)) pa_nil))))
    (pss_cons (ps_if (pt_cmpR (op_neK K hr.units) (pe_lc (own := [("_law_u", 10)]) (g := gName 10) rfl sc_LR.nd (pi_lK K (pv 2)) (blkOk_by (N := NLR) (sc := defScope (top 85)) (by decide +kernel)) (fun _ _ _ _ _ => pg_name (i := 10) sc_LR.nd rfl (Or.inl rfl))
        (fun _ _ _ _ _ => pts_one (PW.pt (pw_and (pt_cmpR op_le (pe_ix (ixT K) (pv 10) pe_int (fun _ _ => rfl)) pe_int (nomark _)) (pw_and1 (pt_cmpR op_eq (pe_callBK (crMaxD K rfl) (by rfl) T.f_max (by decide +kernel) (pa_cons (pe_slice (sl_tA K) (pv 10) (po_some pe_int) po_none) pa_nil) (pk_cons pe_int pk_nil)) pe_int (nomark _)))))) (fun _ _ _ _ _ => pv 10)) (pe_lst pa_nil) (nomark _))
        (pss_one (ps_ret pe_bl)) pss_nil)
    (pss_cons (ps_try_as (i := 7) (tb := fun W => tDrop (tCallS (spFOX K) (WE W) (tCons (StX.tMakeR (ga K "Lot") (spLI K) E0 (tCons (tVar 1) (tCons (tCB (rTupK K) (tCons (tVar 6) tNil)) tNil))) tNil)))
        (ts := fun a cls d => tRet (tOp (rEqD K) (tXf a cls d (ga K "Refused") "reason" (tVar 7)) (tTup (tCons (tC (.str "squares")) tNil)))) (Wout := fun _ _ _ _ => False) rfl rfl sc_LR.nd rfl rfl ⟨rfl, by decide, Or.inl R.gl⟩ takes0
        (fun W pn xe tk _ => pss_one (ps_expr (xcall (ok_FOX (K := K) R T C) (hr.mono (by decide)) tk (pa_cons (StX.pe_makeR C.LO.mr (ok_LI (K := K) T C) (hr.mono (by decide)) (by rfl) C.LO.gl pass0 (pa_cons (pv 1) (pa_cons (pe_callTy (crTup K) (by rfl) T.f_tuple (by decide +kernel) (pa_cons (pv 6) pa_nil)) pa_nil))) pa_nil))))
        (fun a oe cls d pn hz hf => pss_one (ps_ret (pe_cmpR (op_eqK K hr.units) (pe_xf Y.xf R.noR hz hf (pv 7)) (pe_tup (pa_cons pe_str pa_nil)) (nomark _)))))
      pss_never)))))))), ?_⟩
  obtain ⟨x, y, z, hpe⟩ := id hp
  refine ⟨_, rfl, p, 6, x, y, z, rfl, hpe, by decide, by decide, fun r x1 y1 z1 h0 h6 => ?_⟩
  have s1 : SP p H (upd H p (.lst [.int x1, .int y1, .int z1])) := sp_upd
  generalize hH1 : upd H p (.lst [.int x1, .int y1, .int z1]) = H1 at s1 ⊢
  obtain ⟨n, hn⟩ : ∃ n : Nat, 1 + r = (n : Int) := ⟨(1 + r).toNat, by omega⟩
  have hn1 : 1 ≤ n := by omega
  have hn6 : n ≤ 6 := by omega
  refine ⟨_, _, rfl, rfl, ?_⟩
  dsimp only
  rw [hn]
  obtain ⟨xb, yb, zb, hpb⟩ := s1.pot
  refine ⟨_, rfl, p, 5, xb, yb, zb, rfl, hpb, by decide, by decide, fun m x2 y2 z2 g0 g5 => ?_⟩
  have s2 : SP p H (upd H1 p (.lst [.int x2, .int y2, .int z2])) := sp_dip s1
  generalize hH2 : upd H1 p (.lst [.int x2, .int y2, .int z2]) = H2 at s2 ⊢
  refine ⟨_, rfl, by omega, by omega, fun D hD => ?_⟩
  have hDp : D ≠ p := by
    rintro rfl
    obtain ⟨_, _, _, z⟩ := s2.pot
    rw [hD] at z
    cases z
  refine lc_it walk_rng (fun j Hc => SP p H2 Hc ∧ ∃ U : List (List Int), LL Hc D U ∧ U.length = j ∧ ∀ u ∈ U, ∃ t, On n t ∧ u = prod n t) ⟨sp_mut (sp_refl s2.pot) s2.pot hD, [], ⟨[], upd_same, .nil⟩, rfl, fun _ h => by cases h⟩ (fun _ _ _ _ => trivial) (fun j v Hc Hc' hj hPc yc => ?_) (fun Hc hPc => ?_)
  · obtain ⟨sc, U, hU, hUl, hUp⟩ := hPc
    obtain ⟨rfl, rfl⟩ := yc
    refine ⟨rfl, yes (iteT ⟨_, rfl, _, rfl, _, rfl, n, rfl, hn6, fun H3 e s3 he hE => ?_⟩)⟩
    have sc3 := sc.go s3
    have hlen := subs_few hn6
    refine ⟨p, e, subs n, rfl, sc3.pot, hE, by rw [subs_len]; exact Nat.two_pow_pos n, by omega, fun H4 b k s4 hk hb => ?_⟩
    refine ⟨n, b, k, rfl, hb, by omega, fun H5 q5 s5 hq5 hi5 => ?_⟩
    have sc5 := (sc3.trans s4).go s5
    obtain ⟨vs5, e5, r5⟩ := (s4.ll sc3.pot (hU.go s3)).go s5
    have hl5 : U.length = vs5.length := Paired.length r5
    have ts : TupS H5 (upd H5 D (.lst (vs5 ++ [V.ref q5]))) := tups_upd e5 fun _ z => nomatch z
    refine ⟨vs5, e5, big (by omega), sp_mut sc5 s2.pot hD, U ++ [prod n k], ⟨_, upd_same, rts_app (rts_go ts r5) (.cons ⟨q5, rfl, ts _ _ hi5⟩ .nil)⟩, by rw [List.length_append, hUl]; rfl, fun u hu => ?_⟩
    rcases List.mem_append.mp hu with hu | hu
    · exact hUp u hu
    · rw [List.mem_singleton.mp hu]
      exact ⟨k, mem_subs.mp hk, rfl⟩
  obtain ⟨sc, U, hU, hUl, hUp⟩ := hPc
  have hU4 : U.length ≤ 4 := by omega
  have sc0 := s2.trans sc
  clear hpe hpb
  have hUn : ∀ u ∈ U, u.length = n := fun u hu => by
    obtain ⟨t, _, rfl⟩ := hUp u hu
    exact prod_len n t
  have hU01 : ∀ u ∈ U, ∀ z ∈ u, z = 0 ∨ z = 1 := fun u hu z hz => by
    obtain ⟨t, _, rfl⟩ := hUp u hu
    exact prod_01 hz
  obtain ⟨vs, hvs, rvs⟩ := id hU
  refine ⟨_, rfl, _, rfl, D, vs, rfl, .inl ⟨SqL.of hvs, fun t ht => ?_⟩⟩
  intro xl dxl hxl hdxl nxl
  have sT : Same Hc (upd Hc t (.tup vs)) := same_new ht
  refine mk_lot hn1 (by omega) (ks := U) ⟨vs, upd_same, rts_go (tups_of sT) rvs⟩ ⟨by omega, fun k hk => ⟨hUn k hk, fun z hz => by rcases hU01 k hk z hz with e | e <;> omega⟩, few_short (by omega)⟩ hxl hdxl nxl fun H3 M s3 hMn hMs hMm hlot => ⟨rfl, ?_⟩
  have sC3 := sT.trans s3
  have hML : ∀ m ∈ M, m.length = n := fun m hm => hUn m ((hMm m).mp hm).1
  have hM01 : ∀ m ∈ M, ∀ z ∈ m, z = 0 ∨ z = 1 := fun m hm => hU01 m ((hMm m).mp hm).1
  have hM4 : M.length ≤ 4 := Nat.le_trans (nd_le hMn fun m hm => ((hMm m).mp hm).1) hU4
  refine ⟨_, rfl, xl, n, M, rfl, noSq_01 hM01, hlot, hn1, hn6, by omega, hML, fun H4 yf L Mx s4 hyf hLn hLm tops hfam => ?_⟩
  have sC4 := sC3.trans s4
  have hU4' := hU.go sC4
  refine ⟨_, rfl, n, rfl, hn6, fun H5 p5 s5 hp5 hks => ?_⟩
  obtain ⟨us, hus, ru⟩ := hks
  have hlen := subs_few hn6
  have sC5 := sC4.trans s5
  refine ⟨p5, rfl, ⟨us, SqL.of hus⟩, fun D2 hD2 => ?_⟩
  refine lc_from (xs := us) (ks := subs n) RT RT (fun _ _ _ _ s r => r.go s) (fun k => if U.any (fun u => dv u (prod n k)) = true then none else some k) walk_list (fun H6 s6 => SqL.of (s6 _ _ hus)) ru hD2 (by omega) (fun k0 x H6 Kk N hk0 s6 rr h1 h2 => ?_) (fun H6 ys s6 hy6 pr => ?_)
  · obtain ⟨b, rfl, hb⟩ := rr
    have hvs6 := (sC5.trans s6) _ _ hvs
    refine ⟨rfl, _, rfl, D, rfl, ⟨vs, SqL.of hvs6⟩, fun D3 hD3 => ?_⟩
    refine lc_from (xs := vs) (ks := U) RT RT (fun _ _ _ _ s r => r.go s) (fun u => if dv u (prod n k0) = true then some u else none) walk_list (fun H7 s7 => SqL.of (s7 _ _ hvs6)) (rts_go (tups_of (sC5.trans s6)) rvs) hD3 (by omega) (fun u0 x H7 K7 N7 hu0 s7 r7 g1 g2 => ?_) (fun H7 y7 s7 hy7 pr7 => ?_)
    · obtain ⟨b7, rfl, hb7⟩ := r7
      refine ⟨rfl, _, rfl, _, rfl, _, rfl, n, b, k0, rfl, s7 _ _ (s6 _ _ hb), by omega, fun H8 q8 s8 hq8 hi8 => ?_⟩
      refine ⟨b7, q8, u0, prod n k0, rfl, s8 _ _ (s7 _ _ hb7), hi8, by rw [hUn u0 hu0, prod_len], by rw [hUn u0 hu0]; omega, fun H9 s9 => ⟨_, rfl, ?_⟩⟩
      by_cases hd : dv u0 (prod n k0) = true
      · rw [hd]
        exact iteT ⟨_, rfl, g1 u0 _ _ (if_pos hd) (s8.trans s9) ⟨b7, rfl, (s8.trans s9) _ _ (s7 _ _ hb7)⟩⟩
      · rw [Bool.eq_false_iff.mpr hd]
        exact iteF (g2 _ (if_neg hd) (s8.trans s9))
    · refine ⟨bigle (by decide), fun p7 hp7 => eq_ll (LL.go (same_new hp7) ⟨y7, hy7, pr7⟩) ⟨[], upd_same, .nil⟩ ⟨_, rfl, ?_⟩⟩
      have s8 := s7.trans (same_new (o := .lst []) hp7)
      have hiff : (U.filterMap fun u => if dv u (prod n k0) = true then some u else none) = [] ↔ ¬ U.any (fun u => dv u (prod n k0)) = true := by
        rw [List.filterMap_eq_nil_iff, List.any_eq_true]
        constructor
        · rintro h ⟨u, hu, d⟩
          have z := h u hu
          rw [if_pos d] at z
          cases z
        · intro h u hu
          exact if_neg fun d => h ⟨u, hu, d⟩
      by_cases ha : U.any (fun u => dv u (prod n k0)) = true
      · rw [decide_eq_false fun z => hiff.mp z ha]
        exact iteF (h2 _ (if_pos ha) s8)
      · rw [decide_eq_true (hiff.mpr ha)]
        exact iteT ⟨_, rfl, h1 k0 _ _ (if_neg ha) s8 ⟨b, rfl, s8 _ _ (s6 _ _ hb)⟩⟩
  rw [fm_not (fun k => U.any (fun u => dv u (prod n k)) = true)] at pr
  obtain ⟨Due, hDue⟩ : ∃ Due, Due = (subs n).filter fun k => decide (¬ U.any (fun u => dv u (prod n k)) = true) := ⟨_, rfl⟩
  rw [← hDue] at pr
  have hLU : ∀ c, c ∈ L ↔ On n c ∧ ∀ u ∈ U, dv u (prod n c) = false := fun c => by
    rw [hLm c]
    exact ⟨fun h => ⟨h.1, (left_least hUp hMm h.1).mp h.2⟩, fun h => ⟨h.1, (left_least hUp hMm h.1).mpr h.2⟩⟩
  have mDue : ∀ c, c ∈ Due ↔ c ∈ L := fun c => by
    rw [hDue, List.mem_filter, mem_subs, decide_eq_true_eq, hLU, List.any_eq_true]
    constructor
    · rintro ⟨h1, h2⟩
      exact ⟨h1, fun u hu => Bool.eq_false_iff.mpr fun d => h2 ⟨u, hu, d⟩⟩
    · rintro ⟨h1, h2⟩
      refine ⟨h1, fun ⟨u, hu, d⟩ => ?_⟩
      rw [h2 u hu] at d
      cases d
  have nDue : Due.Nodup := by
    rw [hDue]
    exact (subs_nodup n).sublist List.filter_sublist
  have lDue : Due.length ≤ 64 := Nat.le_trans (nd_le nDue fun k hk => mem_subs.mpr ((hLm k).mp ((mDue k).mp hk)).1) hlen
  have lL : L.length ≤ 64 := Nat.le_trans (nd_le hLn fun k hk => mem_subs.mpr ((hLm k).mp hk).1) hlen
  have hF := left_fam hLn hUp hLU
  have sC6 := sC5.trans s6
  have hfam6 := hfam.go (s5.trans s6)
  have hlot6 := hlot.go (s4.trans (s5.trans s6))
  obtain ⟨dx, dd, tm, lf, hsF, hdF, hMF, zs, hzs, rz⟩ := id hfam6
  have hzl : L.length = zs.length := Paired.length rz
  refine ⟨_, rfl, yf, dx, _, _, _, lf, zs, rfl, hsF, hzs, by omega, fun H7 q7 s7 hq7 hl7 => ⟨q7, L, rfl, ⟨zs, hl7, rts_go (tups_of s7) rz⟩, by omega, fun L' ysA pA pmA srA rrA hpA => ?_⟩⟩
  have sA : Same H7 (upd H7 pA (.lst ysA)) := same_new hpA
  have hLA : LL (upd H7 pA (.lst ysA)) pA L' := ⟨ysA, upd_same, rts_go (tups_of sA) rrA⟩
  generalize hH8 : upd H7 pA (.lst ysA) = H8 at sA hLA ⊢
  have sC8 := sC6.trans (s7.trans sA)
  refine ⟨_, rfl, D2, Due, rfl, LL.go (s7.trans sA) ⟨ys, hy6, pr⟩, by omega, fun D' ysB pB pmB srB rrB hpB => ?_⟩
  have sB : Same H8 (upd H8 pB (.lst ysB)) := same_new hpB
  have hLB : LL (upd H8 pB (.lst ysB)) pB D' := ⟨ysB, upd_same, rts_go (tups_of sB) rrB⟩
  generalize hH9 : upd H8 pB (.lst ysB) = H9 at sB hLB ⊢
  refine ne_ll (hLA.go sB) hLB ⟨_, rfl, ?_⟩
  have eLD : L' = D' := lex_same srA srB (pmA.nodup_iff.mpr hLn) (pmB.nodup_iff.mpr nDue) fun c => pmA.mem_iff.trans ((mDue c).symm.trans pmB.mem_iff.symm)
  rw [decide_eq_true eLD]
  refine iteF ?_
  have s69 := s7.trans (sA.trans sB)
  have hfam9 := hfam6.go s69
  obtain ⟨dx9, _, _, _, hsF9, _⟩ := id hfam9
  refine ⟨_, rfl, yf, dx9, _, rfl, hsF9, yf, n, L, Mx, rfl, hfam9, _, rfl, rfl, _, rfl, ?_⟩
  rw [decide_eq_true rfl]
  refine iteF ?_
  refine ⟨_, rfl, yf, n, L, Mx, rfl, hfam9, hF, hn1, hn6, fun H10 x2 M2 s10 hx2 nd2 sr2 mm2 hlot2 => ?_⟩
  have eM : M2 = M := lex_same sr2 hMs nd2 hMn fun c => (mm2 c).trans ((left_back hLn hUp hLU c).symm.trans (hMm c).symm)
  subst eM
  have hlot10 := hlot6.go (s69.trans s10)
  obtain ⟨dxa, ta, hsa, _⟩ := id hlot2
  obtain ⟨dxb, tb, hsb, _⟩ := id hlot10
  refine ⟨_, rfl, x2, dxa, _, xl, _, dxb, _, rfl, rfl, hsa, hsb, C.nLO, ⟨x2, xl, n, M2, rfl, hlot2, hlot10, true, rfl, false, rfl, iteF ?_⟩⟩
  have sC10 := sC6.trans (s69.trans s10)
  refine ⟨_, rfl, bigle (by show 1 ≤ _; decide), fun l1 hl1 => ⟨bigle (by show 1 ≤ _; decide), fun l2 hl2 => ?_⟩⟩
  have sl1 : Same H10 (upd H10 l1 (.lst [.int 2])) := same_new hl1
  have sl2 : Same (upd H10 l1 (.lst [.int 2])) (upd (upd H10 l1 (.lst [.int 2])) l2 (.lst [.int 0])) := same_new hl2
  have el1 : upd (upd H10 l1 (.lst [.int 2])) l2 (.lst [.int 0]) l1 = some (.lst [.int 2]) := sl2 _ _ upd_same
  have el2 : upd (upd H10 l1 (.lst [.int 2])) l2 (.lst [.int 0]) l2 = some (.lst [.int 0]) := upd_same
  have sl12 := sl1.trans sl2
  generalize hHl : upd (upd H10 l1 (.lst [.int 2])) l2 (.lst [.int 0]) = Hl at el1 el2 sl12 ⊢
  refine ⟨_, rfl, n, 1, rfl, rfl, l2, (n : Int) - 1, _, rfl, rfl, el2, by omega, by omega, bigle (by show 1 * _ ≤ _; omega), fun l3 hl3 => ?_⟩
  have sl3 : Same Hl (upd Hl l3 (.lst (List.replicate ((n : Int) - 1).toNat [V.int 0]).flatten)) := same_new hl3
  have el3 : upd Hl l3 (.lst (List.replicate ((n : Int) - 1).toNat [V.int 0]).flatten) l3 = some (.lst ((List.replicate (n - 1) (0 : Int)).map V.int)) := by
    rw [upd_same, rep_flat, show ((n : Int) - 1).toNat = n - 1 by omega, List.map_replicate]
  generalize hHm : upd Hl l3 (.lst (List.replicate ((n : Int) - 1).toNat [V.int 0]).flatten) = Hm at sl3 el3 ⊢
  refine ⟨l1, l3, _, _, rfl, rfl, sl3 _ _ el1, el3, bigle (by rw [List.length_map, List.length_replicate]; show 1 + _ ≤ _; omega), fun l4 hl4 => ?_⟩
  have sl4 : Same Hm (upd Hm l4 (.lst ([V.int 2] ++ (List.replicate (n - 1) (0 : Int)).map V.int))) := same_new hl4
  obtain ⟨qq, hqq⟩ : ∃ qq : List Int, qq = 2 :: List.replicate (n - 1) 0 := ⟨_, rfl⟩
  have el4 : upd Hm l4 (.lst ([V.int 2] ++ (List.replicate (n - 1) (0 : Int)).map V.int)) l4 = some (.lst (qq.map V.int)) := by
    rw [upd_same, hqq]
    rfl
  generalize hHn : upd Hm l4 (.lst ([V.int 2] ++ (List.replicate (n - 1) (0 : Int)).map V.int)) = Hn at sl4 el4 ⊢
  refine ⟨l4, _, rfl, .inl ⟨SqL.of el4, fun tq htq => ?_⟩⟩
  have sl5 : Same Hn (upd Hn tq (.tup (qq.map V.int))) := same_new htq
  have htq2 : IT (upd Hn tq (.tup (qq.map V.int))) tq qq := upd_same
  generalize hHo : upd Hn tq (.tup (qq.map V.int)) = Ho at sl5 htq2 ⊢
  refine ⟨bigle (by show 1 ≤ _; decide), fun l6 hl6 => ?_⟩
  have sl6 : Same Ho (upd Ho l6 (.lst [V.ref tq])) := same_new hl6
  have el6 : upd Ho l6 (.lst [V.ref tq]) l6 = some (.lst [V.ref tq]) := upd_same
  generalize hHp : upd Ho l6 (.lst [V.ref tq]) = Hp at sl6 el6 ⊢
  have sCp := sC10.trans (sl12.trans (sl3.trans (sl4.trans (sl5.trans sl6))))
  have hvl : U.length = vs.length := Paired.length rvs
  refine ⟨D, l6, _, _, rfl, rfl, sCp _ _ hvs, el6, bigle (by show vs.length + 1 ≤ _; omega), fun l7 hl7 => ?_⟩
  have sl7 : Same Hp (upd Hp l7 (.lst (vs ++ [V.ref tq]))) := same_new hl7
  have sCq := sCp.trans sl7
  have hSQ : LL (upd Hp l7 (.lst (vs ++ [V.ref tq]))) l7 (U ++ [qq]) := ⟨_, upd_same, rts_app (rts_go (tups_of sCq) rvs) (.cons ⟨tq, rfl, sl7 _ _ (sl6 _ _ htq2)⟩ .nil)⟩
  generalize hHq : upd Hp l7 (.lst (vs ++ [V.ref tq])) = Hq at sl7 sCq hSQ ⊢
  have hvq := sCq _ _ hvs
  refine ⟨_, rfl, D, rfl, ⟨vs, SqL.of hvq⟩, fun D4 hD4 => ?_⟩
  refine lc_from (xs := vs) (ks := U) RT RT (fun _ _ _ _ s r => r.go s) (fun u => if tailZ u = true then some u else none) walk_list (fun H7 s7 => SqL.of (s7 _ _ hvq)) (rts_go (tups_of sCq) rvs) hD4 (by omega) (fun u0 x H7 K7 N7 hu0 s7 r7 g1 g2 => ?_) (fun Hr yr sr hyr prr => ?_)
  · obtain ⟨b7, rfl, hb7⟩ := r7
    have hb7' : IT H7 b7 u0 := s7 _ _ hb7
    have hu0n := hUn u0 hu0
    obtain ⟨c0, hc0⟩ : ∃ c0, u0[0]? = some c0 := ⟨_, List.getElem?_eq_getElem (by omega)⟩
    refine ⟨rfl, _, rfl, b7, _, 0, _, rfl, rfl, SqT.of hb7', atI_nat (j := 0) (show (u0.map V.int)[0]? = some (V.int c0) by rw [List.getElem?_map, hc0]; rfl), _, _, rfl, rfl, _, rfl, ?_⟩
    have hc1 : c0 ≤ 1 := by rcases hU01 u0 hu0 c0 (List.mem_of_getElem? hc0) with e | e <;> omega
    rw [decide_eq_true hc1]
    refine iteT ⟨_, rfl, (1 : Int), rfl, noPart (sl_drop (i := 1) hb7' (by decide) (by omega) fun p8 hp8 => ?_)⟩
    have s8 : Same H7 (upd H7 p8 (.tup ((u0.drop 1).map V.int))) := same_new hp8
    refine ⟨p8, u0.drop 1, 0, rfl, rfl, SqT.of upd_same, fun mm hmm => ⟨rfl, _, rfl, ?_⟩⟩
    have hiff : V.int mm = V.int 0 ↔ tailZ u0 = true := by
      rw [V.int.injEq]
      unfold tailZ
      rw [List.all_eq_true]
      constructor
      · rintro rfl z hz
        rcases hmm with ⟨e, _⟩ | ⟨_, h⟩
        · rw [e] at hz
          cases hz
        · have z1 := h z hz
          rcases hU01 u0 hu0 z (List.mem_of_mem_drop hz) with e | e
          · exact decide_eq_true e
          · omega
      · intro h
        rcases hmm with ⟨_, e⟩ | ⟨h1, _⟩
        · exact e
        · exact of_decide_eq_true (h mm h1)
    by_cases ht : tailZ u0 = true
    · rw [decide_eq_true (hiff.mpr ht)]
      exact iteT ⟨_, rfl, g1 u0 _ _ (if_pos ht) s8 ⟨b7, rfl, s8 _ _ hb7'⟩⟩
    · rw [decide_eq_false fun z => ht (hiff.mp z)]
      exact iteF (g2 _ (if_neg ht) s8)
  refine ⟨bigle (by decide), fun p8 hp8 => ne_ll (LL.go (same_new hp8) ⟨yr, hyr, prr⟩) ⟨[], upd_same, .nil⟩ ⟨_, rfl, ?_⟩⟩
  have sr8 := sr.trans (same_new (o := .lst []) hp8)
  have sCr := sCq.trans sr8
  by_cases hempty : (U.filterMap fun u => if tailZ u = true then some u else none) = []
  · rw [decide_eq_true hempty]
    refine iteF ?_
    have hno : ∀ u ∈ U, ¬ (∀ (i : Nat) (x : Int), 1 ≤ i → u[i]? = some x → x = 0) := fun u hu z => by
      have y := List.filterMap_eq_nil_iff.mp hempty u hu
      rw [if_pos (tailZ_iff.mpr z)] at y
      cases y
    obtain ⟨vq, hvq2, rvq⟩ := hSQ.go sr8
    have hqn : qq.length = n := by
      rw [hqq, List.length_cons, List.length_replicate]
      omega
    have hq1 : ∀ i : Nat, 1 ≤ i → i < n → qq[i]? = some 0 := fun i h1 h2 => by
      rw [hqq, show i = (i - 1) + 1 by omega, List.getElem?_cons_succ, List.getElem?_replicate, if_pos (by omega)]
    have hsqr := square_least hqn hUp hq1 hno
    refine ⟨_, rfl, _, rfl, l7, vq, rfl, .inl ⟨SqL.of hvq2, fun t8 ht8 => ?_⟩⟩
    have st8 := same_new (o := HO.tup vq) ht8
    intro xs8 dx8 hxs8 hdx8 nx8
    refine mk_lot hn1 (by omega) (ks := U ++ [qq]) ⟨vq, upd_same, rts_go (tups_of st8) rvq⟩ ⟨by rw [List.length_append]; show _ + 1 ≤ _; omega, fun k hk => ?_, few_short (by rw [List.length_append]; show _ + 1 ≤ _; omega)⟩ hxs8 hdx8 nx8 fun Hs M3 ss nd3 _ mm3 hlot3 => ⟨rfl, ?_⟩
    · rcases List.mem_append.mp hk with hk | hk
      · exact ⟨hUn k hk, fun z hz => by rcases hU01 k hk z hz with e | e <;> omega⟩
      · rw [List.mem_singleton.mp hk]
        refine ⟨hqn, fun z hz => ?_⟩
        rw [hqq] at hz
        rcases List.mem_cons.mp hz with e | hz
        · omega
        · have := (List.mem_replicate.mp hz).2
          omega
    have hl3 : ∀ m ∈ M3, m.length = n := fun m hm => by
      rcases List.mem_append.mp ((mm3 m).mp hm).1 with hk | hk
      · exact hUn m hk
      · rw [List.mem_singleton.mp hk]
        exact hqn
    have hM3 : M3.length ≤ 5 := Nat.le_trans (nd_le nd3 fun m hm => ((mm3 m).mp hm).1) (by rw [List.length_append]; show _ + 1 ≤ _; omega)
    have hsq3 : noSq M3 = false := Bool.eq_false_iff.mpr fun z => by
      unfold noSq at z
      have z1 := List.all_eq_true.mp z qq ((mm3 qq).mpr hsqr)
      have z2 := List.all_eq_true.mp z1 2 (by rw [hqq]; exact List.mem_cons_self)
      exact absurd (of_decide_eq_true z2) (by decide)
    refine ⟨xs8, n, M3, rfl, hlot3, by omega, fun m hm => by rw [hl3 m hm]; omega, hsq3, fun Hx d t sx hd ht => ⟨true, Y.ex, fun _ a ha => ?_, fun z => nomatch z⟩⟩
    refine ⟨_, rfl, rfl, rfl, d, _, _, rfl, hd, rfl, bigle (by show 1 ≤ _; decide), fun t9 ht9 => ?_⟩
    have s9 : Same Hx (upd Hx t9 (.tup [V.str "squares"])) := same_new ht9
    refine ⟨.tuple [.str "squares"], .tuple [.str "squares"], .tup (SqT.of (s9 _ _ ht)) (.cons (.str _) .nil), .tup (SqT.of upd_same) (.cons (.str _) .nil), by decide +kernel, by decide +kernel, ?_⟩
    have e1 : PyData.eqv (.tuple [.str "squares"]) (.tuple [.str "squares"]) = true := by decide +kernel
    rw [e1]
    exact q _ (sc0.go (sCr.trans (st8.trans (ss.trans (sx.trans s9)))))
  · rw [decide_eq_false hempty]
    exact iteT (q _ (sc0.go sCr))
end
end K41

/-! K41Q -/
/-! enumerate(tuple). -/
namespace K41
open PySem PySem.Spec PyProof.Rows L2
open AutoSeq1 (wpAny_loadPart')
theorem enum_newT (l : Addr) (items : Array Value) :
    Meets (Builtin.«enumerate.__new__» ⟨[.type "enumerate", .ref l], []⟩) (fun _ R s => s.heap.IsTuple l items ∧
      R (.ok (.ret (.ref (s.heap.push { cls := .type "tuple_iterator", data := .fields #[.ref l, .int 0 0] }).objs.size)))
        { s with heap := (s.heap.push { cls := .type "tuple_iterator", data := .fields #[.ref l, .int 0 0] }).push { cls := .type "enumerate", data := .fields #[.none, .bool false, .ref s.heap.objs.size, rawInt 0, .none, .none] } }) :=
  .of_wp fun prog w A R s h => by
    obtain ⟨hp, g, d, tk, os⟩ := s; obtain ⟨hL, h⟩ := h
    have hsub := sub_enumerate
    obtain ⟨o0, hl, _⟩ := id hL
    wp_walk using wpAny_loadPart' hl
    refine wpAny_stack_any fun st => wpAny_pure ?_
    split
    · rename_i c _ _ _ _ _
      cases (c == Value.type "enumerate")
      · wp_walk using wpAny_loadPart' hl, wpAny_pyIter_tuple hL
        exact ⟨_, rfl, h⟩
      · wp_walk using wpAny_loadPart' hl, wpAny_pyIter_tuple hL
        exact ⟨_, rfl, h⟩
    · wp_walk using wpAny_loadPart' hl, wpAny_pyIter_tuple hL
      exact ⟨_, rfl, h⟩
section
variable {prog : Program} {w : World} {A : Around} {E : Value → Shared → Prop} {s : Shared}
theorem call_enumT {l : Addr} {items : Array Value} {Q : Value → Shared → Prop} (hL : s.heap.IsTuple l items)
    (h : ∀ h', IsEnum h' (s.heap.objs.size + 1) s.heap.objs.size 0 .none → h'.IsTupleIter s.heap.objs.size l 0 → h'.objs.size = s.heap.objs.size + 2 →
      (∀ b o, s.heap.get? b = some o → h'.get? b = some o) → Q (.ref (s.heap.objs.size + 1)) { s with heap := h' }) :
    wpAny (model prog w) A (call (.type "enumerate") [.ref l]) Q E s := by
  refine callType_new F.called_enumerate (by decide) (F.typeCall_enumerate_1 _) (F.newCall_enumerate_1 _) (fun obj => F.args_object_init_2 obj _) F.entry_enumerate_new
    (enum_newT l items) ⟨hL, ?_⟩
  have hz : (s.heap.push { cls := .type "tuple_iterator", data := .fields #[.ref l, .int 0 0] }).objs.size = s.heap.objs.size + 1 := Heap.size_push ..
  show _ ∧ _
  rw [hz]
  have he : IsEnum ((s.heap.push { cls := .type "tuple_iterator", data := .fields #[.ref l, .int 0 0] }).push
      { cls := .type "enumerate", data := .fields #[.none, .bool false, .ref s.heap.objs.size, rawInt 0, .none, .none] }) (s.heap.objs.size + 1) s.heap.objs.size 0 .none := by
    have := Heap.get?_push_size (s.heap.push { cls := .type "tuple_iterator", data := .fields #[.ref l, .int 0 0] })
      (o := { cls := .type "enumerate", data := .fields #[.none, .bool false, .ref s.heap.objs.size, rawInt 0, .none, .none] }) rfl
    rw [hz] at this; exact this
  refine ⟨⟨_, he, rfl⟩, h _ he ⟨_, Heap.get?_push_of_some _ (Heap.get?_push_size _ rfl), rfl, rfl⟩ (by rw [Heap.size_push, hz]) fun b o x => Heap.get?_push_of_some _ (Heap.get?_push_of_some _ x)⟩
end
/-- the tuple at a, each item in a new pair with its place -/
def IteT (K : PySem.W.Frag) (a : Addr) : It :=
  ⟨fun i H => ∃ (xs : List V) (x : V), SqT K H a xs ∧ xs[i]? = some x, fun i H v H' => ∃ T x, v = .ref T ∧ H T = none ∧ H' = upd H T (.tup [.int (i : Nat), x]) ∧ ∀ xs, SqT K H a xs → xs[i]? = some x, fun i H => ∃ xs : List V, SqT K H a xs ∧ xs.length ≤ i⟩
theorem turn_enumT {P : Program} {w : World} {K : PySem.W.Frag} {elts : List Expr} {kk : Nat} {tpos : Pos} (a e it : Addr) (items : Array Value) :
    Turn P w K (.Tuple elts kk tpos) (IteT K a) [e, it] e (fun i h => (∃ old, IsEnum h e it ((i : Nat) : Int) old) ∧ h.IsTupleIter it a i ∧ e ≠ it) where
  mem := by simp
  obj := fun i h st b hb => by
    obtain ⟨⟨old, he⟩, ⟨o, ho, hc, hd⟩, _⟩ := st
    have e' : b = e ∨ b = it := by simpa using hb
    rcases e' with z | z
    · rw [z]; exact ⟨_, he, fun v q => nomatch q⟩
    · rw [z]; exact ⟨o, ho, fun v q => by rw [hd] at q; cases q⟩
  keep := fun i h h' st k => let ⟨⟨old, he⟩, hi, hne⟩ := st; ⟨⟨old, k e (by simp) _ he⟩, hi.at fun o q => k it (by simp) o q, hne⟩
  item := by
    intro X hP hw hK hc i pins s σ H E I hf st hg
    subst hP hw hK
    obtain ⟨⟨old, he⟩, hit, hne⟩ := st
    obtain ⟨xs, x, hq, hx⟩ := hg
    obtain ⟨its, rv, p, hz⟩ := I.tuple hq
    obtain ⟨u, hu, ru⟩ := rv.get hx
    have hel : e < s.heap.objs.size := Heap.lt_size he
    have hil : it < s.heap.objs.size := by obtain ⟨_, q, _⟩ := hit; exact Heap.lt_size q
    have hta : s.heap.IsTuple a its.toArray := p
    have hai : a ≠ it := fun z => by
      obtain ⟨o1, q1, c1, _⟩ := hta
      obtain ⟨o2, q2, c2, _⟩ := hit
      rw [z, q2] at q1
      cases q1
      rw [c1] at c2
      exact absurd c2 (by decide)
    have hae : a ≠ e := fun z => by
      obtain ⟨o1, q1, c1, _⟩ := hta
      rw [z, he] at q1
      cases q1
      exact absurd (show Value.type "enumerate" = Value.type "tuple" from c1) (by decide)
    have hlt : i < its.toArray.size := by
      have := (List.getElem?_eq_some_iff.mp hu).1
      simpa using this
    refine wpAny_pyNext_enum_itemD (Draws.tuple (A := X.A.in1) (I.ok.hd hc) it a hai its.toArray) he ⟨hit, hta⟩ hlt hne (by simp [hne, Ne.symm hae]) fun y h' tk hy ho hst hT hsz hk => ?_
    have eu : y = u := by
      have h1 : its.toArray[i]? = some u := by simpa using hu
      rw [h1] at hy
      exact (Option.some.inj hy).symm
    subst eu
    refine ⟨_, rfl, wpAny_letOwnedTupleGo_enum (s := { s with heap := h', toks := tk + 1 }) ho fun h'' he' sb => ?_⟩
    have hT2 : h''.get? s.heap.objs.size = some { cls := .type "tuple", data := .seq #[.int i tk, y] } := (sb.2 _ (Nat.ne_of_gt hel)).trans hT
    have new : ObjOk X.prog X.w (upd H s.heap.objs.size (.tup [.int (i : Nat), x])) h'' s.heap.objs.size (.tup [.int (i : Nat), x]) :=
      ⟨by show 2 ≤ sizeLine; decide, [.int i tk, y], .cons ⟨_, rfl⟩ (.cons ru .nil), ⟨_, hT2, rfl, _, rfl⟩⟩
    have I1 : Inv X pins σ (upd H s.heap.objs.size (.tup [.int (i : Nat), x])) { s with heap := h'', toks := tk + 1 } :=
      I.turnedNew (ch := [e, it]) (fun b ob hb q => (sb.2 b (fun z => hb (by simp [z]))).trans (hk b ob (fun z => hb (by simp [z])) (fun z => hb (by simp [z])) q)) hf (Nat.le_refl _) new
    refine ⟨.ref s.heap.objs.size, _, I1, rfl, ⟨_, x, rfl, I.hok.fresh (Nat.le_refl _), rfl, fun ys hy => by rw [I.tuple_inj hy hq]; exact hx⟩, ⟨⟨y, ?_⟩, hst.1.at fun o q => (sb.2 it (Ne.symm hne)).trans q, hne⟩, fun b hb => ?_⟩
    · have e1 : ((i + 1 : Nat) : Int) = (i : Int) + 1 := by omega
      rw [e1]; exact he'
    · have hb' : b < s.heap.objs.size := by
        have e' : b = e ∨ b = it := by simpa using hb
        rcases e' with z | z
        · rw [z]; exact hel
        · rw [z]; exact hil
      rw [upd_ne (Nat.ne_of_lt hb')]
      exact (hf b hb).1
  done := by
    intro X hP hw hK hc i pins s σ H E I hf st hg
    subst hP hw hK
    obtain ⟨⟨old, he⟩, hit, hne⟩ := st
    obtain ⟨xs, hq, hx⟩ := hg
    obtain ⟨its, rv, p, hz⟩ := I.tuple hq
    obtain ⟨f0, f1, f2, f3, f4, f5⟩ := hf it (by simp)
    have hl := rv.length
    have hT : s.TypeIs (.ref e) "enumerate" := ⟨_, he, rfl⟩
    unfold pyNext
    refine wpAny_bind (wpAny_attempt (wpAny_callSpecial?_slot (name := Str.ofString "__next__") hT F.slot_enumerate_next
      (wpAny_call_entry F.slot_enumerate_next hT F.entry_enumerate_next ?_ (F.args_enumerate_next_1 _))))
    show wpAny _ _ (field (.ref e) 2 >>= _) _ _ _
    refine wpAny_bind (wpAny_field he rfl (x := .ref it) rfl ?_)
    refine wpAny_bind (wpAny_nextOf_tuple_end (show X.A.handled = none from I.ok.hd hc) hit (show s.heap.IsTuple a its.toArray from p) (by simp; omega) fun h' y he' hx' => ?_)
    obtain ⟨o, ho, hc'⟩ := hx'
    refine wpAny_bind (wpAny_isInstance (T := "StopIteration") (b := true) ⟨o, ho, hc'⟩ isSubtype_stop ?_)
    exact wpAny_pure ⟨rfl, I.turned (t' := s.toks) (fun b o hb q => he' b o hb q) f0 f1 f3 f4 f5⟩
  self := fun A i s Q E st h => let ⟨⟨_, he⟩, _⟩ := st; wpAny_pyIter_enum he h
def iEnumT (K : PySem.W.Frag) (ta : TA) : TI := fun σ H R => ta σ H fun vs H1 => ∃ a xs, vs = [.ref a] ∧ SqT K H1 a xs ∧ R (IteT K a) H1
theorem pi_enumT {X : Cx} {e : Expr} {ta : TA} {p pos tpos : Pos} {elts : List Expr} {kk : Nat} (K : PySem.W.Frag) (hg : Gl X "enumerate") (hm : X.mg "enumerate" = none) (ha : PA X [e] ta) (hK : X.K = K := by rfl) (hs : starEach [e] X.env = [(false, eval e X.env)] := by rfl) :
    PI X (.Tuple elts kk tpos) (.Call (.Name "enumerate" p) [e] [] pos) (iEnumT K ta) := by
  subst hK
  refine ⟨fun pins s σ H R I h => ?_⟩
  refine Call_ (ld_blt I hg hm boot_enumerate (PyProof.Rows.callWith_type1 (thn (ha.run pos pins s σ H _ I h) fun us s1 ⟨vs, H1, I1, r1, q1⟩ => ?_) hs rfl))
  obtain ⟨a, xs, ex, hq, q⟩ := q1
  subst ex
  cases r1 with
  | cons r rr =>
    cases rr
    cases r
    obtain ⟨its, rv, p', hz⟩ := I1.tuple hq
    refine call_enumT (show s1.heap.IsTuple a its.toArray from p') fun h' he hit hsz hk => wpAny_pyIter_enum he ?_
    have I2 : Inv X pins σ H1 { s1 with heap := h' } := I1.kept (t' := s1.toks) hk
    refine ⟨s1.heap.objs.size + 1, [s1.heap.objs.size + 1, s1.heap.objs.size], _, _, H1, rfl, I2, turn_enumT a (s1.heap.objs.size + 1) s1.heap.objs.size its.toArray, ⟨⟨.none, he⟩, hit, Nat.succ_ne_self _⟩, fun b hb => ?_, q⟩
    have e' : b = s1.heap.objs.size + 1 ∨ b = s1.heap.objs.size := by simpa using hb
    have hle : s1.heap.objs.size ≤ b := by
      rcases e' with z | z
      · rw [z]; exact Nat.le_add_right _ _
      · rw [z]; exact Nat.le_refl _
    exact I1.fpOk hle (I1.hok.fresh hle)
theorem walk_enumT {K : PySem.W.Frag} {a : Addr} {xs : List V} : Walk (IteT K a) xs.length (fun H => SqT K H a xs) (YPair (fun i => some (.int (i : Nat))) (fun i => xs[i]?)) := by
  refine ⟨fun i _ hi q => ⟨xs, xs[i], q, by simp [hi]⟩, fun _ q => ⟨xs, q, Nat.le_refl _⟩, fun i H v H' _ q y => ?_⟩
  obtain ⟨T, x, h1, h2, h3, h4⟩ := y
  exact ⟨T, .int (i : Nat), x, h1, h2, h3, rfl, h4 xs q⟩
end K41

/-! K41G7 -/
/-! Texts of lots and families. -/
namespace K41
open PySem PySem.Spec PyProof.Rows L2
def intS (i : Int) : Str := toString i
/-- x3 -/
def letS (p : Nat) : Str := (Str.empty ++ ("x" : Str)) ++ intS ((p : Int) + 1)
def fitL (p : Nat) : Bool := decide ((Str.empty ++ ("x" : Str)).length ≤ sizeLine ∧ (letS p).length ≤ sizeLine ∧ ((p : Int) + 1).natAbs.log2 < 1920)
def fitJ (a : Str) (ys : List Str) : Bool := decide ((ys.map (·.length)).sum + ys.length * a.length ≤ 16777216 ∧ (Txt.join a ys).length ≤ sizeLine)
/-- y or z -/
def orS (y z : Str) : Str := if ((y.length : Int) != 0) = true then y else z
def wordsS (k : List Int) : List Str := (List.range k.length).filterMap fun i => k[i]?.bind fun x => if x > 0 then some (letS i) else none
def prodS (k : List Int) : Str := orS (Txt.join " " (wordsS k)) "1"
def fitP (k : List Int) : Bool := (decide (k.length ≤ 100) && k.all fun z => decide (z = 0 ∨ z = 1)) && ((List.range k.length).all fitL && fitJ " " (wordsS k))
def lotS (M : List (List Int)) : Str := ((Str.empty ++ ("(" : Str)) ++ Txt.join ", " (M.map prodS)) ++ (")" : Str)
def fitT (M : List (List Int)) : Bool := (decide (M.length ≤ 100) && M.all fitP) && (fitJ ", " (M.map prodS) && decide ((Str.empty ++ ("(" : Str)).length ≤ sizeLine ∧ ((Str.empty ++ ("(" : Str)) ++ Txt.join ", " (M.map prodS)).length ≤ sizeLine ∧ (lotS M).length ≤ sizeLine))
def setS (k : List Int) : Str := orS (Txt.join "" (k.map intS)) "-"
def fitS (k : List Int) : Bool := (decide (k.length ≤ 100) && k.all fun z => decide (z.natAbs.log2 < 1920)) && fitJ "" (k.map intS)
def onS (n : Nat) : Str := (Str.empty ++ (" on " : Str)) ++ intS n
def famS (n : Nat) (M : List (List Int)) : Str := Txt.join " " (M.map setS) ++ onS n
def fitF (n : Nat) (M : List (List Int)) : Bool := (decide (M.length ≤ 100 ∧ M ≠ []) && M.all fitS) && (fitJ " " (M.map setS) && decide ((Str.empty ++ (" on " : Str)).length ≤ sizeLine ∧ (onS n).length ≤ sizeLine ∧ (famS n M).length ≤ sizeLine ∧ (n : Int).natAbs.log2 < 1920 ∧ (Txt.join " " (M.map setS)).length + (onS n).length ≤ sizeLine))
section
variable {X : Cx} {o e : Expr} {to te ta tb : TE} {p pos apos : Pos} {a b : Expr} {rest : List Expr}
def rJoinK (K : PySem.W.Frag) : V → List V → Hp → VK → Prop := fun x xs H Q => ∃ a p, ∃ ys : List Str, x = .str a ∧ xs = [.ref p] ∧ (SqL K H p (ys.map V.str) ∨ SqT K H p (ys.map V.str)) ∧ (ys.map (·.length)).sum + ys.length * a.length ≤ 16777216 ∧ Q (.str (Txt.join a ys)) H
theorem pe_joinK (K : PySem.W.Frag) (ho : PE X o to) (he : PE X e te) (hK : X.K = K := by rfl) (hs : starEach [e] X.env = [(false, eval e X.env)] := by rfl) (hbase : attributeBase o "join" X.env (eval o X.env) = eval o X.env := by rfl) (hline : (apos.endLine == pos.line) = true := by rfl) :
    PE X (.Call (.Attribute o "join" apos) [e] [] pos) (tM1 (rJoinK K) to te) := by
  subst hK
  exact pe_join ho he hs hbase hline
theorem pe_orK (K : PySem.W.Frag) (ha : PE X a ta) (hb : PE X (.BoolOp .Or (b :: rest) pos) tb) (hK : X.K = K := by rfl) : PE X (.BoolOp .Or (a :: b :: rest) pos) (tOrT K ta tb) := by
  subst hK
  exact pe_orT ha hb
end
theorem or_str {K : PySem.W.Frag} {y z : Str} {H : Hp} {Q : VK} (hy : y.length ≤ sizeLine) (q : Q (.str (orS y z)) H) : ∃ k, TruV K (.str y) H k ∧ if k = true then Q (.str y) H else Q (.str z) H := by
  refine ⟨_, ⟨hy, rfl⟩, ?_⟩
  unfold orS at q
  by_cases h : ((y.length : Int) != 0) = true
  · rw [if_pos h] at q ⊢
    exact q
  · rw [if_neg h] at q ⊢
    exact q
/-- a value is this text -/
def RS (x : Str) (v : V) (_ : Hp) : Prop := v = .str x
theorem rs_list : ∀ {ns : List Str} {ys : List V} {H : Hp}, Paired (fun b v => RS b v H) ns ys → ys = ns.map V.str
  | _, _, _, .nil => rfl
  | _, _, _, .cons r t => by
    rw [List.map_cons, ← rs_list t]
    congr 1
theorem fit_join {a : Str} {ys : List Str} (h : fitJ a ys = true) : (ys.map (·.length)).sum + ys.length * a.length ≤ 16777216 ∧ (Txt.join a ys).length ≤ sizeLine := of_decide_eq_true h
section
variable {P : Program} {w : World} {K : PySem.W.Frag} {mg : Str → Option Value} {base : Heap}
/-! ### letter_text -/
def spLT : Sp := fun vs H Q _ => ∃ p : Nat, vs = [.int p, .int 1] ∧ fitL p = true ∧ Q (.str (letS p)) H
theorem sc_LT : FnScope ["place", "exponent"] ["place", "exponent"] (defScope (top 35)) := ⟨rfl, rfl, rfl, by decide +kernel, rfl, by decide +kernel, by decide +kernel⟩
theorem ok_LT (T : Tx K mg) : Ok P w K mg base "letter_text" 1 ["place", "exponent"] spLT := by
  refine mkOk T.d_letter_text sc_LT (fun _ _ _ _ _ _ us hl => match us, hl with | [_, _], _ => rfl) (fun vs H Q E h => by obtain ⟨p, rfl, _⟩ := h; rfl) (fun cdv A outer s H vs Q E f hr h => ?_)
  obtain ⟨p, rfl, hf, q⟩ := h
  obtain ⟨f1, f2, f3⟩ := of_decide_eq_true hf
  refine ⟨_, pss_one (ps_ret (pe_ifExp (pt_cmpR op_eq (pv 1) pe_int (nomark _)) (pe_joined (.cons pe_str (.cons (pe_fmt (pe_op op_add (pv 0) pe_int)) .nil))) pe_never)), ?_⟩
  refine ⟨_, rfl, rfl, _, rfl, ?_⟩
  rw [decide_eq_true rfl]
  refine iteT ⟨_, rfl, f1, _, rfl, p, 1, rfl, rfl, .inr ⟨_, rfl, f3, _, rfl, f2, q⟩⟩
/-! ### product_text -/
def spPT : Sp := fun vs H Q _ => ∃ (a : Addr) (k : List Int), vs = [.ref a] ∧ IT H a k ∧ fitP k = true ∧ ∀ H', Same H H' → Q (.str (prodS k)) H'
theorem sc_PT : FnScope ["product", "place", "exponent"] ["product"] (defScope (top 36)) := ⟨rfl, rfl, rfl, by decide +kernel, rfl, by decide +kernel, by decide +kernel⟩
theorem ok_PT (T : Tx K mg) : Ok P w K mg base "product_text" 2 ["product"] spPT := by
  refine mkOk T.d_product_text sc_PT (fun _ _ _ _ _ _ us hl => match us, hl with | [_], _ => rfl) (fun vs H Q E h => by obtain ⟨p, k, rfl, _⟩ := h; rfl) (fun cdv A outer s H vs Q E f hr h => ?_)
  obtain ⟨a, k, rfl, hk, hf, q⟩ := h
  unfold fitP at hf
  simp only [Bool.and_eq_true, List.all_eq_true, decide_eq_true_eq] at hf
  obtain ⟨⟨hl, h01⟩, hL, hJ⟩ := hf
  obtain ⟨j1, j2⟩ := fit_join hJ
  refine ⟨_, pss_one (ps_ret (pe_orK K (pe_joinK K pe_str (pe_lc (own := [("place", 1), ("exponent", 2)]) (g := gTup K 2 (gCons (gName 1) (gCons (gName 2) gNil))) rfl sc_PT.nd
    (pi_enumT K (by rfl) T.f_enumerate (pa_cons (pv 0) pa_nil)) (blkOk_by (N := ["product", "place", "exponent"]) (sc := defScope (top 36)) (by decide +kernel))
    (fun _ _ _ _ _ => pg_tup rfl (pgs_cons (pg_name (i := 1) sc_PT.nd rfl (Or.inl rfl)) (pgs_cons (pg_name (i := 2) sc_PT.nd rfl (Or.inl rfl)) pgs_nil))) (fun _ _ _ _ _ => pts_one (pt_cmpR op_gt (pv 2) pe_int (nomark _)))
    (fun _ _ _ _ _ => pcall (ok_LT T) hr (pa_cons (pv 1) (pa_cons (pv 2) pa_nil))))) (pe_one pe_str))), ?_⟩
  have hlen : (k.map V.int).length = k.length := List.length_map _
  refine ⟨⟨_, rfl⟩, .ref a, rfl, a, _, rfl, SqT.of hk, fun D hD => ?_⟩
  refine lc_made (n := (k.map V.int).length) (walk_enumT (K := K) (xs := k.map V.int)) RS (fun _ _ _ _ _ r => r) (fun i => k[i]?.bind fun x => if x > 0 then some (letS i) else none) hD (by omega)
    (fun H1 s => SqT.of (s _ _ hk)) (fun i x H1 H2 Kk N hi sm y hk1 hk2 => ?_) (fun H1 ys sm hy pr => ?_)
  · obtain ⟨T0, x1, x2, rfl, nT, rfl, e1, e2⟩ := y
    obtain rfl : V.int (i : Nat) = x1 := Option.some.inj e1
    obtain ⟨n2, h2, rfl⟩ := get_int (show (k.map V.int)[i]? = some x2 from e2)
    have hi2 : i < k.length := (List.getElem?_eq_some_iff.mp h2).1
    refine ⟨T0, _, rfl, SqT.of upd_same, rfl, _, _, rfl, _, _, rfl, rfl, ?_⟩
    refine ⟨rfl, _, rfl, n2, 0, rfl, rfl, _, rfl, ?_⟩
    by_cases h0 : 0 < n2
    · have e : n2 = 1 := by
        rcases h01 n2 (List.mem_of_getElem? h2) with z | z <;> omega
      subst e
      rw [decide_eq_true h0]
      refine iteT ⟨_, rfl, _, rfl, i, rfl, hL i (List.mem_range.mpr hi2), hk1 (letS i) _ _ ?_ (same_new nT) rfl⟩
      rw [h2]
      rfl
    · rw [decide_eq_false h0]
      refine iteF (hk2 _ ?_ (same_new nT))
      rw [h2]
      show (if n2 > 0 then some (letS i) else none) = none
      rw [if_neg h0]
  · rw [hlen] at pr
    have e := rs_list pr
    subst e
    refine ⟨_, _, _, rfl, rfl, .inl (SqL.of hy), j1, or_str j2 (q _ sm)⟩
/-! ### lot_text -/
def spLoT : Sp := fun vs H Q _ => ∃ (a : Addr) (M : List (List Int)), vs = [.ref a] ∧ TL H a M ∧ fitT M = true ∧ ∀ H', Same H H' → Q (.str (lotS M)) H'
theorem sc_LoT : FnScope ["members", "inside", "member"] ["members"] (defScope (top 37)) := ⟨rfl, rfl, rfl, by decide +kernel, rfl, by decide +kernel, by decide +kernel⟩
theorem ok_LoT (T : Tx K mg) : Ok P w K mg base "lot_text" 3 ["members"] spLoT := by
  refine mkOk T.d_lot_text sc_LoT (fun _ _ _ _ _ _ us hl => match us, hl with | [_], _ => rfl) (fun vs H Q E h => by obtain ⟨p, k, rfl, _⟩ := h; rfl) (fun cdv A outer s H vs Q E f hr h => ?_)
  obtain ⟨a, M, rfl, ⟨ws, hM, pr⟩, hf, q⟩ := h
  obtain ⟨t, hc⟩ := T.c_BETWEEN
  unfold fitT at hf
  simp only [Bool.and_eq_true, List.all_eq_true, decide_eq_true_eq] at hf
  obtain ⟨⟨hl, hP⟩, hJ, b1, b2, b3⟩ := hf
  obtain ⟨j1, j2⟩ := fit_join hJ
  refine ⟨_, pss_cons (ps_set (i := 1) sc_LoT.nd rfl (Or.inl rfl) (pe_joinK K (pe_glob (v := .str ", ") (by rfl) hc ⟨_, rfl⟩) (pe_lc (own := [("member", 2)]) (g := gName 2) (tt := tYes) rfl sc_LoT.nd (pi_tK K (pv 0))
      (blkOk_by (N := ["members", "inside", "member"]) (sc := defScope (top 37)) (by decide +kernel)) (fun _ _ _ _ _ => pg_name (i := 2) sc_LoT.nd rfl (Or.inl rfl)) (fun _ _ _ _ _ => pts_nil) (fun _ _ _ _ _ => pcall (ok_PT T) hr (pa_cons (pv 2) pa_nil)))))
    (pss_one (ps_ret (pe_joined (.cons pe_str (.cons (pe_fmt (pv 1)) (.cons pe_str .nil)))))), ?_⟩
  refine ⟨⟨_, rfl⟩, _, rfl, a, rfl, ⟨ws, SqT.of hM⟩, fun D hD => ?_⟩
  refine lc_fromM (xs := ws) (ks := M) RT RS (fun _ _ _ _ _ r => r) prodS walk_tup (fun H1 s => SqT.of (s _ _ hM)) pr hD (by omega) (fun k0 x H1 Kk hk sm r hk1 => ?_) (fun H1 ys sm hy pr2 => ?_)
  · obtain ⟨c, rfl, hc0⟩ := r
    exact ⟨rfl, _, rfl, c, k0, rfl, sm _ _ hc0, hP k0 hk, fun H2 s2 => hk1 _ _ s2 rfl⟩
  · have e := rs_list pr2
    subst e
    exact ⟨_, _, _, rfl, rfl, .inl (SqL.of hy), j1, _, rfl, b1, _, rfl, .inl ⟨_, rfl, j2, _, rfl, b2, _, rfl, b3, q _ sm⟩⟩
end
end K41

/-! K41G8 -/
/-! The text of a family; str of both. -/
namespace K41
open PySem PySem.Spec PyProof.Rows L2
section
variable {P : Program} {w : World} {K : PySem.W.Frag} {mg : Str → Option Value} {base : Heap}
def spFT : Sp := fun vs H Q _ => ∃ (n : Nat) (a : Addr) (M : List (List Int)), vs = [.int n, .ref a] ∧ TL H a M ∧ fitF n M = true ∧ ∀ H', Same H H' → Q (.str (famS n M)) H'
theorem sc_FT : FnScope ["corners", "members", "words", "member", "corner"] ["corners", "members"] (defScope (top 58)) := ⟨rfl, rfl, rfl, by decide +kernel, rfl, by decide +kernel, by decide +kernel⟩
theorem ok_FT (T : Tx K mg) : Ok P w K mg base "family_text" 1 ["corners", "members"] spFT := by
  refine mkOk T.d_family_text sc_FT (fun _ _ _ _ _ _ us hl => match us, hl with | [_, _], _ => rfl) (fun vs H Q E h => by obtain ⟨n, p, k, rfl, _⟩ := h; rfl) (fun cdv A outer s H vs Q E f hr h => ?_)
  obtain ⟨n, a, M, rfl, hTM, hf, q⟩ := h
  obtain ⟨ws, hM, pr⟩ := id hTM
  unfold fitF at hf
  simp only [Bool.and_eq_true, List.all_eq_true, decide_eq_true_eq] at hf
  obtain ⟨⟨⟨hl, hne⟩, hP⟩, hJ, b1, b2, b3, b4, b5⟩ := hf
  obtain ⟨j1, j2⟩ := fit_join hJ
  refine ⟨_, pss_cons (ps_if (pt_cmpR (op_eqK K hr.units) (pv 1) (pe_tup pa_nil) (nomark _)) (pss_one ps_never) pss_nil)
    (pss_cons (ps_setLc (i := 2) (own := [("member", 3)]) (g := gName 3) (tt := tYes) rfl sc_FT.nd rfl rfl (sw_true rfl rfl rfl (by decide +kernel)) (pi_tK K (pv 1))
      (blkOk_by (N := ["corners", "members", "words", "member", "corner"]) (sc := defScope (top 58)) (by decide +kernel)) (fun _ _ _ _ _ => pg_name (i := 3) sc_FT.nd rfl (Or.inl rfl)) (fun _ _ _ _ _ => pts_nil)
      (fun _ _ _ _ _ => pe_orK K (pe_joinK K pe_str (pe_lc (own := [("corner", 4)]) (g := gName 4) (tt := tYes) rfl sc_FT.nd (pi_tK K (pv 3)) (blkOk_by (N := ["corners", "members", "words", "member", "corner"]) (sc := scR 58 1) (by decide +kernel))
        (fun _ _ _ _ _ => pg_name (i := 4) sc_FT.nd rfl (Or.inl rfl)) (fun _ _ _ _ _ => pts_nil) (fun _ _ _ _ _ => pe_callTy call_str_int (by rfl) T.f_str (by decide +kernel) (pa_cons (pv 4) pa_nil)))) (pe_one pe_str)))
    (pss_one (ps_ret (pe_op op_add_str (pe_joinK K pe_str (pv 2)) (pe_joined (.cons pe_str (.cons (pe_fmt (pv 0)) .nil))))))), ?_⟩
  refine ⟨_, rfl, bigle (by decide), fun p0 hp0 => eq_tl (hTM.go (tups_of (same_new hp0))) ⟨[], upd_same, .nil⟩ ⟨_, rfl, ?_⟩⟩
  rw [decide_eq_false hne]
  refine iteF ?_
  have s0 : Same H (upd H p0 (.tup [])) := same_new hp0
  refine ⟨_, rfl, a, rfl, ⟨ws, SqT.of (s0 _ _ hM)⟩, fun D hD => ?_⟩
  refine lc_fromM (xs := ws) (ks := M) RT RS (fun _ _ _ _ _ r => r) setS walk_tup (fun H1 s => SqT.of (s _ _ (s0 _ _ hM))) (rts_go (tups_of s0) pr) hD (by omega) (fun k0 x H1 Kk hk sm r hk1 => ?_) (fun H1 ys sm hy pr2 => ?_)
  · obtain ⟨c, rfl, hc0⟩ := r
    have hk0 := hP k0 hk
    unfold fitS at hk0
    simp only [Bool.and_eq_true, List.all_eq_true, decide_eq_true_eq] at hk0
    obtain ⟨⟨hl0, hi0⟩, hJ0⟩ := hk0
    obtain ⟨i1, i2⟩ := fit_join hJ0
    have hc1 : IT H1 c k0 := sm _ _ hc0
    refine ⟨rfl, ⟨_, rfl⟩, .ref c, rfl, c, rfl, ⟨_, SqT.of hc1⟩, fun D2 hD2 => ?_⟩
    refine lc_fromM (xs := k0.map V.int) (ks := k0) RI RS (fun _ _ _ _ _ r => r) intS walk_tup (fun H2 s => SqT.of (s _ _ hc1)) (ri_pair H1 k0) hD2 (by omega) (fun z x H2 K2 hz s2 r2 hk2 => ?_) (fun H2 y2 s2 hy2 pr3 => ?_)
    · obtain rfl : x = .int z := r2
      exact ⟨rfl, _, rfl, z, rfl, hi0 z hz, hk2 _ _ (Same.refl _) rfl⟩
    · have e := rs_list pr3
      subst e
      exact ⟨_, _, _, rfl, rfl, .inl (SqL.of hy2), i1, or_str i2 (hk1 _ _ s2 rfl)⟩
  · have e := rs_list pr2
    subst e
    exact ⟨⟨_, rfl⟩, .ref D, rfl, _, _, _, rfl, rfl, .inl (SqL.of hy), j1, _, rfl, b1, _, rfl, .inr ⟨_, rfl, b4, _, rfl, b2, _, _, rfl, rfl, b5, q _ (s0.trans sm)⟩⟩
/-! ### str -/
def spLStr (K : PySem.W.Frag) : Sp := fun vs H Q _ => ∃ x n M, vs = [.ref x] ∧ LotAt K H x n M ∧ fitT M = true ∧ (lotS M).length ≤ sizeLine ∧ ∀ H', Same H H' → Q (.str (lotS M)) H'
theorem sc_LStr : FnScope ["self"] ["self"] (defScope (mth 42 18)) := ⟨rfl, rfl, rfl, by decide +kernel, rfl, by decide +kernel, by decide +kernel⟩
theorem ok_LStr (T : Tx K mg) (C : Tc K mg) : FnR P w K mg base CX0 4 (ma K (ga K "Lot") "__str__") (spLStr K) := by
  refine mkM C.mLt.fn sc_LStr (fun _ _ _ _ _ _ us hl => match us, hl with | [_], _ => rfl) (fun vs H Q E h => by obtain ⟨a, k, v, rfl, _⟩ := h; rfl) (fun cdv A outer s H vs Q E hr h => ?_)
  obtain ⟨x, n, M, rfl, ⟨dx, t, hs, hM⟩, hf, hz, q⟩ := h
  refine ⟨_, pss_one (ps_ret (pe_joined1 (pe_fmt (pcall (ok_LoT T) hr (pa_cons (SlX.pe_sl (pv 0)) pa_nil))))), ?_⟩
  exact ⟨_, rfl, x, _, dx, _, _, 1, _, rfl, hs, C.LO.sc, C.sL1, rfl, t, M, rfl, hM, hf, fun H1 s1 => .inl ⟨_, rfl, hz, q H1 s1⟩⟩
def spFStr (K : PySem.W.Frag) : Sp := fun vs H Q _ => ∃ x n L M, vs = [.ref x] ∧ FamAt K H x n L M ∧ fitF n M = true ∧ (famS n M).length ≤ sizeLine ∧ ∀ H', Same H H' → Q (.str (famS n M)) H'
theorem sc_FStr : FnScope ["self"] ["self"] (defScope (mth 60 14)) := ⟨rfl, rfl, rfl, by decide +kernel, rfl, by decide +kernel, by decide +kernel⟩
theorem ok_FStr (T : Tx K mg) (C : Tc K mg) : FnR P w K mg base CX0 2 (ma K (ga K "Family") "__str__") (spFStr K) := by
  refine mkM C.mFt.fn sc_FStr (fun _ _ _ _ _ _ us hl => match us, hl with | [_], _ => rfl) (fun vs H Q E h => by obtain ⟨a, k, L, v, rfl, _⟩ := h; rfl) (fun cdv A outer s H vs Q E hr h => ?_)
  obtain ⟨x, n, L, M, rfl, ⟨dx, d, t, l, hs, _, hM, _⟩, hf, hz, q⟩ := h
  refine ⟨_, pss_one (ps_ret (pe_joined1 (pe_fmt (pcall (ok_FT T) hr (pa_cons (SlX.pe_sl (pv 0)) (pa_cons (SlX.pe_sl (pv 0)) pa_nil)))))), ?_⟩
  exact ⟨_, rfl, x, _, dx, _, _, 0, _, rfl, hs, C.FA.sc, C.sF0, rfl, _, rfl, x, _, dx, _, _, 2, _, rfl, hs, C.FA.sc, C.sF2, rfl, n, t, M, rfl, hM, hf, fun H1 s1 => .inl ⟨_, rfl, hz, q H1 s1⟩⟩
end
/-! ### the texts that the law expects -/
theorem txt_ring : fitF 4 [[0, 1], [0, 3], [1, 2], [2, 3]] = true ∧ (famS 4 [[0, 1], [0, 3], [1, 2], [2, 3]]).length ≤ sizeLine ∧ famS 4 [[0, 1], [0, 3], [1, 2], [2, 3]] = ("01 03 12 23 on 4" : Str) := ⟨by decide +kernel, by decide +kernel, by decide +kernel⟩
theorem txt_one : fitT [[0, 0, 0]] = true ∧ (lotS [[0, 0, 0]]).length ≤ sizeLine ∧ lotS [[0, 0, 0]] = ("(1)" : Str) := ⟨by decide +kernel, by decide +kernel, by decide +kernel⟩
theorem txt_none : fitT [] = true ∧ (lotS []).length ≤ sizeLine ∧ lotS [] = ("()" : Str) := ⟨by decide +kernel, by decide +kernel, by decide +kernel⟩
theorem txt_two : fitT [[0, 1], [1, 0]] = true ∧ (lotS [[0, 1], [1, 0]]).length ≤ sizeLine ∧ lotS [[0, 1], [1, 0]] = ("(x2, x1)" : Str) := ⟨by decide +kernel, by decide +kernel, by decide +kernel⟩
end K41

/-! K41Z -/
/-! The lots and families that the law writes out, checked by counting. -/
namespace K41
open PySem PySem.Spec PyProof.Rows L2
def minB (L : List (List Int)) (c : List Int) : Bool := !decide (c ∈ L) && (wo c).all fun y => decide (y ∈ L)
def inSets (n : Nat) (ks : List (List Int)) : List (List Int) := (subs n).filter fun k => ks.any fun c => k.all fun z => decide (z ∈ c)
def chkM (n : Nat) (ks M0 : List (List Int)) : Bool := decide M0.Nodup && (decide (M0.Pairwise lexT) && (((subs n).all fun c => !minB (inSets n ks) c || decide (prod n c ∈ M0)) && (M0.all fun m => (subs n).any fun c => minB (inSets n ks) c && decide (m = prod n c))))
theorem fam_lot {n : Nat} {ks L1 M M0 : List (List Int)} (hon : ∀ k ∈ ks, On n k) (hm : ∀ k, k ∈ L1 ↔ On n k ∧ ∃ c ∈ ks, k.Sublist c) (hM : ∀ m, m ∈ M ↔ ∃ c, MinNon n L1 c ∧ m = prod n c) (nd : M.Nodup) (srt : M.Pairwise lexT) (chk : chkM n ks M0 = true) : M = M0 := by
  unfold chkM at chk
  simp only [Bool.and_eq_true, decide_eq_true_eq, List.all_eq_true] at chk
  obtain ⟨c1, c2, c3, c4⟩ := chk
  have hL : ∀ k, k ∈ inSets n ks ↔ k ∈ L1 := fun k => by
    unfold inSets
    rw [List.mem_filter, mem_subs, hm, List.any_eq_true]
    constructor
    · rintro ⟨h1, c, hc, h2⟩
      exact ⟨h1, c, hc, (on_within h1 (hon c hc)).mp fun z hz => of_decide_eq_true (List.all_eq_true.mp h2 z hz)⟩
    · rintro ⟨h1, c, hc, h2⟩
      exact ⟨h1, c, hc, List.all_eq_true.mpr fun z hz => decide_eq_true ((on_within h1 (hon c hc)).mpr h2 z hz)⟩
  have hB : ∀ c, On n c → (minB (inSets n ks) c = true ↔ MinNon n L1 c) := fun c hc => by
    unfold minB
    rw [Bool.and_eq_true, Bool.not_eq_true', decide_eq_false_iff_not, hL, List.all_eq_true]
    constructor
    · rintro ⟨h1, h2⟩
      exact ⟨hc, h1, fun y hy => (hL y).mp (of_decide_eq_true (h2 y hy))⟩
    · rintro ⟨_, h1, h2⟩
      exact ⟨h1, fun y hy => decide_eq_true ((hL y).mpr (h2 y hy))⟩
  refine lex_same srt c2 nd c1 fun m => (hM m).trans ⟨?_, fun h => ?_⟩
  · rintro ⟨c, hc, rfl⟩
    have z := c3 c (mem_subs.mpr hc.1)
    rw [(hB c hc.1).mpr hc, Bool.not_true, Bool.false_or, decide_eq_true_eq] at z
    exact z
  · obtain ⟨c, hc, z⟩ := List.any_eq_true.mp (c4 m h)
    rw [Bool.and_eq_true, decide_eq_true_eq] at z
    exact ⟨c, (hB c (mem_subs.mp hc)).mp z.1, z.2⟩
def leftS (n : Nat) (U : List (List Int)) : List (List Int) := (subs n).filter fun k => U.all fun u => !dv u (prod n k)
def chkT (n : Nat) (U M0 : List (List Int)) : Bool := decide M0.Nodup && (decide (M0.Pairwise lexT) && ((leftS n U).all (fun k => decide (k ∈ M0) == (leftS n U).all fun y => !decide (k ∈ wo y)) && M0.all fun k => decide (k ∈ leftS n U)))
theorem lot_fam {n : Nat} {U L Mx M0 : List (List Int)} (hL : ∀ k, k ∈ L ↔ On n k ∧ ∀ u ∈ U, dv u (prod n k) = false) (t : Tops L Mx) (chk : chkT n U M0 = true) : Mx = M0 := by
  unfold chkT at chk
  simp only [Bool.and_eq_true, decide_eq_true_eq, List.all_eq_true] at chk
  obtain ⟨c1, c2, c3, c4⟩ := chk
  have hS : ∀ k, k ∈ leftS n U ↔ k ∈ L := fun k => by
    unfold leftS
    rw [List.mem_filter, mem_subs, hL, List.all_eq_true]
    simp only [Bool.not_eq_true']
  have t0 : Tops (leftS n U) M0 := ⟨c1, c2, fun k => by
    have hall : ((leftS n U).all fun y => !decide (k ∈ wo y)) = true ↔ ∀ y ∈ leftS n U, k ∉ wo y := by
      rw [List.all_eq_true]
      simp only [Bool.not_eq_true', decide_eq_false_iff_not]
    constructor
    · intro hk
      have h1 := c4 k hk
      have h2 := c3 k h1
      rw [decide_eq_true hk, beq_iff_eq] at h2
      exact ⟨h1, hall.mp h2.symm⟩
    · rintro ⟨h1, h2⟩
      have h3 := c3 k h1
      rw [hall.mpr h2, beq_iff_eq, decide_eq_true_eq] at h3
      exact h3⟩
  exact t.same t0 fun k => (hS k).symm
theorem chk_ring : chkT 4 [[1, 0, 1, 0], [0, 1, 0, 1]] [[0, 1], [0, 3], [1, 2], [2, 3]] = true := by decide +kernel
theorem chk_one : chkM 3 [] [[0, 0, 0]] = true := by decide +kernel
theorem chk_none : chkM 2 [[0, 1]] [] = true := by decide +kernel
theorem chk_two : chkM 2 [[]] [[0, 1], [1, 0]] = true := by decide +kernel
end K41

/-! K41LW -/
/-! The law. -/
namespace K41
open PySem PySem.Spec PyProof.Rows L2
abbrev NLW : List Str := ["_law_script", "_law_spot", "_law_pot_here", "_law_ring", "_law_told"]
section
variable {P : Program} {w : World} {K : PySem.W.Frag} {mg : Str → Option Value} {base : Heap}
def spLaw (K : PySem.W.Frag) : Sp := fun vs H Q _ => ∃ (a : Addr) (ns : List Int), vs = [.ref a] ∧ SqL K H a (ns.map V.int) ∧ ns.length ≤ 1000 ∧ ∀ H', Q (.bl true) H'
theorem sc_LW : FnScope NLW ["_law_script"] (defScope (top 86)) := ⟨rfl, rfl, rfl, by decide +kernel, rfl, by decide +kernel, by decide +kernel⟩
theorem sp_from {p : Addr} {H0 Hq H' : Hp} (s : Same H0 Hq) (h : H0 p = none) (t : SP p Hq H') : Same H0 H' := fun b o e => t.but b o (ne_of_none e h) (s b o e)
theorem few_turns (l : Int) (h : 0 ≤ l) : -(2 ^ 62) ≤ (if (if l < 4 then l else 4) > 1 then (if l < 4 then l else 4) else 1 : Int) ∧ (if (if l < 4 then l else 4) > 1 then (if l < 4 then l else 4) else 1 : Int) < 2 ^ 62 := by
  by_cases h4 : l < 4
  · rw [if_pos h4]
    by_cases h1 : l > 1
    · rw [if_pos h1]
      omega
    · rw [if_neg h1]
      omega
  · rw [if_neg h4]
    omega
theorem ring_in : ∀ u ∈ ([[1, 0, 1, 0], [0, 1, 0, 1]] : List (List Int)), ∃ t, On 4 t ∧ u = prod 4 t := fun u hu => by
  rcases List.mem_cons.mp hu with rfl | hu
  · exact ⟨[0, 2], mem_subs.mp (by decide +kernel), by decide +kernel⟩
  · rw [List.mem_singleton.mp hu]
    exact ⟨[1, 3], mem_subs.mp (by decide +kernel), by decide +kernel⟩
theorem fn_LW {fd : FuncData} {f : Addr} (F : Fun K "law" "law" (top 86) f fd) (R : Rf P K mg) (Y : Rx K) (T : Tx K mg) (C : Tc K mg) (S : Ts K) : FnOk P w K mg base CX0 11 f fd ["_law_script"] (spLaw K) := by
  refine F.ok sc_LW (fun vs H Q E h => by obtain ⟨p, ns, rfl, _⟩ := h; rfl) (fun cdv A outer s H vs Q E hr h => ?_)
  obtain ⟨a, ns, rfl, hS, hz, q⟩ := h
  have hrS : Room 4 _ := hr.mono (by decide)
  refine ⟨_, pss_cons (ps_for PassesOwn.never rfl (pi_range1 rfl T.f_range (pa_cons (pe_callB (call_max2 rfl) (by rfl) T.f_max (by decide +kernel) (pa_cons pe_int (pa_cons (pe_callB (call_min2 rfl) (by rfl) T.f_min (by decide +kernel) (pa_cons pe_int (pa_cons (pe_callB (crLen K) (by rfl) T.f_len PySem.boot_len (pa_cons (pv 0) pa_nil)) pa_nil))) pa_nil))) pa_nil)) (pg_name (i := 1) sc_LW.nd rfl (Or.inl rfl))
      (pss_cons (ps_set (i := 2) sc_LW.nd rfl (Or.inl rfl) (pcall (ok_Pot T) (hr.mono (by decide)) (pa_cons (pv 0) (pa_cons (pv 1) pa_nil))))
      (pss_one (ps_if (PW.pt (pw_or (pt_not (pt_val (pcall (ok_FR T C S) hr (pa_cons (pv 2) pa_nil)))) (pw_or (pt_not (pt_val (pcall (ok_LR R Y T C S) hr (pa_cons (pv 2) pa_nil)))) (pw_or1 (pt_not (pt_val (pcall (ok_FR T C S) hr (pa_cons (pv 2) pa_nil)))))))) (pss_one ps_never) pss_nil))))
    (pss_cons (ps_set (i := 3) sc_LW.nd rfl (Or.inl rfl) (StX.pe_makeR C.LO.mr (ok_LI T C) (hr.mono (by decide)) (by rfl) C.LO.gl pass0 (pa_cons pe_int (pa_cons (pe_tup (pa_cons (pe_tup (pa_cons pe_int (pa_cons pe_int (pa_cons pe_int (pa_cons pe_int pa_nil))))) (pa_cons (pe_tup (pa_cons pe_int (pa_cons pe_int (pa_cons pe_int (pa_cons pe_int pa_nil))))) pa_nil))) pa_nil))))
    (pss_cons (ps_set (i := 4) sc_LW.nd rfl (Or.inl rfl) (pe_lst (pa_cons (pe_callTy (crStrOwn C.mFt.me.at_ C.mFt.me.fn (ok_FStr T C) hrS) (by rfl) T.f_str (by decide +kernel) (pa_cons (pcall (ok_FO T C) (hr.mono (by decide)) (pa_cons (pv 3) pa_nil)) pa_nil))
        (pa_cons (pe_callTy (crStrOwn C.mLt.me.at_ C.mLt.me.fn (ok_LStr T C) (hr.mono (by decide))) (by rfl) T.f_str (by decide +kernel) (pa_cons (pcall (ok_LoF T C) (hr.mono (by decide)) (pa_cons (StX.pe_makeR C.FA.mr (ok_FI T C) (hr.mono (by decide)) (by rfl) C.FA.gl pass0 (pa_cons pe_int (pa_cons (pe_tup pa_nil) pa_nil))) pa_nil)) pa_nil))
        (pa_cons (pe_callTy (crStrOwn C.mLt.me.at_ C.mLt.me.fn (ok_LStr T C) (hr.mono (by decide))) (by rfl) T.f_str (by decide +kernel) (pa_cons (pcall (ok_LoF T C) (hr.mono (by decide)) (pa_cons (StX.pe_makeR C.FA.mr (ok_FI T C) (hr.mono (by decide)) (by rfl) C.FA.gl pass0 (pa_cons pe_int (pa_cons (pe_tup (pa_cons (pe_tup (pa_cons pe_int (pa_cons pe_int pa_nil))) pa_nil)) pa_nil))) pa_nil)) pa_nil))
        (pa_cons (pe_callTy (crStrOwn C.mLt.me.at_ C.mLt.me.fn (ok_LStr T C) (hr.mono (by decide))) (by rfl) T.f_str (by decide +kernel) (pa_cons (pcall (ok_LoF T C) (hr.mono (by decide)) (pa_cons (StX.pe_makeR C.FA.mr (ok_FI T C) (hr.mono (by decide)) (by rfl) C.FA.gl pass0 (pa_cons pe_int (pa_cons (pe_tup (pa_cons (pe_tup pa_nil) pa_nil)) pa_nil))) pa_nil)) pa_nil)) pa_nil))))))
    (pss_one (ps_ret (pe_cmpR (op_eqK K hr.units) (pv 4) (pe_lst (pa_cons pe_str (pa_cons pe_str (pa_cons pe_str (pa_cons pe_str pa_nil))))) (nomark _)))))), ?_⟩
  refine ⟨_, rfl, a, ns.map V.int, rfl, .inl hS, 4, _, rfl, 1, _, rfl, _, rfl, (few_turns _ (by omega)).1, (few_turns _ (by omega)).2, ?_⟩
  refine for_it walk_rng (fun i σ H1 => ∃ c d e g, σ = [some (V.ref a), c, d, e, g] ∧ Same H H1) ⟨_, _, _, _, rfl, Same.refl H⟩ (fun _ _ _ _ _ => trivial) (fun i v σ Hb Hb' hi hP yv => ?_) (fun σ Hb hP => ?_)
  · obtain ⟨c, d, e, g, rfl, sb⟩ := hP
    obtain ⟨rfl, rfl⟩ := yv
    refine ⟨_, rfl, _, rfl, a, ns, i, rfl, hS.ext sb, fun p x y z hp => ?_⟩
    have h0 : H p = none := fresh_of sb hp
    have s1 : Same H (upd Hb p (.lst [.int x, .int y, .int z])) := sb.trans (same_new hp)
    have hpot : Pot (upd Hb p (.lst [.int x, .int y, .int z])) p := ⟨x, y, z, upd_same⟩
    refine ⟨_, rfl, p, rfl, hpot, fun H2 t2 => ⟨true, rfl, iteF ?_⟩⟩
    refine ⟨_, rfl, p, rfl, t2.pot, fun H3 t3 => ⟨true, rfl, iteF ?_⟩⟩
    refine ⟨_, rfl, p, rfl, t3.pot, fun H4 t4 => ⟨true, rfl, iteF ?_⟩⟩
    exact ⟨_, _, _, _, rfl, sp_from s1 h0 ((t2.trans t3).trans t4)⟩
  obtain ⟨c, d, e, g, rfl, sb⟩ := hP
  clear sb
  refine ⟨bigle (by show 4 ≤ _; decide), fun t1 ht1 => ⟨bigle (by show 4 ≤ _; decide), fun t2 ht2 => ⟨bigle (by show 2 ≤ _; decide), fun t3 ht3 => ?_⟩⟩⟩
  have st1 : Same Hb (upd Hb t1 (.tup [.int 1, .int 0, .int 1, .int 0])) := same_new ht1
  have st2 := same_new (o := HO.tup [.int 0, .int 1, .int 0, .int 1]) ht2
  have st3 := same_new (o := HO.tup [.ref t1, .ref t2]) ht3
  intro xl dxl hxl hdxl nxl
  refine mk_lot (n := 4) (ks := [[1, 0, 1, 0], [0, 1, 0, 1]]) (by decide) (by decide) ⟨[.ref t1, .ref t2], upd_same, .cons ⟨t1, rfl, st3 _ _ (st2 _ _ upd_same)⟩ (.cons ⟨t2, rfl, st3 _ _ upd_same⟩ .nil)⟩ ⟨by decide, by decide, few_short (by decide)⟩ hxl hdxl nxl fun H4 M s4 hMn hMs hMm hlot => ⟨rfl, ?_⟩
  have hM01 : ∀ m ∈ M, ∀ z ∈ m, z = 0 ∨ z = 1 := fun m hm z hz => by
    obtain ⟨t, _, rfl⟩ := ring_in m ((hMm m).mp hm).1
    exact prod_01 hz
  have hMl : ∀ m ∈ M, m.length = 4 := fun m hm => by
    obtain ⟨t, _, rfl⟩ := ring_in m ((hMm m).mp hm).1
    exact prod_len 4 t
  have hM2 : M.length ≤ 2 := Nat.le_trans (nd_le hMn fun m hm => ((hMm m).mp hm).1) (by decide)
  refine ⟨_, rfl, xl, 4, M, rfl, noSq_01 hM01, hlot, by decide, by decide, by omega, hMl, fun H5 yf L Mx s5 hyf nd hm tops hfam => ?_⟩
  obtain rfl := lot_fam (n := 4) (U := [[1, 0, 1, 0], [0, 1, 0, 1]]) (fun k => (hm k).trans ⟨fun h => ⟨h.1, (left_least ring_in hMm h.1).mp h.2⟩, fun h => ⟨h.1, (left_least ring_in hMm h.1).mpr h.2⟩⟩) tops chk_ring
  obtain ⟨dx, dd, tm, lf, hsF, _⟩ := id hfam
  refine ⟨yf, dx, _, rfl, hsF, yf, 4, L, _, rfl, hfam, txt_ring.1, txt_ring.2.1, fun H6 s6 => ⟨"01 03 12 23 on 4", congrArg V.str txt_ring.2.2, ?_⟩⟩
  refine ⟨bigle (by decide), fun te hte => ?_⟩
  have on1 : ∀ k ∈ ([] : List (List Int)), On 3 k := fun k hk => by cases hk
  intro yf1 dyf1 hyf1 hdyf1 nyf1
  refine mk_fam (n := 3) (ks := []) (by decide) (by decide) ⟨[], upd_same, .nil⟩ (by decide) (fun k hk => on1 k hk) hyf1 hdyf1 nyf1 fun Ha1 La1 Mxa1 sa1 hFa1 hma1 ta1 hfa1 => ⟨rfl, ?_⟩
  refine ⟨yf1, 3, La1, Mxa1, rfl, hfa1, hFa1, by decide, by decide, fun Hc1 xc1 Mc1 sc1 hxc1 nc1 rc1 mc1 hlc1 => ?_⟩
  obtain rfl := fam_lot (ks := []) (fun k hk => on1 k hk) hma1 mc1 nc1 rc1 chk_one
  obtain ⟨dxc1, tc1, hsc1, _⟩ := id hlc1
  refine ⟨xc1, dxc1, _, rfl, hsc1, xc1, 3, _, rfl, hlc1, txt_one.1, txt_one.2.1, fun Hd1 sd1 => ⟨"(1)", congrArg V.str txt_one.2.2, ?_⟩⟩
  refine ⟨bigle (by show 2 ≤ _; decide), fun tg htg => ⟨bigle (by show 1 ≤ _; decide), fun th hth => ?_⟩⟩
  have on2 : ∀ k ∈ ([[0, 1]] : List (List Int)), On 2 k := fun k hk => by
    rw [List.mem_singleton.mp hk]
    exact mem_subs.mp (by decide +kernel)
  have sth := same_new (o := HO.tup [V.ref tg]) hth
  intro yf2 dyf2 hyf2 hdyf2 nyf2
  refine mk_fam (n := 2) (ks := [[0, 1]]) (by decide) (by decide) ⟨[.ref tg], upd_same, .cons ⟨tg, rfl, sth _ _ upd_same⟩ .nil⟩ (by decide) (fun k hk => on2 k hk) hyf2 hdyf2 nyf2 fun Ha2 La2 Mxa2 sa2 hFa2 hma2 ta2 hfa2 => ⟨rfl, ?_⟩
  refine ⟨yf2, 2, La2, Mxa2, rfl, hfa2, hFa2, by decide, by decide, fun Hc2 xc2 Mc2 sc2 hxc2 nc2 rc2 mc2 hlc2 => ?_⟩
  obtain rfl := fam_lot (ks := [[0, 1]]) (fun k hk => on2 k hk) hma2 mc2 nc2 rc2 chk_none
  obtain ⟨dxc2, tc2, hsc2, _⟩ := id hlc2
  refine ⟨xc2, dxc2, _, rfl, hsc2, xc2, 2, _, rfl, hlc2, txt_none.1, txt_none.2.1, fun Hd2 sd2 => ⟨"()", congrArg V.str txt_none.2.2, ?_⟩⟩
  refine ⟨bigle (by decide), fun ti hti => ⟨bigle (by show 1 ≤ _; decide), fun tj htj => ?_⟩⟩
  have on3 : ∀ k ∈ ([[]] : List (List Int)), On 2 k := fun k hk => by
    rw [List.mem_singleton.mp hk]
    exact mem_subs.mp (by decide +kernel)
  have stj := same_new (o := HO.tup [V.ref ti]) htj
  intro yf3 dyf3 hyf3 hdyf3 nyf3
  refine mk_fam (n := 2) (ks := [[]]) (by decide) (by decide) ⟨[.ref ti], upd_same, .cons ⟨ti, rfl, stj _ _ upd_same⟩ .nil⟩ (by decide) (fun k hk => on3 k hk) hyf3 hdyf3 nyf3 fun Ha3 La3 Mxa3 sa3 hFa3 hma3 ta3 hfa3 => ⟨rfl, ?_⟩
  refine ⟨yf3, 2, La3, Mxa3, rfl, hfa3, hFa3, by decide, by decide, fun Hc3 xc3 Mc3 sc3 hxc3 nc3 rc3 mc3 hlc3 => ?_⟩
  obtain rfl := fam_lot (ks := [[]]) (fun k hk => on3 k hk) hma3 mc3 nc3 rc3 chk_two
  obtain ⟨dxc3, tc3, hsc3, _⟩ := id hlc3
  refine ⟨xc3, dxc3, _, rfl, hsc3, xc3, 2, _, rfl, hlc3, txt_two.1, txt_two.2.1, fun Hd3 sd3 => ⟨"(x2, x1)", congrArg V.str txt_two.2.2, ?_⟩⟩
  refine ⟨bigle (by show 4 ≤ _; decide), fun l1 hl1 => ?_⟩
  refine ⟨_, rfl, bigle (by show 4 ≤ _; decide), fun l2 hl2 => ?_⟩
  refine ⟨.list [.str "01 03 12 23 on 4", .str "(1)", .str "()", .str "(x2, x1)"], .list [.str "01 03 12 23 on 4", .str "(1)", .str "()", .str "(x2, x1)"], .lst (SqL.of (same_new hl2 _ _ upd_same)) (.cons (.str _) (.cons (.str _) (.cons (.str _) (.cons (.str _) .nil)))), .lst (SqL.of upd_same) (.cons (.str _) (.cons (.str _) (.cons (.str _) (.cons (.str _) .nil)))), by decide +kernel, by decide +kernel, ?_⟩
  have e1 : PyData.eqv (.list [.str "01 03 12 23 on 4", .str "(1)", .str "()", .str "(x2, x1)"]) (.list [.str "01 03 12 23 on 4", .str "(1)", .str "()", .str "(x2, x1)"]) = true := by decide +kernel
  rw [e1]
  exact q _
end
end K41

/-! K41H1 -/
/-! The head's facts: what is looked at, and what it says. (Printed by mkh1.py.) -/
namespace K41
open PySem PySem.Spec PyProof.Rows L2
/-- a function: where, its name, its whole name, its text -/
structure FnE where
  ad : PySem.W.Frag → Addr
  name : Str
  qual : Str
  st : Stmt
def fnAt (K : PySem.W.Frag) (a : Addr) : He.FnW := match K.lookup a with
  | some ⟨_, _, .func fd, _⟩ => some (fd.name, fd.qualname, fd.params, fd.body, fd.scope, fd.globals, fd.closure, fd.builtins)
  | _ => none
def FnE.val (d : FnE) : He.FnW := some (d.name, d.qual, defArgs d.st, .stmts (defBody d.st), defScope d.st, mainGlobals, [], builtinsNs)
def noneV : Value → Bool
  | .none => true
  | _ => false
theorem noneV_ok {v : Value} (h : noneV v = true) : v = .none := by
  cases v with
  | none => rfl
  | _ => cases h
def FnE.ok (K : PySem.W.Frag) (d : FnE) : Bool := PySem.W.keepIn K (.ref (d.ad K)) && (match K.lookup (d.ad K) with
  | some ⟨_, _, .func fd, _⟩ => PySem.W.codeIn K fd.code d.qual && noneV fd.defaults
  | _ => false)
theorem fnE_ok {K : PySem.W.Frag} {d : FnE} (e : fnAt K (d.ad K) = d.val) (c : d.ok K = true) : ∃ fd, Fun K d.name d.qual d.st (d.ad K) fd := by
  obtain ⟨kp, c2⟩ := He.ba c
  unfold fnAt at e
  cases q : K.lookup (d.ad K) with
  | none =>
    rw [q] at c2
    cases c2
  | some o =>
    obtain ⟨oc, od, dt, osl⟩ := o
    rw [q] at c2 e
    cases dt with
    | func fd =>
      obtain ⟨n1, n2, n3, n4, n5, n6, n7, n8, n9, n10, n11, n12, n13, n14, n15⟩ := fd
      have e2 : (some (n1, n2, n3, n4, n5, n6, n7, n15) : He.FnW) = some (d.name, d.qual, defArgs d.st, .stmts (defBody d.st), defScope d.st, mainGlobals, [], builtinsNs) := e
      simp only [Option.some.injEq, Prod.mk.injEq] at e2
      obtain ⟨h1, h2, h3, h4, h5, h6, h7, h8⟩ := e2
      subst h1 h2 h3 h4 h5 h6 h7 h8
      obtain ⟨k1, k2⟩ := He.ba (show (PySem.W.codeIn K n13 d.qual && noneV n8) = true from c2)
      obtain rfl := noneV_ok k2
      exact ⟨_, fun_mk (st := d.st) q k1 kp⟩
    | _ => cases c2
/-! ### Refused's __init__, which closes over its class -/
abbrev FnC : Type := Option (Str × Str × Arguments × FuncBody × Scope × Addr × List Str × Addr)
def rfA (K : PySem.W.Frag) : Addr := ma K (ga K "Refused") "__init__"
def rfAt (K : PySem.W.Frag) : FnC := match K.lookup (rfA K) with
  | some ⟨_, _, .func fd, _⟩ => some (fd.name, fd.qualname, fd.params, fd.body, fd.scope, fd.globals, fd.closure.map (·.1), fd.builtins)
  | _ => none
def rfVal : FnC := some ("__init__", "Refused.__init__", defArgs (mth 9 0), .stmts (defBody (mth 9 0)), defScope (mth 9 0), mainGlobals, ["__class__"], builtinsNs)
def fileB (f : Str) : Value → Bool
  | .str g _ => f == g
  | _ => false
def cellB (K : PySem.W.Frag) (cc C : Addr) : Bool := match K.lookup cc with
  | some ⟨_, _, .cell (some (.ref d)), _⟩ => decide (d = C)
  | _ => false
def codeB (K : PySem.W.Frag) (f : Str) (cda : Addr) : Bool := match K.lookup cda with
  | some ⟨_, _, .fields vs, _⟩ => (match vs[2]? with
    | some v => fileB f v
    | none => false)
  | _ => false
def rfC (K : PySem.W.Frag) (f : Str) (cl : List (Str × Addr)) (cd dv : Value) : Bool := match cl, cd, dv with
  | [(_, cc)], .ref cda, .none => PySem.W.codeIn K (.ref cda) "Refused.__init__" && (codeB K f cda && cellB K cc (ga K "Refused"))
  | _, _, _ => false
theorem rfC_ok {K : PySem.W.Frag} {f : Str} {cl : List (Str × Addr)} {cd dv : Value} (h : rfC K f cl cd dv = true) : ∃ nm cc cda, cl = [(nm, cc)] ∧ cd = .ref cda ∧ dv = .none ∧ PySem.W.codeIn K (.ref cda) "Refused.__init__" = true ∧ codeB K f cda = true ∧ cellB K cc (ga K "Refused") = true := by
  unfold rfC at h
  split at h
  · obtain ⟨k1, k2⟩ := He.ba h
    obtain ⟨k3, k4⟩ := He.ba k2
    exact ⟨_, _, _, rfl, rfl, rfl, k1, k3, k4⟩
  · cases h
def rfB (K : PySem.W.Frag) (f : Str) : Bool := match K.lookup (rfA K) with
  | some ⟨_, _, .func fd, _⟩ => rfC K f fd.closure fd.code fd.defaults
  | _ => false
theorem cellB_ok {K : PySem.W.Frag} {cc C : Addr} (h : cellB K cc C = true) : ∃ cl cld csl, K.lookup cc = some ⟨cl, cld, .cell (some (.ref C)), csl⟩ := by
  unfold cellB at h
  cases q : K.lookup cc with
  | none =>
    rw [q] at h
    cases h
  | some o =>
    obtain ⟨oc, od, dt, osl⟩ := o
    rw [q] at h
    cases dt with
    | cell v =>
      cases v with
      | none => cases h
      | some v =>
        cases v with
        | ref d => exact ⟨oc, od, osl, by rw [← of_decide_eq_true (show decide (d = C) = true from h)]⟩
        | _ => cases h
    | _ => cases h
theorem codeB_ok {K : PySem.W.Frag} {f : Str} {cda : Addr} (h : codeB K f cda = true) : ∃ ccl cdd vs ccs file tf, K.lookup cda = some ⟨ccl, cdd, .fields vs, ccs⟩ ∧ vs[2]? = some (.str file tf) ∧ (f == file) = true := by
  unfold codeB at h
  cases q : K.lookup cda with
  | none =>
    rw [q] at h
    cases h
  | some o =>
    obtain ⟨oc, od, dt, osl⟩ := o
    rw [q] at h
    cases dt with
    | fields vs =>
      have h2 : (match vs[2]? with
        | some v => fileB f v
        | none => false) = true := h
      cases e : vs[2]? with
      | none =>
        rw [e] at h2
        cases h2
      | some v =>
        rw [e] at h2
        cases v with
        | str g t => exact ⟨oc, od, vs, osl, g, t, rfl, e, h2⟩
        | _ => cases h2
    | _ => cases h
theorem rfB_ok {K : PySem.W.Frag} {P : Program} (e : rfAt K = rfVal) (c : rfB K P.main.file = true) :
    ∃ oc od kV doc pm an cda ct cc osl ccl cdd vs ccs file tf cl cld csl, K.lookup (ma K (ga K "Refused") "__init__") = some ⟨oc, od, .func (PySem.W.ksFn "__init__" "Refused.__init__" (defArgs (mth 9 0)) (defBody (mth 9 0)) (defScope (mth 9 0)) .none kV doc pm an (.ref cda) ct cc), osl⟩ ∧
      PySem.W.codeIn K (.ref cda) "Refused.__init__" = true ∧ K.lookup cda = some ⟨ccl, cdd, .fields vs, ccs⟩ ∧ vs[2]? = some (.str file tf) ∧ ((P.main.file : Str) == file) = true ∧ K.lookup cc = some ⟨cl, cld, .cell (some (.ref (ga K "Refused"))), csl⟩ := by
  unfold rfB at c
  unfold rfAt at e
  cases q : K.lookup (rfA K) with
  | none =>
    rw [q] at c
    cases c
  | some o =>
    obtain ⟨oc, od, dt, osl⟩ := o
    rw [q] at c e
    cases dt with
    | func fd =>
      obtain ⟨n1, n2, n3, n4, n5, n6, n7, n8, n9, n10, n11, n12, n13, n14, n15⟩ := fd
      have e2 : (some (n1, n2, n3, n4, n5, n6, n7.map (·.1), n15) : FnC) = some (Str.ofString "__init__", Str.ofString "Refused.__init__", defArgs (mth 9 0), .stmts (defBody (mth 9 0)), defScope (mth 9 0), mainGlobals, [Str.ofString "__class__"], builtinsNs) := e
      simp only [Option.some.injEq, Prod.mk.injEq] at e2
      obtain ⟨h1, h2, h3, h4, h5, h6, h7, h8⟩ := e2
      obtain ⟨nm, cc, cda, e7, e13, e8, k1, k3, k4⟩ := rfC_ok (show rfC K P.main.file n7 n13 n8 = true from c)
      subst h1 h2 h3 h4 h5 h6 h8 e7 e13 e8
      have e9 : nm = Str.ofString "__class__" := (List.cons.inj h7).1
      subst e9
      obtain ⟨ccl, cdd, vs, ccs, file, tf, u1, u2, u3⟩ := codeB_ok k3
      obtain ⟨cl, cld, csl, u4⟩ := cellB_ok k4
      exact ⟨oc, od, n9, n10, n11, n12, cda, n14, cc, osl, ccl, cdd, vs, ccs, file, tf, cl, cld, csl, q, k1, u1, u2, u3, u4⟩
    | _ => cases c
/-! ### facts as Booleans -/
def allB (l : List Bool) : Bool := l.all id
def oB (a b : Option (Option Value)) : Bool := He.eqO a b
def cfB (K : PySem.W.Frag) (x : Str) : Bool := (He.Fa.glo x).ok K && ((He.Fa.mkr x).ok K && (PySem.W.plainGet K (ga K x) Str.empty && (PySem.W.isClsIn K (ga K x) && (PySem.W.plainOver K (ga K x) && (oB (PySem.W.findIn K (.ref (ga K x)) "__setattr__") (some (some (.builtin "object.__setattr__"))) &&
  (oB (PySem.W.findIn K (.ref (ga K x)) "__class__") (some (some (.builtin "object.__class__"))) && (oB (PySem.W.specialIn K (.builtin "object.__class__") "__get__") (some (some (.builtin "getset_descriptor.__get__"))) && (decide (PySem.W.takesIn K (.builtin "object.__class__") = some true) && decide (PySem.W.mroIn K (ga K x) (.type "object") = some true)))))))))
theorem cfB_ok {K : PySem.W.Frag} {h : Heap} {mg : Str → Option Value} (X : K.In h) (G : h.Ns mainGlobals mg) {x : Str} (c : cfB K x = true) : CF K mg x := by
  obtain ⟨c1, c⟩ := He.ba c
  obtain ⟨c2, c⟩ := He.ba c
  obtain ⟨c3, c⟩ := He.ba c
  obtain ⟨c4, c⟩ := He.ba c
  obtain ⟨c5, c⟩ := He.ba c
  obtain ⟨c6, c⟩ := He.ba c
  obtain ⟨c7, c⟩ := He.ba c
  obtain ⟨c8, c⟩ := He.ba c
  obtain ⟨c9, c10⟩ := He.ba c
  exact ⟨He.glo_ok X G c1, He.mkr_ok c2, ⟨c3, c4, c5, He.eqO_ok c6⟩, ⟨He.eqO_ok c7, He.eqO_ok c8, of_decide_eq_true c9, of_decide_eq_true c10⟩⟩
def slB (K : PySem.W.Frag) (x f : Str) (i : Nat) : Bool := oB (PySem.W.findIn K (.ref (ga K x)) f) (some (some (.ref (ma K (ga K x) f)))) && (oB (PySem.W.specialIn K (.ref (ma K (ga K x) f)) "__get__") (some (some (.builtin "member_descriptor.__get__"))) && (decide (PySem.W.takesIn K (.ref (ma K (ga K x) f)) = some true) &&
  (decide (PySem.W.typeIn K (.ref (ma K (ga K x) f)) = some (.type "member_descriptor")) && decide (PySem.W.slotIn K (ma K (ga K x) f) (ga K x) = some i))))
theorem slB_ok {K : PySem.W.Frag} {x f : Str} {i : Nat} (hi : i < 1000) (c : slB K x f i = true) : Sl K x f i := by
  obtain ⟨c1, c⟩ := He.ba c
  obtain ⟨c2, c⟩ := He.ba c
  obtain ⟨c3, c⟩ := He.ba c
  obtain ⟨c4, c5⟩ := He.ba c
  exact ⟨He.eqO_ok c1, He.eqO_ok c2, of_decide_eq_true c3, of_decide_eq_true c4, of_decide_eq_true c5, hi⟩
def propB (K : PySem.W.Frag) (x f : Str) : Bool := oB (PySem.W.findIn K (.ref (ga K x)) f) (some (some (.ref (ma K (ga K x) f)))) && (oB (PySem.W.specialIn K (.ref (ma K (ga K x) f)) "__get__") (some (some (.builtin "property.__get__"))) && (decide (PySem.W.takesIn K (.ref (ma K (ga K x) f)) = some true) &&
  (match PySem.W.recIn K (ma K (ga K x) f) "property" with
  | some (.ref _ :: _) => true
  | _ => false)))
theorem propB_ok {K : PySem.W.Frag} {x f q : Str} {st : Stmt} (fn : ∃ fd, Fun K f q st (pg K x f) fd) (c : propB K x f = true) : PIn K x f q st := by
  obtain ⟨c1, c⟩ := He.ba c
  obtain ⟨c2, c⟩ := He.ba c
  obtain ⟨c3, c4⟩ := He.ba c
  refine ⟨fn, He.eqO_ok c1, He.eqO_ok c2, of_decide_eq_true c3, ?_⟩
  unfold pg
  cases e : PySem.W.recIn K (ma K (ga K x) f) "property" with
  | none =>
    rw [e] at c4
    cases c4
  | some l =>
    rw [e] at c4
    cases l with
    | nil => cases c4
    | cons v r =>
      cases v with
      | ref g => exact ⟨r, rfl⟩
      | _ => cases c4
def kitB (K : PySem.W.Frag) (t : Value) (x : Str) (b : Bool) : Bool := decide (PySem.W.kitOne K t (.ref (ga K x)) = some b)
def rclsB (K : PySem.W.Frag) (C : Addr) : Bool := match K.lookup C with
  | some ⟨.type t, _, .cls cd, sl⟩ => decide (t = "type") && (decide (cd.mro = .ref C :: arTail) && (cd.hasDict && (!cd.hasDel && (match sl.toList with
    | [_, _, _, _, some (.builtin b), _] => decide (b = "ArithmeticError.__new__")
    | _ => false))))
  | _ => false
theorem rclsB_ok {K : PySem.W.Frag} {C : Addr} (c : rclsB K C = true) : ∃ nm q N bs sn sub ab col dd k0 k1 k2 k3 k5, K.lookup C = some (excClassObj nm q C N bs arTail true sn sub ab col dd k0 k1 k2 k3 k5 "ArithmeticError.__new__") := by
  unfold rclsB at c
  cases q : K.lookup C with
  | none =>
    rw [q] at c
    cases c
  | some o =>
    obtain ⟨oc, od, dt, osl⟩ := o
    rw [q] at c
    cases oc with
    | type t =>
      cases dt with
      | cls cd =>
        obtain ⟨c1, c⟩ := He.ba (show (decide (t = "type") && (decide (cd.mro = .ref C :: arTail) && (cd.hasDict && (!cd.hasDel && (match osl.toList with
          | [_, _, _, _, some (.builtin b), _] => decide (b = "ArithmeticError.__new__")
          | _ => false))))) = true from c)
        obtain ⟨c2, c⟩ := He.ba c
        obtain ⟨c3, c⟩ := He.ba c
        obtain ⟨c4, c5⟩ := He.ba c
        obtain ⟨a1, a2, a3, a4, a5, a6, a7, a8, a9, a10, a11⟩ := cd
        have e1 := of_decide_eq_true c1
        have e2 := of_decide_eq_true c2
        dsimp only at e2 c3 c4
        have e4 : a11 = false := by
          cases a11 with
          | false => rfl
          | true => cases c4
        subst e1 e2 c3 e4
        obtain ⟨sl⟩ := osl
        match sl, c5 with
        | [k0, k1, k2, k3, some (.builtin b), k5], c5 =>
          have e5 : b = "ArithmeticError.__new__" := of_decide_eq_true c5
          subst e5
          exact ⟨a1, a5, a4, a2, a7, a8, a9, a10, od, k0, k1, k2, k3, k5, rfl⟩
      | _ => cases c
    | _ => cases dt <;> cases c
def rxB (K : PySem.W.Frag) : Bool := (He.Fa.glo "Refused").ok K && (rclsB K (ga K "Refused") && (oB (PySem.W.findIn K (.ref (ga K "Refused")) "__init__") (some (some (.ref (ma K (ga K "Refused") "__init__")))) && (decide (PySem.W.typeIn K (.ref (ma K (ga K "Refused") "__init__")) = some (.type "function")) &&
  (oB (PySem.W.findIn K (.ref (ga K "Refused")) "reason") (some none) && (oB (PySem.W.findIn K (.ref (ga K "Refused")) "__setattr__") (some (some (.builtin "object.__setattr__"))) && (decide (PySem.W.subIn K (.ref (ga K "Refused")) (.type "BaseException") = some true) && (decide (PySem.W.subIn K (.ref (ga K "Refused")) (.type "ArithmeticError") = some true) &&
  (decide (PySem.W.typeIn K (.ref (ga K "Refused")) = some (.type "type")) && (PySem.W.keepIn K (.ref (ga K "Refused")) && (oB (PySem.W.nsIn K PySem.cStatics "thirdparty.any") (some none) && (decide (PySem.W.mroIn K (ga K "Refused") (.ref (ga K "Refused")) = some true) &&
  (oB (PySem.W.ks_superIn K (ga K "Refused") (ga K "Refused") "__init__") (some (some (.builtin "ArithmeticError.__init__"))) && (xfB K (ga K "Refused") && decide (PySem.W.exmOne K (.ref (ga K "Refused")) (.ref (ga K "Refused")) = some true))))))))))))))
theorem rxB_ok {K : PySem.W.Frag} {P : Program} {h : Heap} {mg : Str → Option Value} (X : K.In h) (G : h.Ns mainGlobals mg) (e : rfAt K = rfVal) (c0 : rfB K P.main.file = true) (ht : (P.main.scope.names.lookup ("super" : Str)).isSome = false) (c : rxB K = true) : Rf P K mg ∧ Rx K := by
  obtain ⟨c1, c⟩ := He.ba c
  obtain ⟨c2, c⟩ := He.ba c
  obtain ⟨c3, c⟩ := He.ba c
  obtain ⟨c4, c⟩ := He.ba c
  obtain ⟨c5, c⟩ := He.ba c
  obtain ⟨c6, c⟩ := He.ba c
  obtain ⟨c7, c⟩ := He.ba c
  obtain ⟨c8, c⟩ := He.ba c
  obtain ⟨c9, c⟩ := He.ba c
  obtain ⟨c10, c⟩ := He.ba c
  obtain ⟨c11, c⟩ := He.ba c
  obtain ⟨c12, c⟩ := He.ba c
  obtain ⟨c13, c⟩ := He.ba c
  obtain ⟨c14, c15⟩ := He.ba c
  exact ⟨⟨He.glo_ok X G c1, rclsB_ok c2, He.eqO_ok c3, of_decide_eq_true c4, rfB_ok e c0, He.eqO_ok c5, He.eqO_ok c6, of_decide_eq_true c7, of_decide_eq_true c8, of_decide_eq_true c9, c10, He.eqO_ok c11, of_decide_eq_true c12, He.eqO_ok c13, ht⟩, ⟨xfB_ok c14, of_decide_eq_true c15⟩⟩
/-! ### what is looked at -/
def fns : List FnE := [
  ⟨fun K => ga K "is_whole", "is_whole", "is_whole", top 11⟩,
  ⟨fun K => ga K "is_within", "is_within", "is_within", top 12⟩,
  ⟨fun K => ga K "require_within", "require_within", "require_within", top 13⟩,
  ⟨fun K => ga K "without_each", "without_each", "without_each", top 15⟩,
  ⟨fun K => ga K "closed_downward", "closed_downward", "closed_downward", top 16⟩,
  ⟨fun K => ga K "is_product_in", "is_product_in", "is_product_in", top 20⟩,
  ⟨fun K => ga K "divides", "divides", "divides", top 21⟩,
  ⟨fun K => ga K "require_letters", "require_letters", "require_letters", top 23⟩,
  ⟨fun K => ga K "are_long", "are_long", "are_long", top 32⟩,
  ⟨fun K => ga K "few_least_of", "few_least_of", "few_least_of", top 33⟩,
  ⟨fun K => ga K "letter_text", "letter_text", "letter_text", top 35⟩,
  ⟨fun K => ga K "product_text", "product_text", "product_text", top 36⟩,
  ⟨fun K => ga K "lot_text", "lot_text", "lot_text", top 37⟩,
  ⟨fun K => ga K "is_passed_member", "is_passed_member", "is_passed_member", top 43⟩,
  ⟨fun K => ga K "members_told", "members_told", "members_told", top 44⟩,
  ⟨fun K => ga K "made_lot", "made_lot", "made_lot", top 45⟩,
  ⟨fun K => ga K "has_product", "has_product", "has_product", top 47⟩,
  ⟨fun K => ga K "require_lot", "require_lot", "require_lot", top 49⟩,
  ⟨fun K => ga K "is_set_on", "is_set_on", "is_set_on", top 54⟩,
  ⟨fun K => ga K "all_sets", "all_sets", "all_sets", top 55⟩,
  ⟨fun K => ga K "by_size", "by_size", "by_size", top 56⟩,
  ⟨fun K => ga K "greatest_of", "greatest_of", "greatest_of", top 57⟩,
  ⟨fun K => ga K "family_text", "family_text", "family_text", top 58⟩,
  ⟨fun K => ga K "sets_told", "sets_told", "sets_told", top 61⟩,
  ⟨fun K => ga K "made_family", "made_family", "made_family", top 62⟩,
  ⟨fun K => ga K "require_family", "require_family", "require_family", top 63⟩,
  ⟨fun K => ga K "is_without_squares", "is_without_squares", "is_without_squares", top 64⟩,
  ⟨fun K => ga K "require_without_squares", "require_without_squares", "require_without_squares", top 65⟩,
  ⟨fun K => ga K "product_of_set", "product_of_set", "product_of_set", top 66⟩,
  ⟨fun K => ga K "sets_left", "sets_left", "sets_left", top 67⟩,
  ⟨fun K => ga K "family_in", "family_in", "family_in", top 68⟩,
  ⟨fun K => ga K "lot_in", "lot_in", "lot_in", top 69⟩,
  ⟨fun K => ga K "family_of", "family_of", "family_of", top 70⟩,
  ⟨fun K => ga K "lot_of", "lot_of", "lot_of", top 71⟩,
  ⟨fun K => ga K "_law_pot", "_law_pot", "_law_pot", top 73⟩,
  ⟨fun K => ga K "_law_dip", "_law_dip", "_law_dip", top 74⟩,
  ⟨fun K => ga K "_law_pick", "_law_pick", "_law_pick", top 75⟩,
  ⟨fun K => ga K "_law_subsets", "_law_subsets", "_law_subsets", top 76⟩,
  ⟨fun K => ga K "_law_inside", "_law_inside", "_law_inside", top 77⟩,
  ⟨fun K => ga K "_law_sets", "_law_sets", "_law_sets", top 78⟩,
  ⟨fun K => ga K "_law_all", "_law_all", "_law_all", top 79⟩,
  ⟨fun K => ga K "_law_least", "_law_least", "_law_least", top 80⟩,
  ⟨fun K => ga K "_law_divides", "_law_divides", "_law_divides", top 81⟩,
  ⟨fun K => ga K "_law_product", "_law_product", "_law_product", top 82⟩,
  ⟨fun K => ga K "_law_letters", "_law_letters", "_law_letters", top 83⟩,
  ⟨fun K => ga K "_law_family_right", "_law_family_right", "_law_family_right", top 84⟩,
  ⟨fun K => ga K "_law_lot_right", "_law_lot_right", "_law_lot_right", top 85⟩,
  ⟨fun K => ga K "law", "law", "law", top 86⟩,
  ⟨fun K => ma K (ga K "KeptMembers") "__init__", "__init__", "KeptMembers.__init__", mth 41 1⟩,
  ⟨fun K => ma K (ga K "KeptSets") "__init__", "__init__", "KeptSets.__init__", mth 59 1⟩,
  ⟨fun K => ma K (ga K "Lot") "__init__", "__init__", "Lot.__init__", mth 42 1⟩,
  ⟨fun K => ma K (ga K "Family") "__init__", "__init__", "Family.__init__", mth 60 1⟩,
  ⟨fun K => ma K (ga K "Lot") "__contains__", "__contains__", "Lot.__contains__", mth 42 13⟩,
  ⟨fun K => ma K (ga K "Lot") "__eq__", "__eq__", "Lot.__eq__", mth 42 14⟩,
  ⟨fun K => ma K (ga K "Lot") "__str__", "__str__", "Lot.__str__", mth 42 18⟩,
  ⟨fun K => ma K (ga K "Family") "__len__", "__len__", "Family.__len__", mth 60 10⟩,
  ⟨fun K => ma K (ga K "Family") "__iter__", "__iter__", "Family.__iter__", mth 60 12⟩,
  ⟨fun K => ma K (ga K "Family") "__eq__", "__eq__", "Family.__eq__", mth 60 13⟩,
  ⟨fun K => ma K (ga K "Family") "__str__", "__str__", "Family.__str__", mth 60 14⟩,
  ⟨fun K => pg K "Lot" "letters", "letters", "Lot.letters", mth 42 3⟩,
  ⟨fun K => pg K "Lot" "members", "members", "Lot.members", mth 42 4⟩,
  ⟨fun K => pg K "Lot" "is_squarefree", "is_squarefree", "Lot.is_squarefree", mth 42 7⟩,
  ⟨fun K => pg K "Family" "corners", "corners", "Family.corners", mth 60 2⟩]
def fas : List He.Fa := [
  .glo "is_whole", .glo "is_within", .glo "require_within", .glo "without_each", .glo "closed_downward", .glo "is_product_in", .glo "divides", .glo "require_letters", .glo "are_long", .glo "few_least_of", .glo "letter_text", .glo "product_text", .glo "lot_text", .glo "is_passed_member", .glo "members_told", .glo "made_lot", .glo "has_product", .glo "require_lot", .glo "is_set_on", .glo "all_sets", .glo "by_size", .glo "greatest_of", .glo "family_text", .glo "sets_told", .glo "made_family", .glo "require_family", .glo "is_without_squares", .glo "require_without_squares", .glo "product_of_set", .glo "sets_left", .glo "family_in", .glo "lot_in", .glo "family_of", .glo "lot_of", .glo "_law_pot", .glo "_law_dip", .glo "_law_pick", .glo "_law_subsets", .glo "_law_inside", .glo "_law_sets", .glo "_law_all", .glo "_law_least", .glo "_law_divides", .glo "_law_product", .glo "_law_letters", .glo "_law_family_right", .glo "_law_lot_right", .glo "law", .free "isinstance", .free "len", .free "range", .free "list", .free "sorted", .free "tuple", .free "all", .free "any", .free "zip", .free "sum", .free "max", .free "min", .free "set", .free "int", .free "abs", .free "str", .free "iter", .free "enumerate", .free "bool", .free "super", .int "MAX_LETTERS" 8, .int "MAX_EXPONENT" 60, .int "MAX_MEMBER_EXPONENT" 8, .int "MAX_MEMBERS" 24, .int "MAX_PASSED_lots" 200, .int "MAX_CORNERS" 8, .int "MAX_PASSED_families" 256, .str "BETWEEN" ", ", .str "SQUARES" "squares", .meth "KeptMembers" "__init__", .meth "KeptSets" "__init__", .meth "Lot" "__init__", .meth "Family" "__init__", .meth "Lot" "__contains__", .meth "Lot" "__eq__", .meth "Lot" "__str__", .meth "Family" "__len__", .meth "Family" "__iter__", .meth "Family" "__eq__", .meth "Family" "__str__"]
def exs (f : Str) (K : PySem.W.Frag) : List Bool := [
  cfB K "KeptMembers",
  cfB K "Lot",
  cfB K "KeptSets",
  cfB K "Family",
  slB K "KeptMembers" "own_members" 0,
  slB K "KeptSets" "own_sets" 0,
  slB K "Lot" "own_letters" 0,
  slB K "Lot" "own_members" 1,
  slB K "Family" "own_corners" 0,
  slB K "Family" "own_known" 1,
  slB K "Family" "own_members" 2,
  slB K "Family" "own_sets" 3,
  propB K "Lot" "letters",
  propB K "Lot" "members",
  propB K "Lot" "is_squarefree",
  propB K "Family" "corners",
  kitB K (.ref (ga K "KeptMembers")) "KeptMembers" true,
  kitB K (.type "tuple") "KeptMembers" false,
  kitB K (.ref (ga K "KeptSets")) "KeptSets" true,
  kitB K (.type "tuple") "KeptSets" false,
  kitB K (.ref (ga K "Lot")) "Lot" true,
  kitB K (.ref (ga K "Family")) "Family" true,
  PySem.W.notFirst K (ga K "Lot") (.ref (ga K "Lot")),
  PySem.W.notFirst K (ga K "Family") (.ref (ga K "Family")),
  oB (PySem.W.findIn K (.ref (ga K "Lot")) "__ne__") (some (some (.builtin "object.__ne__"))),
  oB (PySem.W.findIn K (.ref (ga K "Family")) "__ne__") (some (some (.builtin "object.__ne__"))),
  rfB K f,
  rxB K]
abbrev AlK : Type := Bool × List He.FnW × FnC
def obsK (f : Str) (K : PySem.W.Frag) : AlK := (fas.all (fun a => a.ok K) && (fns.all (fun d => d.ok K) && (exs f K).all id), fns.map fun d => fnAt K (d.ad K), rfAt K)
def valK : AlK := (true, fns.map FnE.val, rfVal)
/-- the objects that are needed, by their names -/
def adG (g : Addr → Option Obj) : List Addr :=
  let K0 := He.frG g [mainGlobals, PySem.cStatics]
  let cs := (["KeptMembers", "Lot", "KeptSets", "Family", "Refused"] : List Str).map (ga K0)
  let nss := cs.filterMap fun a => match g a with
    | some ⟨_, _, .cls cd, _⟩ => some cd.ns
    | _ => none
  let as1 := [mainGlobals, PySem.cStatics] ++ (cs ++ nss)
  let K1 := He.frG g as1
  let ms := [ma K1 (ga K1 "KeptMembers") "__init__", ma K1 (ga K1 "KeptSets") "__init__", ma K1 (ga K1 "Lot") "__init__", ma K1 (ga K1 "Family") "__init__", ma K1 (ga K1 "Lot") "__contains__", ma K1 (ga K1 "Lot") "__eq__", ma K1 (ga K1 "Lot") "__str__", ma K1 (ga K1 "Family") "__len__", ma K1 (ga K1 "Family") "__iter__", ma K1 (ga K1 "Family") "__eq__", ma K1 (ga K1 "Family") "__str__", ma K1 (ga K1 "KeptMembers") "own_members", ma K1 (ga K1 "KeptSets") "own_sets", ma K1 (ga K1 "Lot") "own_letters", ma K1 (ga K1 "Lot") "own_members", ma K1 (ga K1 "Family") "own_corners", ma K1 (ga K1 "Family") "own_known", ma K1 (ga K1 "Family") "own_members", ma K1 (ga K1 "Family") "own_sets", ma K1 (ga K1 "Lot") "letters", ma K1 (ga K1 "Lot") "members", ma K1 (ga K1 "Lot") "is_squarefree", ma K1 (ga K1 "Family") "corners", ma K1 (ga K1 "Refused") "__init__"]
  let ds := ([Str.ofString "is_whole", Str.ofString "is_within", Str.ofString "require_within", Str.ofString "without_each", Str.ofString "closed_downward", Str.ofString "is_product_in", Str.ofString "divides", Str.ofString "require_letters", Str.ofString "are_long", Str.ofString "few_least_of", Str.ofString "letter_text", Str.ofString "product_text", Str.ofString "lot_text", Str.ofString "is_passed_member", Str.ofString "members_told", Str.ofString "made_lot", Str.ofString "has_product", Str.ofString "require_lot", Str.ofString "is_set_on", Str.ofString "all_sets", Str.ofString "by_size", Str.ofString "greatest_of", Str.ofString "family_text", Str.ofString "sets_told", Str.ofString "made_family", Str.ofString "require_family", Str.ofString "is_without_squares", Str.ofString "require_without_squares", Str.ofString "product_of_set", Str.ofString "sets_left", Str.ofString "family_in", Str.ofString "lot_in", Str.ofString "family_of", Str.ofString "lot_of", Str.ofString "_law_pot", Str.ofString "_law_dip", Str.ofString "_law_pick", Str.ofString "_law_subsets", Str.ofString "_law_inside", Str.ofString "_law_sets", Str.ofString "_law_all", Str.ofString "_law_least", Str.ofString "_law_divides", Str.ofString "_law_product", Str.ofString "_law_letters", Str.ofString "_law_family_right", Str.ofString "_law_lot_right", Str.ofString "law"] : List Str).map (ga K1)
  let ps := ms.flatMap fun a => match g a with
    | some ⟨_, _, .fields vs, _⟩ => (match vs.toList with
      | .ref b :: _ => [b]
      | _ => [])
    | _ => []
  let cd := (ds ++ (ms ++ ps)).flatMap fun a => match g a with
    | some ⟨_, _, .func fd, _⟩ => He.refV fd.code ++ fd.closure.map (·.2)
    | _ => []
  as1 ++ (ms ++ (ds ++ (ps ++ cd)))
def obsKG (f : Str) (g : Addr → Option Obj) : AlK := obsK f (He.frG g (adG g))
def hookK (f : Str) : PySem.W.Hook where
  α := AlK
  obs := fun s => obsKG f s.heap.get?
  val := fun _ => valK
  says := fun _ h => ∃ K : PySem.W.Frag, K.In h ∧ obsK f K = valK
  of := fun _ _ e => ⟨_, He.frG_in, e⟩
  keeps := fun _ _ _ ⟨K, hK, c⟩ k => ⟨K, PySem.W.Frag.In.keeps hK k, c⟩
theorem obsKG_eq {f : Str} {g : Addr → Option Obj} {s : Shared} (h : ∀ a, g a = s.heap.get? a) : obsKG f g = (hookK f).obs s := by
  have e : g = s.heap.get? := funext h
  rw [e] <;> rfl
section
variable {f : Str} {K : PySem.W.Frag} (c : obsK f K = valK)
include c
theorem c_all : (fas.all (fun a => a.ok K) && (fns.all (fun d => d.ok K) && (exs f K).all id)) = true := congrArg (fun z : AlK => z.1) c
theorem c_fa (i : Nat) {a : He.Fa} (h : fas[i]? = some a := by rfl) : a.ok K = true := List.all_eq_true.mp (He.ba (c_all c)).1 a (List.mem_of_getElem? h)
theorem c_ex (i : Nat) {b : Bool} (h : (exs f K)[i]? = some b := by rfl) : b = true := List.all_eq_true.mp (He.ba (He.ba (c_all c)).2).2 b (List.mem_of_getElem? h)
theorem c_fn (i : Nat) {d : FnE} (h : fns[i]? = some d := by rfl) : ∃ fd, Fun K d.name d.qual d.st (d.ad K) fd := by
  have e : fns.map (fun d => fnAt K (d.ad K)) = fns.map FnE.val := congrArg (fun z : AlK => z.2.1) c
  have e2 : (fns.map fun d => fnAt K (d.ad K))[i]? = (fns.map FnE.val)[i]? := by rw [e]
  rw [List.getElem?_map, List.getElem?_map, h] at e2
  exact fnE_ok (Option.some.inj e2) (List.all_eq_true.mp (He.ba (He.ba (c_all c)).2).1 d (List.mem_of_getElem? h))
theorem c_rf : rfAt K = rfVal := congrArg (fun z : AlK => z.2.2) c
end
section
variable {f : Str} {K : PySem.W.Frag} {h : Heap} {mg : Str → Option Value} (X : K.In h) (G : h.Ns mainGlobals mg) (c : obsK f K = valK)
include X G c
theorem tx_of : Tx K mg where
  d_is_whole := by
    obtain ⟨fd, F⟩ := c_fn c 0
    exact ⟨fd, F, He.glo_ok X G (c_fa c 0)⟩
  d_is_within := by
    obtain ⟨fd, F⟩ := c_fn c 1
    exact ⟨fd, F, He.glo_ok X G (c_fa c 1)⟩
  d_require_within := by
    obtain ⟨fd, F⟩ := c_fn c 2
    exact ⟨fd, F, He.glo_ok X G (c_fa c 2)⟩
  d_without_each := by
    obtain ⟨fd, F⟩ := c_fn c 3
    exact ⟨fd, F, He.glo_ok X G (c_fa c 3)⟩
  d_closed_downward := by
    obtain ⟨fd, F⟩ := c_fn c 4
    exact ⟨fd, F, He.glo_ok X G (c_fa c 4)⟩
  d_is_product_in := by
    obtain ⟨fd, F⟩ := c_fn c 5
    exact ⟨fd, F, He.glo_ok X G (c_fa c 5)⟩
  d_divides := by
    obtain ⟨fd, F⟩ := c_fn c 6
    exact ⟨fd, F, He.glo_ok X G (c_fa c 6)⟩
  d_require_letters := by
    obtain ⟨fd, F⟩ := c_fn c 7
    exact ⟨fd, F, He.glo_ok X G (c_fa c 7)⟩
  d_are_long := by
    obtain ⟨fd, F⟩ := c_fn c 8
    exact ⟨fd, F, He.glo_ok X G (c_fa c 8)⟩
  d_few_least_of := by
    obtain ⟨fd, F⟩ := c_fn c 9
    exact ⟨fd, F, He.glo_ok X G (c_fa c 9)⟩
  d_letter_text := by
    obtain ⟨fd, F⟩ := c_fn c 10
    exact ⟨fd, F, He.glo_ok X G (c_fa c 10)⟩
  d_product_text := by
    obtain ⟨fd, F⟩ := c_fn c 11
    exact ⟨fd, F, He.glo_ok X G (c_fa c 11)⟩
  d_lot_text := by
    obtain ⟨fd, F⟩ := c_fn c 12
    exact ⟨fd, F, He.glo_ok X G (c_fa c 12)⟩
  d_is_passed_member := by
    obtain ⟨fd, F⟩ := c_fn c 13
    exact ⟨fd, F, He.glo_ok X G (c_fa c 13)⟩
  d_members_told := by
    obtain ⟨fd, F⟩ := c_fn c 14
    exact ⟨fd, F, He.glo_ok X G (c_fa c 14)⟩
  d_made_lot := by
    obtain ⟨fd, F⟩ := c_fn c 15
    exact ⟨fd, F, He.glo_ok X G (c_fa c 15)⟩
  d_has_product := by
    obtain ⟨fd, F⟩ := c_fn c 16
    exact ⟨fd, F, He.glo_ok X G (c_fa c 16)⟩
  d_require_lot := by
    obtain ⟨fd, F⟩ := c_fn c 17
    exact ⟨fd, F, He.glo_ok X G (c_fa c 17)⟩
  d_is_set_on := by
    obtain ⟨fd, F⟩ := c_fn c 18
    exact ⟨fd, F, He.glo_ok X G (c_fa c 18)⟩
  d_all_sets := by
    obtain ⟨fd, F⟩ := c_fn c 19
    exact ⟨fd, F, He.glo_ok X G (c_fa c 19)⟩
  d_by_size := by
    obtain ⟨fd, F⟩ := c_fn c 20
    exact ⟨fd, F, He.glo_ok X G (c_fa c 20)⟩
  d_greatest_of := by
    obtain ⟨fd, F⟩ := c_fn c 21
    exact ⟨fd, F, He.glo_ok X G (c_fa c 21)⟩
  d_family_text := by
    obtain ⟨fd, F⟩ := c_fn c 22
    exact ⟨fd, F, He.glo_ok X G (c_fa c 22)⟩
  d_sets_told := by
    obtain ⟨fd, F⟩ := c_fn c 23
    exact ⟨fd, F, He.glo_ok X G (c_fa c 23)⟩
  d_made_family := by
    obtain ⟨fd, F⟩ := c_fn c 24
    exact ⟨fd, F, He.glo_ok X G (c_fa c 24)⟩
  d_require_family := by
    obtain ⟨fd, F⟩ := c_fn c 25
    exact ⟨fd, F, He.glo_ok X G (c_fa c 25)⟩
  d_is_without_squares := by
    obtain ⟨fd, F⟩ := c_fn c 26
    exact ⟨fd, F, He.glo_ok X G (c_fa c 26)⟩
  d_require_without_squares := by
    obtain ⟨fd, F⟩ := c_fn c 27
    exact ⟨fd, F, He.glo_ok X G (c_fa c 27)⟩
  d_product_of_set := by
    obtain ⟨fd, F⟩ := c_fn c 28
    exact ⟨fd, F, He.glo_ok X G (c_fa c 28)⟩
  d_sets_left := by
    obtain ⟨fd, F⟩ := c_fn c 29
    exact ⟨fd, F, He.glo_ok X G (c_fa c 29)⟩
  d_family_in := by
    obtain ⟨fd, F⟩ := c_fn c 30
    exact ⟨fd, F, He.glo_ok X G (c_fa c 30)⟩
  d_lot_in := by
    obtain ⟨fd, F⟩ := c_fn c 31
    exact ⟨fd, F, He.glo_ok X G (c_fa c 31)⟩
  d_family_of := by
    obtain ⟨fd, F⟩ := c_fn c 32
    exact ⟨fd, F, He.glo_ok X G (c_fa c 32)⟩
  d_lot_of := by
    obtain ⟨fd, F⟩ := c_fn c 33
    exact ⟨fd, F, He.glo_ok X G (c_fa c 33)⟩
  d_law_pot := by
    obtain ⟨fd, F⟩ := c_fn c 34
    exact ⟨fd, F, He.glo_ok X G (c_fa c 34)⟩
  d_law_dip := by
    obtain ⟨fd, F⟩ := c_fn c 35
    exact ⟨fd, F, He.glo_ok X G (c_fa c 35)⟩
  d_law_pick := by
    obtain ⟨fd, F⟩ := c_fn c 36
    exact ⟨fd, F, He.glo_ok X G (c_fa c 36)⟩
  d_law_subsets := by
    obtain ⟨fd, F⟩ := c_fn c 37
    exact ⟨fd, F, He.glo_ok X G (c_fa c 37)⟩
  d_law_inside := by
    obtain ⟨fd, F⟩ := c_fn c 38
    exact ⟨fd, F, He.glo_ok X G (c_fa c 38)⟩
  d_law_sets := by
    obtain ⟨fd, F⟩ := c_fn c 39
    exact ⟨fd, F, He.glo_ok X G (c_fa c 39)⟩
  d_law_all := by
    obtain ⟨fd, F⟩ := c_fn c 40
    exact ⟨fd, F, He.glo_ok X G (c_fa c 40)⟩
  d_law_least := by
    obtain ⟨fd, F⟩ := c_fn c 41
    exact ⟨fd, F, He.glo_ok X G (c_fa c 41)⟩
  d_law_divides := by
    obtain ⟨fd, F⟩ := c_fn c 42
    exact ⟨fd, F, He.glo_ok X G (c_fa c 42)⟩
  d_law_product := by
    obtain ⟨fd, F⟩ := c_fn c 43
    exact ⟨fd, F, He.glo_ok X G (c_fa c 43)⟩
  d_law_letters := by
    obtain ⟨fd, F⟩ := c_fn c 44
    exact ⟨fd, F, He.glo_ok X G (c_fa c 44)⟩
  d_law_family_right := by
    obtain ⟨fd, F⟩ := c_fn c 45
    exact ⟨fd, F, He.glo_ok X G (c_fa c 45)⟩
  d_law_lot_right := by
    obtain ⟨fd, F⟩ := c_fn c 46
    exact ⟨fd, F, He.glo_ok X G (c_fa c 46)⟩
  d_law := by
    obtain ⟨fd, F⟩ := c_fn c 47
    exact ⟨fd, F, He.glo_ok X G (c_fa c 47)⟩
  f_isinstance := He.free_ok X G (c_fa c 48)
  f_len := He.free_ok X G (c_fa c 49)
  f_range := He.free_ok X G (c_fa c 50)
  f_list := He.free_ok X G (c_fa c 51)
  f_sorted := He.free_ok X G (c_fa c 52)
  f_tuple := He.free_ok X G (c_fa c 53)
  f_all := He.free_ok X G (c_fa c 54)
  f_any := He.free_ok X G (c_fa c 55)
  f_zip := He.free_ok X G (c_fa c 56)
  f_sum := He.free_ok X G (c_fa c 57)
  f_max := He.free_ok X G (c_fa c 58)
  f_min := He.free_ok X G (c_fa c 59)
  f_set := He.free_ok X G (c_fa c 60)
  f_int := He.free_ok X G (c_fa c 61)
  f_abs := He.free_ok X G (c_fa c 62)
  f_str := He.free_ok X G (c_fa c 63)
  f_iter := He.free_ok X G (c_fa c 64)
  f_enumerate := He.free_ok X G (c_fa c 65)
  f_bool := He.free_ok X G (c_fa c 66)
  f_super := He.free_ok X G (c_fa c 67)
  c_MAX_LETTERS := He.int_ok X G (c_fa c 68)
  c_MAX_EXPONENT := He.int_ok X G (c_fa c 69)
  c_MAX_MEMBER_EXPONENT := He.int_ok X G (c_fa c 70)
  c_MAX_MEMBERS := He.int_ok X G (c_fa c 71)
  c_MAX_PASSED_lots := He.int_ok X G (c_fa c 72)
  c_MAX_CORNERS := He.int_ok X G (c_fa c 73)
  c_MAX_PASSED_families := He.int_ok X G (c_fa c 74)
  c_BETWEEN := He.str_ok X G (c_fa c 75)
  c_SQUARES := He.str_ok X G (c_fa c 76)
theorem tc_of : Tc K mg where
  KM := cfB_ok X G (c_ex c 0)
  LO := cfB_ok X G (c_ex c 1)
  KS := cfB_ok X G (c_ex c 2)
  FA := cfB_ok X G (c_ex c 3)
  sKM := slB_ok (by decide) (c_ex c 4)
  sKS := slB_ok (by decide) (c_ex c 5)
  sL0 := slB_ok (by decide) (c_ex c 6)
  sL1 := slB_ok (by decide) (c_ex c 7)
  sF0 := slB_ok (by decide) (c_ex c 8)
  sF1 := slB_ok (by decide) (c_ex c 9)
  sF2 := slB_ok (by decide) (c_ex c 10)
  sF3 := slB_ok (by decide) (c_ex c 11)
  iKM := ⟨c_fn c 48, He.meth_ok (c_fa c 77)⟩
  iKS := ⟨c_fn c 49, He.meth_ok (c_fa c 78)⟩
  iLO := ⟨c_fn c 50, He.meth_ok (c_fa c 79)⟩
  iFA := ⟨c_fn c 51, He.meth_ok (c_fa c 80)⟩
  mLc := ⟨c_fn c 52, He.meth_ok (c_fa c 81)⟩
  mLe := ⟨c_fn c 53, He.meth_ok (c_fa c 82)⟩
  mLt := ⟨c_fn c 54, He.meth_ok (c_fa c 83)⟩
  mFl := ⟨c_fn c 55, He.meth_ok (c_fa c 84)⟩
  mFi := ⟨c_fn c 56, He.meth_ok (c_fa c 85)⟩
  mFe := ⟨c_fn c 57, He.meth_ok (c_fa c 86)⟩
  mFt := ⟨c_fn c 58, He.meth_ok (c_fa c 87)⟩
  pL0 := propB_ok (c_fn c 59) (c_ex c 12)
  pL1 := propB_ok (c_fn c 60) (c_ex c 13)
  pLs := propB_ok (c_fn c 61) (c_ex c 14)
  pF0 := propB_ok (c_fn c 62) (c_ex c 15)
  kKM := of_decide_eq_true (c_ex c 16)
  kKM' := of_decide_eq_true (c_ex c 17)
  kKS := of_decide_eq_true (c_ex c 18)
  kKS' := of_decide_eq_true (c_ex c 19)
  kLO := of_decide_eq_true (c_ex c 20)
  kFA := of_decide_eq_true (c_ex c 21)
  nLO := c_ex c 22
  nFA := c_ex c 23
omit X G in
theorem ts_of : Ts K where
  nL := He.eqO_ok (c_ex c 24)
  nF := He.eqO_ok (c_ex c 25)
theorem rf_of {P : Program} (hf : f = P.main.file) (ht : (P.main.scope.names.lookup ("super" : Str)).isSome = false) : Rf P K mg ∧ Rx K := by
  subst hf
  exact rxB_ok X G (c_rf c) (c_ex c 26) ht (c_ex c 27)
end
end K41

/-! K41H2 -/
/-! The head, run. -/
namespace K41
open PySem PySem.W PySem.Calls PyProof.Rows
abbrev R41 : OpenRow := OpenLaw.row PySem.Challenge.rw_pureladders_k41_whole_lots_of_families_a
abbrev qv : Program := view R41.prog [86]
def names1 : List PySem.Str := ["_wall", "LadderError", "InvalidLot", "InvalidFamily", "InvalidOperation", "ParseError", "InvalidNumber", "TooMany", "Refused", "is_whole", "is_within", "require_within", "without_each", "closed_downward", "MAX_LETTERS", "MAX_EXPONENT", "is_product_in", "divides", "added_product", "require_letters", "MAX_MEMBER_EXPONENT", "MAX_MEMBERS", "MAX_PASSED_lots", "MAX_POWER", "DIGITS", "BETWEEN", "least_of", "are_long", "few_least_of"]
def names2 : List PySem.Str := ["power_products", "letter_text", "product_text", "lot_text", "power_in", "product_in", "members_in", "KeptMembers", "Lot", "is_passed_member", "members_told", "made_lot", "products_of_two", "has_product", "require_same_letters", "require_lot", "MAX_CORNERS", "MAX_PASSED_families", "SQUARES", "is_set_on", "all_sets", "by_size", "greatest_of", "family_text", "KeptSets", "Family", "sets_told", "made_family", "require_family"]
def names3 : List PySem.Str := ["is_without_squares", "require_without_squares", "product_of_set", "sets_left", "family_in", "lot_in", "family_of", "lot_of", "_law_pot", "_law_dip", "_law_pick", "_law_subsets", "_law_inside", "_law_sets", "_law_all", "_law_least", "_law_divides", "_law_product", "_law_letters", "_law_family_right", "_law_lot_right"]
def names : List PySem.Str := names1 ++ (names2 ++ names3)
abbrev file41 : PySem.Str := PySem.Challenge.pw_pureladders_k41_whole_lots_of_families_a.main.file
abbrev hk : Hook := hookK file41
def ob (s : SharedT) : AlK := obsKG file41 (HandSHeadRun.getT s)
theorem ob_eq (s : SharedT) : ob s = hk.obs s.abs := obsKG_eq (HandSHeadRun.getT_eq s)
theorem run (w : World) : HandSHeadRun.RunEq R41 qv hk ob 12000 names w := by
  intro os
  kernel_rfl
end K41

/-! K41H3 -/
/-! The law holds. -/
namespace K41
open PySem PySem.Spec PyProof.Rows L2
theorem the_end {w : World} {K : PySem.W.Frag} {h : Heap} {mg : Str → Option Value} {f : Addr} (X : K.In h) (G : h.Ns mainGlobals mg) (hfa : mg ("law" : Str) = some (.ref f)) (c : obsK file41 K = valK) :
    ∃ fd : FuncData, (∀ (s : Shared) (v : Value), BindsTo s fd ⟨[v], []⟩ [("_law_script", v)]) ∧ ∀ base : Heap, K.In base → base.Ns mainGlobals mg → FnOk PySem.Challenge.pw_pureladders_k41_whole_lots_of_families_a w K mg base CX0 11 f fd ["_law_script"] (spLaw K) := by
  have T := tx_of X G c
  have C := tc_of X G c
  obtain ⟨Rr, Y⟩ := rf_of (P := PySem.Challenge.pw_pureladders_k41_whole_lots_of_families_a) X G c rfl (by decide +kernel)
  obtain ⟨fd, F, g⟩ := T.d_law
  have e := hfa.symm.trans g
  cases e
  refine ⟨fd, fun s v => ?_, fun base _ _ => fn_LW F Rr Y T C (ts_of c)⟩
  obtain ⟨oc, od, kV, doc, pm, an, cdv, ct, osl, rfl, _, _⟩ := F.ex
  exact .of_eq rfl
end K41
open PySem PySem.W PySem.Calls PyProof.Rows
theorem PySem.Challenge.cw_pureladders_k41_whole_lots_of_families_a_holds : PySem.Challenge.rw_pureladders_k41_whole_lots_of_families_a.Holds := by
  w_on; o_law
  refine HandSHeadRun.head_any (r := OpenLaw.row PySem.Challenge.rw_pureladders_k41_whole_lots_of_families_a) (q := view (OpenLaw.row PySem.Challenge.rw_pureladders_k41_whole_lots_of_families_a).prog [86]) (H := K41.hk) (ob := K41.ob) (M := 12000) (loose := K41.names) (d := HandSHeadRun.topDef (OpenLaw.row PySem.Challenge.rw_pureladders_k41_whole_lots_of_families_a).prog 86) (kwd := []) K41.ob_eq
    (by kernel_rfl) (fun s => by kernel_rfl) K41.run (by kernel_rfl) (by kernel_rfl) (by kernel_rfl) (by rfl) (by first | assumption | decide +kernel) (by decide +kernel) ⟨rfl, rfl, rfl, rfl, rfl, by decide +kernel⟩ ?hw ?hc
  case hw => w_witness2
  case hc =>
    refine L2.walk_ofE (l := PySem.Challenge.rw_pureladders_k41_whole_lots_of_families_a) (n := 63) (k := 11) (x := "_law_script") (CX := L2.CX0) rfl (by decide) (by kernel_rfl) ⟨rfl, by decide, by decide⟩ ?F (fun _ _ _ _ z => z)
    intro w mg fa h Y G hmg0
    obtain ⟨K, KX, c⟩ := Y
    have hmg : mg ("law" : PySem.Str) = some (.ref fa) := by
      have e : (HandSHeadRun.topDef (OpenLaw.row PySem.Challenge.rw_pureladders_k41_whole_lots_of_families_a).prog 86).name = ("law" : PySem.Str) := by kernel_rfl
      rw [← e]
      exact hmg0
    obtain ⟨fd, hb, hF⟩ := K41.the_end (w := w) KX G hmg c
    exact ⟨K, fd, K41.spLaw K, KX, hb, fun H a ns hl _ hS => ⟨a, ns, rfl, hS, by omega, fun _ => rfl⟩, hF⟩
