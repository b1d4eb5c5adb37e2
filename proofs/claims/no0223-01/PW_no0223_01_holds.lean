import PyProof.Rows.All
import Wide.All
import OpenK.AllK
import Wide.FinOn
import PySem.Challenge.RW_no0223_01
open PySem PySem.W PyProof.Rows
set_option Elab.async false
set_option maxRecDepth 100000
set_option maxHeartbeats 8000000
namespace Mine
open_top hd for PySem.Challenge.rw_no0223_01
end Mine
/-! Law1 -/
section
namespace Mine
/-! the plain law: no program in sight -/

def look (D : List (Int × Int)) (k : Int) : Int := ((D.find? fun p => decide (p.1 = k)).map (·.2)).getD 0

structure SS where
  D : List (Int × Int)
  act : List Int
  spl : List Int
  free : List Int

def freeTurn (Hi : Int → Int) (f : Int) (D : List (Int × Int)) (af : List Int × List Int) (old : Int) : List Int × List Int :=
  if Hi old < f then (af.1.erase old, af.2 ++ [look D old]) else af
def freed (Hi : Int → Int) (f : Int) (D : List (Int × Int)) (act free : List Int) : List Int × List Int :=
  act.foldl (freeTurn Hi f D) (act, free)
def longTurn (Hi : Int → Int) (l old : Int) : Int := if Hi old > Hi l then old else l
def longest (Hi : Int → Int) (act : List Int) (reg : Int) : Int := act.foldl (longTurn Hi) reg
def putD' (D : List (Int × Int)) (k v : Int) : List (Int × Int) :=
  if D.any (fun p => decide (p.1 = k)) then D.map (fun p => if decide (p.1 = k) then (p.1, v) else p) else D ++ [(k, v)]
def delD' (D : List (Int × Int)) (k : Int) : List (Int × Int) := D.filter fun p => decide (p.1 ≠ k)

def turn (Lo Hi : Int → Int) (s : SS) (reg : Int) : SS :=
  match (freed Hi (Lo reg) s.D s.act s.free).2.getLast? with
  | some r => { D := putD' s.D reg r, act := (freed Hi (Lo reg) s.D s.act s.free).1 ++ [reg], spl := s.spl, free := (freed Hi (Lo reg) s.D s.act s.free).2.dropLast }
  | none =>
    if longest Hi (freed Hi (Lo reg) s.D s.act s.free).1 reg ≠ reg then
      { D := putD' (delD' s.D (longest Hi (freed Hi (Lo reg) s.D s.act s.free).1 reg)) reg (look s.D (longest Hi (freed Hi (Lo reg) s.D s.act s.free).1 reg)),
        act := (freed Hi (Lo reg) s.D s.act s.free).1.erase (longest Hi (freed Hi (Lo reg) s.D s.act s.free).1 reg) ++ [reg],
        spl := s.spl ++ [longest Hi (freed Hi (Lo reg) s.D s.act s.free).1 reg], free := [] }
    else { D := s.D, act := (freed Hi (Lo reg) s.D s.act s.free).1, spl := s.spl ++ [longest Hi (freed Hi (Lo reg) s.D s.act s.free).1 reg], free := [] }

def pool (c : Nat) : List Int := (List.range c).map (Int.ofNat ·)
def start (c : Nat) : SS := ⟨[], [], [], (pool c).reverse⟩
def scanF (Lo Hi : Int → Int) (c : Nat) (order : List Int) : SS := order.foldl (turn Lo Hi) (start c)

def keys (D : List (Int × Int)) : List Int := D.map (·.1)
def inside (Lo Hi : Int → Int) (x : Int) (n : Int) : Bool := decide (Lo n ≤ x) && decide (x ≤ Hi n)
def Fits (Lo Hi : Int → Int) (c : Nat) (names : List Int) (C : Int → Bool) : Prop := ∀ x, names.countP (fun n => C n && inside Lo Hi x n) ≤ c

theorem inside_iff {Lo Hi : Int → Int} {x n : Int} : inside Lo Hi x n = true ↔ Lo n ≤ x ∧ x ≤ Hi n := by
  simp [inside]

theorem mem_pool {c : Nat} {r : Int} : r ∈ pool c ↔ 0 ≤ r ∧ r < c := by
  simp only [pool, List.mem_map, List.mem_range]
  constructor
  · rintro ⟨a, h, rfl⟩
    have : Int.ofNat a = (a : Int) := rfl
    omega
  · rintro ⟨h0, h1⟩
    exact ⟨r.toNat, by omega, by have : Int.ofNat r.toNat = (r.toNat : Int) := rfl; omega⟩
theorem pool_nodup (c : Nat) : (pool c).Nodup := by
  unfold pool List.Nodup
  rw [List.pairwise_map]
  refine List.Pairwise.imp ?_ (List.nodup_range (n := c))
  intro a b h e
  exact h (Int.ofNat.inj e)
theorem pool_length (c : Nat) : (pool c).length = c := by simp [pool]

theorem count_swap {l : List Int} (hl : l.Nodup) {p q : Int → Bool} (J : Int) (h1 : ∀ o ∈ l, o ≠ J → q o = true → p o = true) (h2 : q J = true → ∃ K ∈ l, p K = true ∧ q K = false) :
    l.countP q ≤ l.countP p := by
  by_cases hJ : J ∈ l ∧ q J = true
  · obtain ⟨hJl, hq⟩ := hJ
    obtain ⟨K, hK, hpK, hqK⟩ := h2 hq
    have hne : J ≠ K := by rintro rfl; rw [hq] at hqK; cases hqK
    have e1 := List.perm_cons_erase hK
    have hJ' : J ∈ l.erase K := (List.mem_erase_of_ne hne).mpr hJl
    have e2 := List.perm_cons_erase hJ'
    have nd : (l.erase K).Nodup := hl.erase K
    rw [e1.countP_eq q, e1.countP_eq p, List.countP_cons, List.countP_cons, e2.countP_eq q, e2.countP_eq p, List.countP_cons, List.countP_cons, hqK, hpK, hq]
    have : ((l.erase K).erase J).countP q ≤ ((l.erase K).erase J).countP p := by
      refine List.countP_mono_left fun x hx hqx => ?_
      have hx' := (nd.mem_erase_iff).mp hx
      have hx'' := (hl.mem_erase_iff).mp hx'.2
      exact h1 x hx''.2 hx'.1 hqx
    simp only [Bool.false_eq_true, if_false, if_true]
    omega
  · refine List.countP_mono_left fun x hx hqx => ?_
    by_cases hxJ : x = J
    · subst hxJ; exact absurd ⟨hx, hqx⟩ hJ
    · exact h1 x hx hxJ hqx

theorem look_of_mem {D : List (Int × Int)} (hn : (keys D).Nodup) {p : Int × Int} (hp : p ∈ D) : look D p.1 = p.2 := by
  induction D with
  | nil => cases hp
  | cons q D ih =>
    have hn' : (q.1 :: keys D).Nodup := hn
    rw [List.nodup_cons] at hn'
    unfold look
    rw [List.find?_cons]
    rcases List.mem_cons.mp hp with rfl | hp
    · simp
    · have : q.1 ≠ p.1 := fun e => hn'.1 (e ▸ List.mem_map.mpr ⟨p, hp, rfl⟩)
      simp only [decide_eq_false this]
      exact ih hn'.2 hp
theorem mem_of_key {D : List (Int × Int)} (hn : (keys D).Nodup) {k : Int} (hk : k ∈ keys D) : (k, look D k) ∈ D := by
  obtain ⟨p, hp, rfl⟩ := List.mem_map.mp hk
  rw [look_of_mem hn hp]
  exact hp
theorem putD_new {D : List (Int × Int)} {k v : Int} (hk : k ∉ keys D) : putD' D k v = D ++ [(k, v)] := by
  unfold putD'
  have : (D.any fun p => decide (p.1 = k)) = false := by
    rw [List.any_eq_false]
    intro p hp
    simp only [decide_eq_true_eq]
    rintro rfl
    exact hk (List.mem_map.mpr ⟨p, hp, rfl⟩)
  rw [this]; simp
theorem keys_append (D : List (Int × Int)) (k v : Int) : keys (D ++ [(k, v)]) = keys D ++ [k] := by simp [keys]
theorem look_append {D : List (Int × Int)} {k v x : Int} (hx : x ∈ keys D) : look (D ++ [(k, v)]) x = look D x := by
  unfold look
  rw [List.find?_append]
  obtain ⟨p, hp, rfl⟩ := List.mem_map.mp hx
  cases h : D.find? fun q => decide (q.1 = p.1) with
  | some q => simp
  | none =>
    have := List.find?_eq_none.mp h p hp
    simp at this
theorem look_new {D : List (Int × Int)} {k v : Int} (hk : k ∉ keys D) : look (D ++ [(k, v)]) k = v := by
  unfold look
  rw [List.find?_append]
  have : (D.find? fun q => decide (q.1 = k)) = none := by
    rw [List.find?_eq_none]
    intro p hp
    simp only [decide_eq_true_eq]
    rintro rfl
    exact hk (List.mem_map.mpr ⟨p, hp, rfl⟩)
  rw [this]; simp
theorem look_del {D : List (Int × Int)} {k x : Int} (hx : x ≠ k) : look (delD' D k) x = look D x := by
  unfold look delD'
  induction D with
  | nil => rfl
  | cons p D ih =>
    by_cases hp : p.1 = k
    · rw [List.filter_cons_of_neg (by simp [hp]), List.find?_cons]
      have : p.1 ≠ x := fun e => hx (e.symm.trans hp)
      simp only [decide_eq_false this]
      exact ih
    · rw [List.filter_cons_of_pos (by simp [hp]), List.find?_cons, List.find?_cons]
      by_cases hx' : p.1 = x
      · simp [hx']
      · simp only [decide_eq_false hx']
        exact ih
theorem keys_del (D : List (Int × Int)) (k : Int) : keys (delD' D k) = (keys D).filter fun x => decide (x ≠ k) := by
  unfold keys delD'
  rw [List.filter_map]
  rfl
theorem mem_keys_del {D : List (Int × Int)} {k x : Int} : x ∈ keys (delD' D k) ↔ x ∈ keys D ∧ x ≠ k := by
  rw [keys_del, List.mem_filter]; simp

theorem freed_eq (Hi : Int → Int) (f : Int) (D : List (Int × Int)) : ∀ (l act free : List Int), act.Nodup →
    l.foldl (freeTurn Hi f D) (act, free) = (act.filter (fun x => !(decide (Hi x < f) && l.contains x)), free ++ (l.filter (fun x => decide (Hi x < f))).map (look D))
  | [], act, free, _ => by
    simp only [List.foldl_nil, List.contains_nil, Bool.and_false, Bool.not_false, List.filter_nil, List.map_nil, List.append_nil]
    exact Prod.ext (List.filter_eq_self.mpr fun _ _ => rfl).symm rfl
  | o :: l, act, free, hn => by
    rw [List.foldl_cons]
    unfold freeTurn
    by_cases h : Hi o < f
    · simp only [if_pos h]
      have ih := freed_eq Hi f D l (act.erase o) (free ++ [look D o]) (hn.erase o)
      unfold freeTurn at ih
      rw [ih, List.filter_cons_of_pos (by simp [h])]
      refine Prod.ext ?_ (by simp)
      show (act.erase o).filter _ = act.filter _
      rw [hn.erase_eq_filter, List.filter_filter]
      refine List.filter_congr fun x _ => ?_
      by_cases hx : x = o
      · subst hx; simp [h]
      · simp [hx]
    · simp only [if_neg h]
      have ih := freed_eq Hi f D l act free hn
      unfold freeTurn at ih
      rw [ih, List.filter_cons_of_neg (by simp [h])]
      refine Prod.ext ?_ rfl
      show act.filter _ = act.filter _
      refine List.filter_congr fun x _ => ?_
      by_cases hx : x = o
      · subst hx; simp [h]
      · simp [hx]
theorem freed_act {Hi : Int → Int} {f : Int} {D : List (Int × Int)} {act free : List Int} (hn : act.Nodup) : (freed Hi f D act free).1 = act.filter fun x => !decide (Hi x < f) := by
  unfold freed
  rw [freed_eq Hi f D act act free hn]
  refine List.filter_congr fun x hx => ?_
  simp [hx]
theorem freed_free {Hi : Int → Int} {f : Int} {D : List (Int × Int)} {act free : List Int} (hn : act.Nodup) : (freed Hi f D act free).2 = free ++ (act.filter fun x => decide (Hi x < f)).map (look D) := by
  unfold freed
  rw [freed_eq Hi f D act act free hn]
theorem freed_perm {Hi : Int → Int} {f : Int} {D : List (Int × Int)} {act free : List Int} (hn : act.Nodup) :
    ((freed Hi f D act free).2 ++ (freed Hi f D act free).1.map (look D)).Perm (free ++ act.map (look D)) := by
  rw [freed_act hn, freed_free hn, List.append_assoc, ← List.map_append]
  exact (List.filter_append_perm _ act).map (look D) |>.append_left free

theorem longest_spec (Hi : Int → Int) : ∀ (act : List Int) (reg : Int), (longest Hi act reg = reg ∨ longest Hi act reg ∈ act) ∧ Hi reg ≤ Hi (longest Hi act reg) ∧ ∀ x ∈ act, Hi x ≤ Hi (longest Hi act reg)
  | [], reg => ⟨.inl rfl, Int.le_refl _, fun _ h => nomatch h⟩
  | o :: act, reg => by
    obtain ⟨h1, h2, h3⟩ := longest_spec Hi act (longTurn Hi reg o)
    have e : longest Hi (o :: act) reg = longest Hi act (longTurn Hi reg o) := rfl
    rw [e]
    have hlt : (longTurn Hi reg o = reg ∨ longTurn Hi reg o = o) ∧ Hi reg ≤ Hi (longTurn Hi reg o) ∧ Hi o ≤ Hi (longTurn Hi reg o) := by
      unfold longTurn
      split
      · exact ⟨.inr rfl, by omega, by omega⟩
      · exact ⟨.inl rfl, by omega, by omega⟩
    refine ⟨?_, by omega, ?_⟩
    · rcases h1 with h1 | h1
      · rcases hlt.1 with h | h
        · exact .inl (h1.trans h)
        · exact .inr (by rw [h1, h]; exact List.mem_cons_self)
      · exact .inr (List.mem_cons_of_mem _ h1)
    · intro x hx
      rcases List.mem_cons.mp hx with rfl | hx
      · omega
      · exact h3 x hx
end Mine

end
/-! Law2 -/
section
namespace Mine

structure Inv (Lo Hi : Int → Int) (c : Nat) (names seen : List Int) (s : SS) : Prop where
  perm : (keys s.D ++ s.spl).Perm seen
  val : ∀ p ∈ s.D, 0 ≤ p.2 ∧ p.2 < c
  col : ∀ p ∈ s.D, ∀ q ∈ s.D, p.1 ≠ q.1 → p.2 = q.2 → Hi p.1 < Lo q.1 ∨ Hi q.1 < Lo p.1
  actN : s.act.Nodup
  actS : ∀ a ∈ s.act, a ∈ keys s.D
  exp : ∀ k ∈ keys s.D, k ∉ s.act → ∃ x ∈ seen, Hi k < Lo x
  pool : (s.free ++ s.act.map (look s.D)).Perm (pool c)
  opt : ∀ C, Fits Lo Hi c names C → ∃ C', Fits Lo Hi c names C' ∧ names.countP C ≤ names.countP C' ∧ ∀ x ∈ seen, C' x = true → x ∈ keys s.D

theorem nodup_of_perm_append {a b c : List Int} (h : (a ++ b).Perm c) (hc : c.Nodup) : a.Nodup := by
  have := h.symm.nodup hc
  exact (List.nodup_append.mp this).1

theorem inj_of_map {f : Int → Int} : ∀ {l : List Int}, (l.map f).Nodup → ∀ {a b : Int}, a ∈ l → b ∈ l → f a = f b → a = b
  | [], _, _, _, ha, _, _ => nomatch ha
  | x :: l, h, a, b, ha, hb, e => by
    rw [List.map_cons, List.nodup_cons] at h
    rcases List.mem_cons.mp ha with h1 | h1
    · rcases List.mem_cons.mp hb with h2 | h2
      · rw [h1, h2]
      · exact absurd (List.mem_map.mpr ⟨b, h2, by rw [← e, h1]⟩) h.1
    · rcases List.mem_cons.mp hb with h2 | h2
      · exact absurd (List.mem_map.mpr ⟨a, h1, by rw [e, h2]⟩) h.1
      · exact inj_of_map h.2 h1 h2 e

theorem dealt_fits {Lo Hi : Int → Int} {c : Nat} {names : List Int} {D : List (Int × Int)} (hn : names.Nodup) (hk : (keys D).Nodup) (val : ∀ p ∈ D, 0 ≤ p.2 ∧ p.2 < c)
    (col : ∀ p ∈ D, ∀ q ∈ D, p.1 ≠ q.1 → p.2 = q.2 → Hi p.1 < Lo q.1 ∨ Hi q.1 < Lo p.1) : Fits Lo Hi c names fun n => (keys D).contains n := by
  intro x
  rw [List.countP_eq_length_filter]
  let l := names.filter fun n => (keys D).contains n && inside Lo Hi x n
  show l.length ≤ c
  have hl : l.Nodup := hn.filter _
  have hmem : ∀ n ∈ l, n ∈ keys D ∧ Lo n ≤ x ∧ x ≤ Hi n := by
    intro n h
    have := (List.mem_filter.mp h).2
    rw [Bool.and_eq_true, inside_iff] at this
    exact ⟨by simpa using this.1, this.2⟩
  have h1 : (l.map (look D)).Nodup := by
    unfold List.Nodup
    rw [List.pairwise_map]
    refine List.Pairwise.imp_of_mem ?_ hl
    intro a b ha hb hab e
    have ma := hmem a ha
    have mb := hmem b hb
    have := col _ (mem_of_key hk ma.1) _ (mem_of_key hk mb.1) hab e
    simp only at this
    omega
  have h2 : (l.map (look D)) ⊆ pool c := by
    intro r hr
    obtain ⟨n, hn', rfl⟩ := List.mem_map.mp hr
    have := val _ (mem_of_key hk (hmem n hn').1)
    exact mem_pool.mpr this
  have := List.Nodup.length_le_of_subset h1 h2
  rw [List.length_map, pool_length] at this
  exact this

theorem exchange {Lo Hi : Int → Int} {c : Nat} {names : List Int} (hn : names.Nodup) {K : List Int} (hK : K.Nodup) (hlen : c < K.length) (hKn : ∀ k ∈ K, k ∈ names) {f : Int} (hKf : ∀ k ∈ K, Lo k ≤ f ∧ f ≤ Hi k)
    {l : Int} (hl : l ∈ K) (hmax : ∀ k ∈ K, Hi k ≤ Hi l) {C : Int → Bool} (hC : Fits Lo Hi c names C) (P : Int → Prop) (hP : ∀ n ∈ names, Lo n < f → C n = true → n ≠ l → P n) (hPK : ∀ k ∈ K, k ≠ l → P k)
    {D : List (Int × Int)} (hD : Fits Lo Hi c names fun n => (keys D).contains n) (hPD : ∀ n, P n → n ∈ keys D) :
    ∃ C', Fits Lo Hi c names C' ∧ names.countP C ≤ names.countP C' ∧ ∀ n, C' n = true → n ≠ l ∧ (C n = true ∨ n ∈ K) := by
  by_cases hCl : C l = true
  · have : ∃ J ∈ K, C J = false := by
      apply Classical.byContradiction
      intro hno
      have hall : ∀ J ∈ K, C J = true := fun J hJ => by
        cases h : C J with
        | true => rfl
        | false => exact absurd ⟨J, hJ, h⟩ hno
      have hsub : K ⊆ names.filter fun n => C n && inside Lo Hi f n := fun k hk => by
        rw [List.mem_filter, Bool.and_eq_true, inside_iff]
        exact ⟨hKn k hk, hall k hk, hKf k hk⟩
      have := List.Nodup.length_le_of_subset hK hsub
      have h2 := hC f
      rw [List.countP_eq_length_filter] at h2
      omega
    obtain ⟨J, hJ, hCJ⟩ := this
    have hJl : J ≠ l := by rintro rfl; rw [hCl] at hCJ; cases hCJ
    have key : ∀ n, (if n = l then false else if n = J then true else C n) = true → n ≠ l ∧ (n = J ∨ C n = true) := by
      intro n h
      by_cases h1 : n = l
      · simp [h1] at h
      · rw [if_neg h1] at h
        refine ⟨h1, ?_⟩
        by_cases h2 : n = J
        · exact .inl h2
        · rw [if_neg h2] at h; exact .inr h
    refine ⟨fun n => if n = l then false else if n = J then true else C n, ?_, ?_, ?_⟩
    · intro x
      rcases Int.lt_or_le x f with hx | hx
      · refine Nat.le_trans (List.countP_mono_left fun n hnn h => ?_) (hD x)
        rw [Bool.and_eq_true, inside_iff] at h
        rw [Bool.and_eq_true, inside_iff]
        refine ⟨?_, h.2⟩
        obtain ⟨h1, h2⟩ := key n h.1
        have : P n := by
          rcases h2 with rfl | h2
          · exact hPK _ hJ h1
          · exact hP n hnn (by omega) h2 h1
        simpa using hPD n this
      · refine Nat.le_trans (count_swap hn J (fun o ho hoJ h => ?_) fun h => ⟨l, hKn l hl, ?_, ?_⟩) (hC x)
        · rw [Bool.and_eq_true] at h ⊢
          obtain ⟨_, h2⟩ := key o h.1
          exact ⟨h2.resolve_left hoJ, h.2⟩
        · rw [Bool.and_eq_true, inside_iff] at h ⊢
          refine ⟨hCl, ?_, ?_⟩
          · have := hKf l hl; omega
          · have := hmax J hJ; omega
        · simp
    · refine count_swap hn l (fun o _ hol h => ?_) fun _ => ⟨J, hKn J hJ, ?_, hCJ⟩
      · simp [hol, h]
      · simp [hJl]
    · intro n h
      obtain ⟨h1, h2⟩ := key n h
      refine ⟨h1, ?_⟩
      rcases h2 with rfl | h2
      · exact .inr hJ
      · exact .inl h2
  · exact ⟨C, hC, Nat.le_refl _, fun n h => ⟨fun e => hCl (e ▸ h), .inl h⟩⟩

theorem inv_start (Lo Hi : Int → Int) (c : Nat) (names : List Int) : Inv Lo Hi c names [] (start c) where
  perm := by simp [start, keys]
  val := fun p hp => by cases hp
  col := fun p hp => by cases hp
  actN := List.nodup_nil
  actS := fun p hp => by cases hp
  exp := fun p hp => by cases hp
  pool := by
    show ((pool c).reverse ++ [].map _).Perm (pool c)
    rw [List.map_nil, List.append_nil]
    exact List.reverse_perm _
  opt := fun C h => ⟨C, h, Nat.le_refl _, fun x hx => by cases hx⟩

section
variable {Lo Hi : Int → Int} {c : Nat} {names seen : List Int} {s : SS} {reg : Int}

/-- what stands after the ended ones are freed -/
structure Mid (Lo Hi : Int → Int) (c : Nat) (seen : List Int) (s : SS) (reg : Int) (act free : List Int) : Prop where
  keysN : (keys s.D).Nodup
  regN : reg ∉ keys s.D
  actN : act.Nodup
  actS : ∀ a ∈ act, a ∈ keys s.D
  actF : ∀ a ∈ act, Lo a ≤ Lo reg ∧ Lo reg ≤ Hi a
  gone : ∀ k ∈ keys s.D, k ∉ act → Hi k < Lo reg
  pool : (free ++ act.map (look s.D)).Perm (pool c)

theorem mid (I : Inv Lo Hi c names seen s) (hseen : (seen ++ [reg]).Nodup) (hlo : ∀ x ∈ seen, Lo x ≤ Lo reg) :
    Mid Lo Hi c seen s reg (freed Hi (Lo reg) s.D s.act s.free).1 (freed Hi (Lo reg) s.D s.act s.free).2 := by
  have hs : seen.Nodup := (List.nodup_append.mp hseen).1
  have hr : reg ∉ seen := fun h => (List.nodup_append.mp hseen).2.2 reg h reg (List.mem_singleton.mpr rfl) rfl
  have hks : ∀ k ∈ keys s.D, k ∈ seen := fun k hk => I.perm.subset (List.mem_append.mpr (.inl hk))
  refine ⟨nodup_of_perm_append I.perm hs, fun h => hr (hks _ h), ?_, ?_, ?_, ?_, (freed_perm I.actN).trans I.pool⟩
  · rw [freed_act I.actN]; exact I.actN.filter _
  · intro a ha
    rw [freed_act I.actN] at ha
    exact I.actS a (List.mem_filter.mp ha).1
  · intro a ha
    rw [freed_act I.actN] at ha
    obtain ⟨h1, h2⟩ := List.mem_filter.mp ha
    have h2' : ¬ Hi a < Lo reg := by simpa using h2
    exact ⟨hlo a (hks a (I.actS a h1)), by omega⟩
  · intro k hk hka
    rw [freed_act I.actN] at hka
    by_cases h : k ∈ s.act
    · have : ¬ (!decide (Hi k < Lo reg)) = true := fun e => hka (List.mem_filter.mpr ⟨h, e⟩)
      simpa using this
    · obtain ⟨x, hx, hlt⟩ := I.exp k hk h
      have := hlo x hx
      omega

theorem inv_turn (I : Inv Lo Hi c names seen s) (hn : names.Nodup) (hseen : (seen ++ [reg]).Nodup) (hsub : ∀ x ∈ seen ++ [reg], x ∈ names) (hlo : ∀ x ∈ seen, Lo x ≤ Lo reg) (hreg : Lo reg ≤ Hi reg)
    (hbefore : ∀ x ∈ names, Lo x < Lo reg → x ∈ seen) : Inv Lo Hi c names (seen ++ [reg]) (turn Lo Hi s reg) := by
  have M := mid I hseen hlo
  have hks : ∀ k ∈ keys s.D, k ∈ seen := fun k hk => I.perm.subset (List.mem_append.mpr (.inl hk))
  have hr : reg ∉ seen := fun h => (List.nodup_append.mp hseen).2.2 reg h reg (List.mem_singleton.mpr rfl) rfl
  unfold turn
  generalize hact : (freed Hi (Lo reg) s.D s.act s.free).1 = act at M ⊢
  generalize hfree : (freed Hi (Lo reg) s.D s.act s.free).2 = free at M ⊢
  have hpN : (free ++ act.map (look s.D)).Nodup := M.pool.symm.nodup (pool_nodup c)
  have hra : reg ∉ act := fun h => M.regN (M.actS _ h)
  have hcol : ∀ (r : Int), (∀ k ∈ act, look s.D k ≠ r) → ∀ p ∈ s.D, p.2 = r → Hi p.1 < Lo reg := by
    intro r hne p hp hpr
    have hk : p.1 ∈ keys s.D := List.mem_map.mpr ⟨p, hp, rfl⟩
    refine M.gone p.1 hk fun h => ?_
    exact hne p.1 h ((look_of_mem M.keysN hp).trans hpr)
  cases hg : free.getLast? with
  | some r =>
    obtain ⟨ys, hys⟩ := List.getLast?_eq_some_iff.mp hg
    have hdrop : free.dropLast = ys := by rw [hys]; simp
    simp only [hdrop, putD_new M.regN]
    have hrp : r ∈ pool c := M.pool.subset (List.mem_append.mpr (.inl (by rw [hys]; simp)))
    have hrv := mem_pool.mp hrp
    have hrn : ∀ k ∈ act, look s.D k ≠ r := by
      intro k hk e
      have h1 := (List.nodup_append.mp hpN).2.2 r (by rw [hys]; simp) (look s.D k) (List.mem_map.mpr ⟨k, hk, rfl⟩)
      exact h1 e.symm
    refine ⟨?_, ?_, ?_, ?_, ?_, ?_, ?_, ?_⟩
    · show (keys (s.D ++ [(reg, r)]) ++ s.spl).Perm (seen ++ [reg])
      rw [keys_append, List.append_assoc]
      refine (List.perm_append_comm.append_left _).trans ?_
      rw [← List.append_assoc]
      exact I.perm.append_right _
    · intro p hp
      rcases List.mem_append.mp hp with hp | hp
      · exact I.val p hp
      · rw [List.mem_singleton.mp hp]; exact hrv
    · intro p hp q hq hpq e
      rcases List.mem_append.mp hp with hp | hp
      · rcases List.mem_append.mp hq with hq | hq
        · exact I.col p hp q hq hpq e
        · rw [List.mem_singleton.mp hq] at e ⊢
          exact .inl (hcol r hrn p hp e)
      · rw [List.mem_singleton.mp hp] at e hpq ⊢
        rcases List.mem_append.mp hq with hq | hq
        · exact .inr (hcol r hrn q hq e.symm)
        · rw [List.mem_singleton.mp hq] at hpq; exact absurd rfl hpq
    · show (act ++ [reg]).Nodup
      rw [List.nodup_append]
      refine ⟨M.actN, by simp, fun a ha b hb => ?_⟩
      rw [List.mem_singleton.mp hb]
      exact fun e => hra (e ▸ ha)
    · intro a ha
      show a ∈ keys (s.D ++ [(reg, r)])
      rw [keys_append]
      rcases List.mem_append.mp ha with ha | ha
      · exact List.mem_append.mpr (.inl (M.actS a ha))
      · exact List.mem_append.mpr (.inr ha)
    · intro k hk hka
      have hk' : k ∈ keys s.D ++ [reg] := by rw [← keys_append s.D reg r]; exact hk
      have hka' : k ∉ act ∧ k ≠ reg := ⟨fun h => hka (List.mem_append.mpr (.inl h)), fun h => hka (List.mem_append.mpr (.inr (List.mem_singleton.mpr h)))⟩
      rcases List.mem_append.mp hk' with h | h
      · exact ⟨reg, by simp, M.gone k h hka'.1⟩
      · exact absurd (List.mem_singleton.mp h) hka'.2
    · show (ys ++ (act ++ [reg]).map (look (s.D ++ [(reg, r)]))).Perm (pool c)
      refine List.Perm.trans ?_ M.pool
      rw [hys, List.map_append, List.map_singleton, look_new M.regN, List.append_assoc]
      have : act.map (look (s.D ++ [(reg, r)])) = act.map (look s.D) := List.map_congr_left fun k hk => look_append (M.actS k hk)
      rw [this]
      exact (List.perm_append_comm).append_left ys
    · intro C hC
      obtain ⟨C', h1, h2, h3⟩ := I.opt C hC
      refine ⟨C', h1, h2, fun x hx hCx => ?_⟩
      show x ∈ keys (s.D ++ [(reg, r)])
      rw [keys_append]
      rcases List.mem_append.mp hx with hx | hx
      · exact List.mem_append.mpr (.inl (h3 x hx hCx))
      · exact List.mem_append.mpr (.inr hx)
  | none =>
    have hf0 : free = [] := List.getLast?_eq_none_iff.mp hg
    rw [hf0, List.nil_append] at hpN
    have hplen : act.length = c := by
      have := M.pool.length_eq
      rw [hf0, List.nil_append, List.length_map, pool_length] at this
      exact this
    obtain ⟨hl1, hl2, hl3⟩ := longest_spec Hi act reg
    generalize hlg : longest Hi act reg = l at hl1 hl2 hl3 ⊢
    have hK : (act ++ [reg]).Nodup := by
      rw [List.nodup_append]
      refine ⟨M.actN, by simp, fun a ha b hb => ?_⟩
      rw [List.mem_singleton.mp hb]
      exact fun e => hra (e ▸ ha)
    have hlK : l ∈ act ++ [reg] := by
      rcases hl1 with h | h
      · exact List.mem_append.mpr (.inr (List.mem_singleton.mpr h))
      · exact List.mem_append.mpr (.inl h)
    have hmax : ∀ k ∈ act ++ [reg], Hi k ≤ Hi l := by
      intro k hk
      rcases List.mem_append.mp hk with h | h
      · exact hl3 k h
      · rw [List.mem_singleton.mp h]; exact hl2
    have hKn : ∀ k ∈ act ++ [reg], k ∈ names := by
      intro k hk
      refine hsub k ?_
      rcases List.mem_append.mp hk with h | h
      · exact List.mem_append.mpr (.inl (hks k (M.actS k h)))
      · exact List.mem_append.mpr (.inr h)
    have hKf : ∀ k ∈ act ++ [reg], Lo k ≤ Lo reg ∧ Lo reg ≤ Hi k := by
      intro k hk
      rcases List.mem_append.mp hk with h | h
      · exact M.actF k h
      · rw [List.mem_singleton.mp h]; exact ⟨Int.le_refl _, hreg⟩
    have hmapN : ∀ k ∈ act, ∀ j ∈ act, k ≠ j → look s.D k ≠ look s.D j := by
      intro k hk j hj hkj e
      exact hkj (inj_of_map hpN hk hj e)
    by_cases hlr : l ≠ reg
    · have hla : l ∈ act := hl1.resolve_left hlr
      have hlD : l ∈ keys s.D := M.actS l hla
      have hregd : reg ∉ keys (delD' s.D l) := fun h => M.regN (mem_keys_del.mp h).1
      simp only [hlr, ne_eq, not_false_eq_true, if_true, putD_new hregd]
      have hkd : keys (delD' s.D l ++ [(reg, look s.D l)]) = (keys s.D).filter (fun x => decide (x ≠ l)) ++ [reg] := by rw [keys_append, keys_del]
      have hmemd : ∀ p, p ∈ delD' s.D l ↔ p ∈ s.D ∧ p.1 ≠ l := fun p => by unfold delD'; rw [List.mem_filter]; simp
      have hvl := I.val _ (mem_of_key M.keysN hlD)
      have hother : ∀ p ∈ delD' s.D l, p.2 = look s.D l → Hi p.1 < Lo reg := by
        intro p hp e
        obtain ⟨hp1, hp2⟩ := (hmemd p).mp hp
        have hk : p.1 ∈ keys s.D := List.mem_map.mpr ⟨p, hp1, rfl⟩
        refine M.gone p.1 hk fun h => ?_
        exact hmapN p.1 h l hla hp2 ((look_of_mem M.keysN hp1).trans e)
      have val' : ∀ p ∈ delD' s.D l ++ [(reg, look s.D l)], 0 ≤ p.2 ∧ p.2 < c := by
        intro p hp
        rcases List.mem_append.mp hp with hp | hp
        · exact I.val p ((hmemd p).mp hp).1
        · rw [List.mem_singleton.mp hp]; exact hvl
      have col' : ∀ p ∈ delD' s.D l ++ [(reg, look s.D l)], ∀ q ∈ delD' s.D l ++ [(reg, look s.D l)], p.1 ≠ q.1 → p.2 = q.2 → Hi p.1 < Lo q.1 ∨ Hi q.1 < Lo p.1 := by
        intro p hp q hq hpq e
        rcases List.mem_append.mp hp with hp | hp
        · rcases List.mem_append.mp hq with hq | hq
          · exact I.col p ((hmemd p).mp hp).1 q ((hmemd q).mp hq).1 hpq e
          · rw [List.mem_singleton.mp hq] at e ⊢
            exact .inl (hother p hp e)
        · rw [List.mem_singleton.mp hp] at e hpq ⊢
          rcases List.mem_append.mp hq with hq | hq
          · exact .inr (hother q hq e.symm)
          · rw [List.mem_singleton.mp hq] at hpq; exact absurd rfl hpq
      have hkN' : (keys (delD' s.D l ++ [(reg, look s.D l)])).Nodup := by
        rw [hkd, List.nodup_append]
        refine ⟨M.keysN.filter _, by simp, fun a ha b hb => ?_⟩
        rw [List.mem_singleton.mp hb]
        exact fun e => M.regN (e ▸ (List.mem_filter.mp ha).1)
      refine ⟨?_, val', col', ?_, ?_, ?_, ?_, ?_⟩
      · show (keys (delD' s.D l ++ [(reg, look s.D l)]) ++ (s.spl ++ [l])).Perm (seen ++ [reg])
        rw [hkd]
        have e1 : (keys s.D).Perm (l :: (keys s.D).filter fun x => decide (x ≠ l)) := by
          refine (List.perm_cons_erase hlD).trans ?_
          rw [M.keysN.erase_eq_filter]
          refine List.Perm.of_eq ?_
          congr 1
          refine List.filter_congr fun x _ => ?_
          by_cases h : x = l <;> simp [h]
        refine List.Perm.trans ?_ ((e1.symm.append_right s.spl).trans I.perm |>.append_right [reg])
        generalize (keys s.D).filter (fun x => decide (x ≠ l)) = A
        have h1 : (A ++ [reg] ++ (s.spl ++ [l])).Perm (A ++ ([reg] ++ (s.spl ++ [l]))) := by rw [List.append_assoc]
        refine h1.trans ?_
        have h2 : ([reg] ++ (s.spl ++ [l])).Perm ((l :: s.spl) ++ [reg]) := by
          refine List.perm_append_comm.trans ?_
          exact List.Perm.append_right _ (List.perm_append_comm)
        refine (h2.append_left A).trans ?_
        show (A ++ (l :: (s.spl ++ [reg]))).Perm (l :: (A ++ s.spl) ++ [reg])
        rw [List.cons_append, List.append_assoc]
        exact List.perm_middle
      · show (act.erase l ++ [reg]).Nodup
        rw [List.nodup_append]
        refine ⟨M.actN.erase l, by simp, fun a ha b hb => ?_⟩
        rw [List.mem_singleton.mp hb]
        exact fun e => hra (e ▸ List.mem_of_mem_erase ha)
      · intro a ha
        show a ∈ keys (delD' s.D l ++ [(reg, look s.D l)])
        rw [hkd]
        rcases List.mem_append.mp ha with ha | ha
        · have := (M.actN.mem_erase_iff).mp ha
          exact List.mem_append.mpr (.inl (List.mem_filter.mpr ⟨M.actS a this.2, by simpa using this.1⟩))
        · exact List.mem_append.mpr (.inr ha)
      · intro k hk hka
        have hk' : k ∈ (keys s.D).filter (fun x => decide (x ≠ l)) ++ [reg] := by rw [← hkd]; exact hk
        have hkr : k ≠ reg := fun h => hka (List.mem_append.mpr (.inr (List.mem_singleton.mpr h)))
        have h1 := (List.mem_append.mp hk').resolve_right fun h => hkr (List.mem_singleton.mp h)
        obtain ⟨h2, h3⟩ := List.mem_filter.mp h1
        have h3' : k ≠ l := by simpa using h3
        refine ⟨reg, by simp, M.gone k h2 fun h => hka (List.mem_append.mpr (.inl ?_))⟩
        exact (M.actN.mem_erase_iff).mpr ⟨h3', h⟩
      · show ([] ++ (act.erase l ++ [reg]).map (look (delD' s.D l ++ [(reg, look s.D l)]))).Perm (pool c)
        refine List.Perm.trans ?_ M.pool
        rw [hf0, List.nil_append, List.nil_append, List.map_append, List.map_singleton, look_new hregd]
        have e1 : (act.erase l).map (look (delD' s.D l ++ [(reg, look s.D l)])) = (act.erase l).map (look s.D) := by
          refine List.map_congr_left fun k hk => ?_
          have := (M.actN.mem_erase_iff).mp hk
          rw [look_append (mem_keys_del.mpr ⟨M.actS k this.2, this.1⟩), look_del this.1]
        rw [e1]
        refine List.Perm.trans List.perm_append_comm ?_
        exact ((List.perm_cons_erase hla).map (look s.D)).symm
      · intro C hC
        obtain ⟨C', h1, h2, h3⟩ := I.opt C hC
        have hDf := dealt_fits hn hkN' val' col'
        obtain ⟨C'', g1, g2, g3⟩ := exchange hn hK (by rw [List.length_append, hplen]; simp) hKn hKf hlK hmax h1 (fun n => n ∈ keys (delD' s.D l ++ [(reg, look s.D l)]))
          (fun n hnn hlt hCn hnl => by
            have hsn := hbefore n hnn hlt
            show n ∈ keys (delD' s.D l ++ [(reg, look s.D l)])
            rw [hkd]
            exact List.mem_append.mpr (.inl (List.mem_filter.mpr ⟨h3 n hsn hCn, by simpa using hnl⟩)))
          (fun k hk hkl => by
            show k ∈ keys (delD' s.D l ++ [(reg, look s.D l)])
            rw [hkd]
            rcases List.mem_append.mp hk with h | h
            · exact List.mem_append.mpr (.inl (List.mem_filter.mpr ⟨M.actS k h, by simpa using hkl⟩))
            · exact List.mem_append.mpr (.inr h)) hDf (fun n h => h)
        refine ⟨C'', g1, Nat.le_trans h2 g2, fun x hx hCx => ?_⟩
        show x ∈ keys (delD' s.D l ++ [(reg, look s.D l)])
        rw [hkd]
        obtain ⟨hxl, hx2⟩ := g3 x hCx
        rcases List.mem_append.mp hx with hx | hx
        · refine List.mem_append.mpr (.inl (List.mem_filter.mpr ⟨?_, by simpa using hxl⟩))
          rcases hx2 with hx2 | hx2
          · exact h3 x hx hx2
          · rcases List.mem_append.mp hx2 with h | h
            · exact M.actS x h
            · rw [List.mem_singleton.mp h] at hx; exact absurd hx hr
        · exact List.mem_append.mpr (.inr hx)
    · have hlr' : l = reg := Classical.not_not.mp hlr
      simp only [hlr', ne_eq, not_true_eq_false, if_false]
      refine ⟨?_, I.val, I.col, M.actN, M.actS, ?_, ?_, ?_⟩
      · show (keys s.D ++ (s.spl ++ [reg])).Perm (seen ++ [reg])
        rw [← List.append_assoc]
        exact I.perm.append_right _
      · intro k hk hka
        exact ⟨reg, by simp, M.gone k hk hka⟩
      · show ([] ++ act.map (look s.D)).Perm (pool c)
        refine List.Perm.trans ?_ M.pool
        rw [hf0]
      · intro C hC
        obtain ⟨C', h1, h2, h3⟩ := I.opt C hC
        have hDf := dealt_fits hn M.keysN I.val I.col
        obtain ⟨C'', g1, g2, g3⟩ := exchange hn hK (by rw [List.length_append, hplen]; simp) hKn hKf hlK hmax h1 (fun n => n ∈ keys s.D)
          (fun n hnn hlt hCn hnl => h3 n (hbefore n hnn hlt) hCn)
          (fun k hk hkl => by
            rcases List.mem_append.mp hk with h | h
            · exact M.actS k h
            · exact absurd ((List.mem_singleton.mp h).trans hlr'.symm) hkl) hDf (fun n h => h)
        refine ⟨C'', g1, Nat.le_trans h2 g2, fun x hx hCx => ?_⟩
        obtain ⟨hxl, hx2⟩ := g3 x hCx
        rcases List.mem_append.mp hx with hx | hx
        · rcases hx2 with hx2 | hx2
          · exact h3 x hx hx2
          · rcases List.mem_append.mp hx2 with h | h
            · exact M.actS x h
            · rw [List.mem_singleton.mp h] at hx; exact absurd hx hr
        · exact absurd ((List.mem_singleton.mp hx).trans hlr'.symm) hxl
end

theorem inv_scan {Lo Hi : Int → Int} {c : Nat} {names : List Int} (hn : names.Nodup) (hle : ∀ x ∈ names, Lo x ≤ Hi x) :
    ∀ (rest seen : List Int) (s : SS), (seen ++ rest).Perm names → (seen ++ rest).Pairwise (fun a b => Lo a ≤ Lo b) → Inv Lo Hi c names seen s → Inv Lo Hi c names (seen ++ rest) (rest.foldl (turn Lo Hi) s)
  | [], seen, s, _, _, I => by rw [List.append_nil]; exact I
  | reg :: rest, seen, s, hp, ho, I => by
    have e : seen ++ reg :: rest = (seen ++ [reg]) ++ rest := by simp
    rw [e] at hp ho ⊢
    rw [List.foldl_cons]
    have hnd : ((seen ++ [reg]) ++ rest).Nodup := hp.symm.nodup hn
    have ho1 := List.pairwise_append.mp ho
    have ho2 := List.pairwise_append.mp ho1.1
    refine inv_scan hn hle rest (seen ++ [reg]) _ hp ho (inv_turn I hn (List.nodup_append.mp hnd).1 (fun x hx => hp.subset (List.mem_append.mpr (.inl hx))) (fun x hx => ho2.2.2 x hx reg (List.mem_singleton.mpr rfl))
      (hle reg (hp.subset (List.mem_append.mpr (.inl (List.mem_append.mpr (.inr (List.mem_singleton.mpr rfl))))))) fun x hx hlt => ?_)
    have hx' := hp.symm.subset hx
    rcases List.mem_append.mp hx' with h | h
    · rcases List.mem_append.mp h with h | h
      · exact h
      · rw [List.mem_singleton.mp h] at hlt; omega
    · have := ho1.2.2 reg (List.mem_append.mpr (.inr (List.mem_singleton.mpr rfl))) x h
      omega

theorem scan_inv {Lo Hi : Int → Int} {c : Nat} {names order : List Int} (hn : names.Nodup) (hle : ∀ x ∈ names, Lo x ≤ Hi x) (hp : order.Perm names) (ho : order.Pairwise fun a b => Lo a ≤ Lo b) :
    Inv Lo Hi c names order (scanF Lo Hi c order) := by
  have := inv_scan (c := c) hn hle order [] (start c) (by simpa using hp) (by simpa using ho) (inv_start Lo Hi c names)
  rw [List.nil_append] at this
  exact this
end Mine

end
/-! Law3 -/
section
namespace Mine

def chosenF (names : List Int) (choice : Nat) : List Int := ((List.range names.length).filter fun i => choice.testBit i).map fun i => names.getD i 0
def fitsF (Lo Hi : Int → Int) (count : Int) (ch : List Int) : Bool := ch.all fun one => decide (((ch.filter fun o => decide (Lo o ≤ Lo one) && decide (Lo one ≤ Hi o)).length : Int) ≤ count)
def fewTurn (Lo Hi : Int → Int) (names : List Int) (count : Int) (best : Int) (choice : Nat) : Int :=
  if (names.length : Int) - (chosenF names choice).length < best ∧ fitsF Lo Hi count (chosenF names choice) = true then (names.length : Int) - (chosenF names choice).length else best
def fewestF (Lo Hi : Int → Int) (names : List Int) (count : Int) (m : Nat) : Int := (List.range m).foldl (fewTurn Lo Hi names count) names.length

theorem bits_of (f : Nat → Bool) : ∀ n, ∃ k, k < 2 ^ n ∧ ∀ i, i < n → k.testBit i = f i := by
  intro n
  induction n generalizing f with
  | zero => exact ⟨0, by simp, fun i h => absurd h (Nat.not_lt_zero _)⟩
  | succ n ih =>
    obtain ⟨k, hk, hb⟩ := ih fun i => f (i + 1)
    refine ⟨2 * k + (f 0).toNat, ?_, ?_⟩
    · have : (f 0).toNat ≤ 1 := by cases f 0 <;> simp
      rw [Nat.pow_succ]; omega
    · intro i hi
      cases i with
      | zero =>
        rw [Nat.testBit_zero]
        cases f 0 <;> simp
      | succ i =>
        rw [Nat.testBit_succ, show (2 * k + (f 0).toNat) / 2 = k by have : (f 0).toNat ≤ 1 := by { cases f 0 <;> simp }; omega]
        exact hb i (by omega)

theorem range_map_get (names : List Int) : (List.range names.length).map (fun i => names.getD i 0) = names := by
  apply List.ext_getElem
  · simp
  · intro i h1 h2
    simp only [List.length_map, List.length_range] at h1
    simp [h1]

theorem filter_map' {α β : Type} (f : α → β) (p : α → Bool) (q : β → Bool) : ∀ (l : List α), (∀ x ∈ l, q (f x) = p x) → (l.filter p).map f = (l.map f).filter q
  | [], _ => rfl
  | x :: l, h => by
    have ih := filter_map' f p q l fun y hy => h y (List.mem_cons_of_mem _ hy)
    have hx := h x List.mem_cons_self
    rw [List.map_cons]
    cases hp : p x with
    | true => rw [List.filter_cons_of_pos hp, List.filter_cons_of_pos (hx.trans hp), List.map_cons, ih]
    | false => rw [List.filter_cons_of_neg (by simp [hp]), List.filter_cons_of_neg (by simp [hx, hp]), ih]

theorem chosen_sub (names : List Int) (k : Nat) : (chosenF names k).Sublist names := by
  have h := (List.filter_sublist (p := fun i => k.testBit i) (l := List.range names.length)).map fun i => names.getD i 0
  rw [range_map_get] at h
  exact h
theorem chosen_of (names : List Int) (C : Int → Bool) : ∃ k, k < 2 ^ names.length ∧ chosenF names k = names.filter C := by
  obtain ⟨k, hk, hb⟩ := bits_of (fun i => C (names.getD i 0)) names.length
  refine ⟨k, hk, ?_⟩
  unfold chosenF
  rw [filter_map' (fun i => names.getD i 0) (fun i => k.testBit i) C _ (fun i hi => (hb i (List.mem_range.mp hi)).symm), range_map_get]

theorem fold_few (Lo Hi : Int → Int) (names : List Int) (count : Int) : ∀ (l : List Nat) (b : Int),
    let r := l.foldl (fewTurn Lo Hi names count) b
    r ≤ b ∧ (∀ k ∈ l, fitsF Lo Hi count (chosenF names k) = true → r ≤ (names.length : Int) - (chosenF names k).length) ∧
      (r = b ∨ ∃ k ∈ l, fitsF Lo Hi count (chosenF names k) = true ∧ r = (names.length : Int) - (chosenF names k).length)
  | [], b => ⟨Int.le_refl _, fun _ h => (nomatch h), .inl rfl⟩
  | k :: l, b => by
    obtain ⟨h1, h2, h3⟩ := fold_few Lo Hi names count l (fewTurn Lo Hi names count b k)
    rw [List.foldl_cons]
    have ht : fewTurn Lo Hi names count b k ≤ b ∧ (fitsF Lo Hi count (chosenF names k) = true → fewTurn Lo Hi names count b k ≤ (names.length : Int) - (chosenF names k).length) ∧
        (fewTurn Lo Hi names count b k = b ∨ (fitsF Lo Hi count (chosenF names k) = true ∧ fewTurn Lo Hi names count b k = (names.length : Int) - (chosenF names k).length)) := by
      unfold fewTurn
      split
      · rename_i h; exact ⟨by omega, fun _ => by omega, .inr ⟨h.2, rfl⟩⟩
      · rename_i h
        refine ⟨Int.le_refl _, fun hf => ?_, .inl rfl⟩
        have : ¬ ((names.length : Int) - (chosenF names k).length < b) := fun hlt => h ⟨hlt, hf⟩
        omega
    refine ⟨by omega, fun j hj hf => ?_, ?_⟩
    · rcases List.mem_cons.mp hj with rfl | hj
      · have := ht.2.1 hf; omega
      · exact h2 j hj hf
    · rcases h3 with h3 | ⟨j, hj, hf, e⟩
      · rcases ht.2.2 with h | ⟨hf, e⟩
        · exact .inl (h3.trans h)
        · exact .inr ⟨k, List.mem_cons_self, hf, h3.trans e⟩
      · exact .inr ⟨j, List.mem_cons_of_mem _ hj, hf, e⟩

theorem exists_max (Lo : Int → Int) : ∀ l : List Int, l ≠ [] → ∃ m ∈ l, ∀ x ∈ l, Lo x ≤ Lo m
  | [], h => absurd rfl h
  | [a], _ => ⟨a, by simp, fun x hx => by rw [List.mem_singleton.mp hx]; exact Int.le_refl _⟩
  | a :: b :: l, _ => by
    obtain ⟨m, hm, h⟩ := exists_max Lo (b :: l) (by simp)
    by_cases hab : Lo a ≤ Lo m
    · exact ⟨m, List.mem_cons_of_mem _ hm, fun x hx => by rcases List.mem_cons.mp hx with rfl | hx; exact hab; exact h x hx⟩
    · exact ⟨a, List.mem_cons_self, fun x hx => by
        rcases List.mem_cons.mp hx with rfl | hx
        · exact Int.le_refl _
        · have := h x hx; omega⟩

theorem fits_points {Lo Hi : Int → Int} {c : Nat} {names : List Int} (C : Int → Bool)
    (h : fitsF Lo Hi c (names.filter C) = true) : Fits Lo Hi c names C := by
  intro x
  rw [List.countP_eq_length_filter]
  have e0 : (names.filter fun n => C n && inside Lo Hi x n) = (names.filter C).filter (inside Lo Hi x) := by rw [List.filter_filter]; exact List.filter_congr fun n _ => Bool.and_comm _ _
  by_cases hne : (names.filter C).filter (inside Lo Hi x) = []
  · rw [e0, hne]; simp
  · obtain ⟨m, hm, hmax⟩ := exists_max Lo _ hne
    obtain ⟨hm1, hm2⟩ := List.mem_filter.mp hm
    rw [inside_iff] at hm2
    unfold fitsF at h
    have := List.all_eq_true.mp h m hm1
    have h3 : ((names.filter C).filter fun o => decide (Lo o ≤ Lo m) && decide (Lo m ≤ Hi o)).length ≤ c := by
      have := of_decide_eq_true this; omega
    refine Nat.le_trans ?_ h3
    rw [e0]
    rw [← List.countP_eq_length_filter, ← List.countP_eq_length_filter]
    refine List.countP_mono_left fun o ho hin => ?_
    have hmo := hmax o (List.mem_filter.mpr ⟨ho, hin⟩)
    rw [inside_iff] at hin
    rw [Bool.and_eq_true]
    exact ⟨decide_eq_true hmo, decide_eq_true (by omega)⟩

theorem fits_of_points {Lo Hi : Int → Int} {c : Nat} {names : List Int} (C : Int → Bool) (h : Fits Lo Hi c names C) : fitsF Lo Hi c (names.filter C) = true := by
  unfold fitsF
  rw [List.all_eq_true]
  intro one _
  apply decide_eq_true
  have := h (Lo one)
  rw [List.countP_eq_length_filter] at this
  have e0 : (names.filter fun n => C n && inside Lo Hi (Lo one) n) = (names.filter C).filter fun o => decide (Lo o ≤ Lo one) && decide (Lo one ≤ Hi o) := by rw [List.filter_filter]; exact List.filter_congr fun n _ => Bool.and_comm _ _
  rw [e0] at this
  omega

theorem fewest_eq {Lo Hi : Int → Int} {c : Nat} {names order : List Int} (hn : names.Nodup) (hle : ∀ x ∈ names, Lo x ≤ Hi x) (hp : order.Perm names) (ho : order.Pairwise fun a b => Lo a ≤ Lo b) :
    fewestF Lo Hi names c (2 ^ names.length) = (scanF Lo Hi c order).spl.length := by
  have I := scan_inv (c := c) hn hle hp ho
  generalize scanF Lo Hi c order = S at I ⊢
  have hkn : (keys S.D).Nodup := nodup_of_perm_append I.perm (hp.symm.nodup hn)
  have hlen : (keys S.D).length + S.spl.length = names.length := by
    rw [← List.length_append, I.perm.length_eq, hp.length_eq]
  obtain ⟨h1, h2, h3⟩ := fold_few Lo Hi names c (List.range (2 ^ names.length)) names.length
  show (List.range (2 ^ names.length)).foldl (fewTurn Lo Hi names c) names.length = _
  generalize (List.range (2 ^ names.length)).foldl (fewTurn Lo Hi names c) names.length = r at h1 h2 h3 ⊢
  -- never fewer
  have lower : ∀ k, fitsF Lo Hi c (chosenF names k) = true → (S.spl.length : Int) ≤ (names.length : Int) - (chosenF names k).length := by
    intro k hf
    have hsub := chosen_sub names k
    have hcn : (chosenF names k).Nodup := hn.sublist hsub
    have ec : chosenF names k = names.filter fun n => (chosenF names k).contains n := by
      have : ∀ (l l' : List Int), l.Sublist l' → l'.Nodup → l = l'.filter fun n => l.contains n := by
        intro l l' hs
        induction hs with
        | slnil => intro _; rfl
        | @cons l₁ l₂ a hs ih =>
          intro hnd
          rw [List.nodup_cons] at hnd
          have : l₁.contains a = false := by
            cases h : l₁.contains a with
            | false => rfl
            | true => exact absurd (hs.subset (by simpa using h)) hnd.1
          rw [List.filter_cons_of_neg (by simp only [this]; simp)]
          exact ih hnd.2
        | @cons_cons l₁ l₂ a hs ih =>
          intro hnd
          rw [List.nodup_cons] at hnd
          rw [List.filter_cons_of_pos (by simp)]
          congr 1
          refine (ih hnd.2).trans (List.filter_congr fun x hx => ?_)
          have : x ≠ a := fun e => hnd.1 (e ▸ hx)
          simp [this]
      exact this _ _ hsub hn
    have hF : Fits Lo Hi c names fun n => (chosenF names k).contains n := fits_points _ (by rw [← ec]; exact hf)
    obtain ⟨C', hC', hle', hin⟩ := I.opt _ hF
    have e1 : names.countP (fun n => (chosenF names k).contains n) = (chosenF names k).length := by
      rw [List.countP_eq_length_filter, ← ec]
    have e2 : names.countP C' ≤ (keys S.D).length := by
      rw [List.countP_eq_length_filter]
      refine List.Nodup.length_le_of_subset (hn.filter _) fun x hx => ?_
      obtain ⟨hx1, hx2⟩ := List.mem_filter.mp hx
      exact hin x (hp.symm.subset hx1) hx2
    omega
  -- and so few are enough
  obtain ⟨k, hk, ek⟩ := chosen_of names fun n => (keys S.D).contains n
  have hfit : fitsF Lo Hi c (chosenF names k) = true := by
    rw [ek]; exact fits_of_points _ (dealt_fits hn hkn I.val I.col)
  have hlk : (chosenF names k).length = (keys S.D).length := by
    rw [ek]
    apply Nat.le_antisymm
    · refine List.Nodup.length_le_of_subset (hn.filter _) fun x hx => ?_
      have := (List.mem_filter.mp hx).2
      simpa using this
    · refine List.Nodup.length_le_of_subset hkn fun x hx => ?_
      refine List.mem_filter.mpr ⟨?_, by simpa using hx⟩
      exact hp.subset (I.perm.subset (List.mem_append.mpr (.inl hx)))
  have up := h2 k (List.mem_range.mpr hk) hfit
  rcases h3 with h3 | ⟨j, _, hj, e⟩
  · omega
  · have := lower j hj
    omega
end Mine

end
/-! Sort1 -/
section
open PySem PySem.W PyProof.Rows
namespace Mine

section
variable {cmp : Nat → Nat → (Bool → Shared → Prop) → Shared → Prop} {n : Nat} {r : Nat → Int} {s : Shared}

def Asks (cmp : Nat → Nat → (Bool → Shared → Prop) → Shared → Prop) (n : Nat) (r : Nat → Int) (s : Shared) : Prop :=
  ∀ i j C, i < n → j < n → C (decide (r i < r j)) s → cmp i j C s

def Pm (n : Nat) (p : Array Nat) : Prop := p.toList.Perm (List.range n)
theorem Pm.size {p : Array Nat} (h : Pm n p) : p.size = n := by
  have := h.length_eq
  simpa using this
theorem Pm.lt {p : Array Nat} (h : Pm n p) {i : Nat} (hi : i < n) : p.getD i 0 < n := by
  have hs := h.size
  have hi' : i < p.size := by omega
  have e : p.getD i 0 = p[i] := by simp [Array.getD, hi']
  rw [e]
  have : p[i] ∈ p.toList := by simp
  exact List.mem_range.mp (h.subset this)
theorem Pm.inj {p : Array Nat} (h : Pm n p) {i j : Nat} (hi : i < n) (hj : j < n) (e : p.getD i 0 = p.getD j 0) : i = j := by
  have hs := h.size
  have hnd : p.toList.Nodup := h.symm.nodup List.nodup_range
  have hi' : i < p.size := by omega
  have hj' : j < p.size := by omega
  have e1 : p.getD i 0 = p.toList[i]'(by simpa using hi') := by simp [Array.getD, hi']
  have e2 : p.getD j 0 = p.toList[j]'(by simpa using hj') := by simp [Array.getD, hj']
  rw [e1, e2] at e
  have pw := List.pairwise_iff_getElem.mp hnd
  rcases Nat.lt_trichotomy i j with h1 | h1 | h1
  · exact absurd e (pw i j (by simpa using hi') (by simpa using hj') h1)
  · exact h1
  · exact absurd e.symm (pw j i (by simpa using hj') (by simpa using hi') h1)

def Srt (r : Nat → Int) (p : Array Nat) (m : Nat) : Prop := ∀ i j, i ≤ j → j < m → r (p.getD i 0) ≤ r (p.getD j 0)
theorem srt_of_adj {p : Array Nat} {m : Nat} (h : ∀ i, 0 < i → i < m → r (p.getD (i - 1) 0) ≤ r (p.getD i 0)) : Srt r p m := by
  intro i j hij hj
  obtain ⟨d, rfl⟩ : ∃ d, j = i + d := ⟨j - i, by omega⟩
  induction d with
  | zero => exact Int.le_refl _
  | succ d ih =>
    have h1 := ih (by omega) (by omega)
    have h2 := h (i + (d + 1)) (by omega) hj
    have e : i + (d + 1) - 1 = i + d := by omega
    rw [e] at h2
    omega

theorem asc_run {p : Array Nat} (A : Asks cmp n r s) (hp : Pm n p) {Q : Nat → Shared → Prop} : ∀ (f a : Nat), 1 ≤ a → a + f ≤ n → (∀ i, 0 < i → i < a → r (p.getD (i - 1) 0) ≤ r (p.getD i 0)) →
    (∀ m, a ≤ m → m ≤ a + f → (∀ i, 0 < i → i < m → r (p.getD (i - 1) 0) ≤ r (p.getD i 0)) → (m < a + f → r (p.getD m 0) < r (p.getD (m - 1) 0)) → Q m s) → (kas_asc p f a).kasWp cmp Q s
  | 0, a, _, _, h, hQ => hQ a (Nat.le_refl _) (Nat.le_refl _) h fun hlt => absurd hlt (by omega)
  | f + 1, a, h1, hn, h, hQ => by
    show cmp _ _ _ s
    refine A _ _ _ (hp.lt (by omega)) (hp.lt (by omega)) ?_
    by_cases hc : r (p.getD a 0) < r (p.getD (a - 1) 0)
    · rw [decide_eq_true hc]
      show (if true = true then _ else _ : KasT Nat).kasWp cmp Q s
      rw [if_pos rfl]
      exact hQ a (Nat.le_refl _) (by omega) h fun _ => hc
    · rw [decide_eq_false hc]
      show (if false = true then _ else _ : KasT Nat).kasWp cmp Q s
      rw [if_neg (by simp)]
      refine asc_run A hp f (a + 1) (by omega) (by omega) (fun i hi hlt => ?_) fun m hm1 hm2 hm3 hm4 => hQ m (by omega) (by omega) hm3 fun hlt => hm4 (by omega)
      by_cases hia : i = a
      · subst hia; omega
      · exact h i hi (by omega)

theorem desc_run {p : Array Nat} (A : Asks cmp n r s) (hp : Pm n p) (hr : ∀ i j, i < n → j < n → i ≠ j → r i ≠ r j) {Q : Array Nat × Nat × Nat → Shared → Prop} : ∀ (f a : Nat), 1 ≤ a → a + f ≤ n →
    (∀ i, 0 < i → i < a → r (p.getD i 0) < r (p.getD (i - 1) 0)) →
    (∀ m, a ≤ m → m ≤ a + f → (∀ i, 0 < i → i < m → r (p.getD i 0) < r (p.getD (i - 1) 0)) → Q (p, m, 0) s) → (kas_desc f p a 0).kasWp cmp Q s
  | 0, a, _, _, h, hQ => hQ a (Nat.le_refl _) (Nat.le_refl _) h
  | f + 1, a, h1, hn, h, hQ => by
    show cmp _ _ _ s
    refine A _ _ _ (hp.lt (by omega)) (hp.lt (by omega)) ?_
    by_cases hc : r (p.getD a 0) < r (p.getD (a - 1) 0)
    · rw [decide_eq_true hc]
      show (if true = true then (if 0 > 0 then _ else _) else _ : KasT _).kasWp cmp Q s
      rw [if_pos rfl, if_neg (by omega)]
      refine desc_run A hp hr f (a + 1) (by omega) (by omega) (fun i hi hlt => ?_) fun m hm1 hm2 hm3 => hQ m (by omega) (by omega) hm3
      by_cases hia : i = a
      · subst hia; exact hc
      · exact h i hi (by omega)
    · rw [decide_eq_false hc]
      show (if false = true then (if 0 > 0 then _ else _) else _ : KasT _).kasWp cmp Q s
      rw [if_neg (by simp)]
      show cmp _ _ _ s
      refine A _ _ _ (hp.lt (by omega)) (hp.lt (by omega)) ?_
      have hne := hr _ _ (hp.lt (i := a) (by omega)) (hp.lt (i := a - 1) (by omega)) fun e => by have := hp.inj (by omega) (by omega) e; omega
      rw [decide_eq_true (by omega)]
      show (if true = true then _ else _ : KasT _).kasWp cmp Q s
      rw [if_pos rfl]
      exact hQ a (Nat.le_refl _) (by omega) h

theorem getD_congr {p q : Array Nat} {i j : Nat} (h : p[i]? = q[j]?) : p.getD i 0 = q.getD j 0 := by
  rw [Array.getD_eq_getD_getElem?, Array.getD_eq_getD_getElem?, h]

theorem rev_pm {p : Array Nat} (hp : Pm n p) (i j : Nat) : Pm n (kas_rev p i j) := by
  have := mirror_perm p i j ((j - i) / 2)
  exact (Array.perm_iff_toList_perm.mp this).trans hp
theorem rev_get {p : Array Nat} (hp : Pm n p) {m : Nat} (hm : m ≤ n) (k : Nat) : (kas_rev p 0 m).getD k 0 = if k < m then p.getD (m - 1 - k) 0 else p.getD k 0 := by
  have e := getElem?_mirror_all (xs := p) (i := 0) (j := m) (by rw [hp.size]; exact hm) k
  by_cases h : k < m
  · rw [if_pos h]
    rw [if_pos ⟨Nat.zero_le _, h⟩] at e
    refine getD_congr ?_
    show (mirror p 0 m ((m - 0) / 2))[k]? = _
    rw [e]; congr 1; omega
  · rw [if_neg h]
    rw [if_neg (fun q => h q.2)] at e
    exact getD_congr e

theorem tail3_run {p : Array Nat} (A : Asks cmp n r s) (hp : Pm n p) {Q : Nat × Array Nat → Shared → Prop} {m : Nat} (h1 : 1 ≤ m) (hm : m ≤ n) (hd : ∀ i, 0 < i → i < m → r (p.getD i 0) < r (p.getD (i - 1) 0))
    (hQ : ∀ k p', 1 ≤ k → k ≤ n → Pm n p' → Srt r p' k → Q (k, p') s) : (kas_tail3 m n p).kasWp cmp Q s := by
  unfold kas_tail3
  rw [KasT.kasWp_bind]
  refine asc_run A (rev_pm hp 0 m) (n - m) m h1 (by omega) (fun i hi hlt => ?_) fun k hk1 hk2 hk3 _ => ?_
  · rw [rev_get hp hm, rev_get hp hm, if_pos (by omega), if_pos hlt]
    have := hd (m - 1 - (i - 1)) (by omega) (by omega)
    have e : m - 1 - (i - 1) - 1 = m - 1 - i := by omega
    rw [e] at this
    omega
  · exact hQ k _ (by omega) (by omega) (rev_pm hp 0 m) (srt_of_adj hk3)

theorem descPart_run {p : Array Nat} (A : Asks cmp n r s) (hp : Pm n p) (hr : ∀ i j, i < n → j < n → i ≠ j → r i ≠ r j) {Q : Nat × Array Nat → Shared → Prop} (h2 : 2 ≤ n) (hd : r (p.getD 1 0) < r (p.getD 0 0))
    (hQ : ∀ k p', 1 ≤ k → k ≤ n → Pm n p' → Srt r p' k → Q (k, p') s) : (kas_descPart 1 n p).kasWp cmp Q s := by
  unfold kas_descPart
  rw [KasT.kasWp_bind]
  refine desc_run A hp hr (n - (1 + 1)) (1 + 1) (by omega) (by omega) (fun i hi hlt => ?_) fun m hm1 hm2 hm3 => ?_
  · have : i = 1 := by omega
    subst this; exact hd
  · show (if 0 > 0 then _ else _ : KasT _).kasWp cmp Q s
    rw [if_neg (by omega)]
    show (kas_tail3 m n p).kasWp cmp Q s
    exact tail3_run A hp (by omega) (by omega) hm3 hQ

theorem count_run {p : Array Nat} (A : Asks cmp n r s) (hp : Pm n p) (hr : ∀ i j, i < n → j < n → i ≠ j → r i ≠ r j) {Q : Nat × Array Nat → Shared → Prop} (h2 : 2 ≤ n)
    (hQ : ∀ k p', 1 ≤ k → k ≤ n → Pm n p' → Srt r p' k → Q (k, p') s) : (kas_count n p).kasWp cmp Q s := by
  unfold kas_count
  rw [KasT.kasWp_bind]
  refine asc_run A hp (n - 1) 1 (Nat.le_refl _) (by omega) (fun i hi hlt => by omega) fun m hm1 hm2 hm3 hm4 => ?_
  by_cases e1 : (m == n) = true
  · rw [if_pos e1]
    exact hQ m p hm1 (by omega) hp (srt_of_adj hm3)
  · have hmn : m ≠ n := fun e => e1 (by rw [e]; simp)
    rw [if_neg e1]
    by_cases e2 : m > 1
    · rw [if_pos e2]
      show cmp _ _ _ s
      refine A _ _ _ (hp.lt (by omega)) (hp.lt (by omega)) ?_
      have hs := srt_of_adj hm3 0 (m - 1) (by omega) (by omega)
      have hne := hr _ _ (hp.lt (i := 0) (by omega)) (hp.lt (i := m - 1) (by omega)) fun e => by have := hp.inj (by omega) (by omega) e; omega
      rw [decide_eq_true (by omega)]
      show (if true = true then _ else _ : KasT _).kasWp cmp Q s
      rw [if_pos rfl]
      exact hQ m p hm1 (by omega) hp (srt_of_adj hm3)
    · rw [if_neg e2]
      have : m = 1 := by omega
      subst this
      exact descPart_run A hp hr h2 (by simpa using hm4 (by omega)) hQ

theorem place_run {p : Array Nat} (A : Asks cmp n r s) (hp : Pm n p) {k : Nat} (hk : k < n) (hs : Srt r p k) {Q : Nat → Shared → Prop} : ∀ (f a b : Nat), b - a ≤ f → a ≤ b → b ≤ k →
    (∀ i, i < a → r (p.getD i 0) ≤ r (p.getD k 0)) → (∀ i, b ≤ i → i < k → r (p.getD k 0) ≤ r (p.getD i 0)) →
    (∀ c, c ≤ k → (∀ i, i < c → r (p.getD i 0) ≤ r (p.getD k 0)) → (∀ i, c ≤ i → i < k → r (p.getD k 0) ≤ r (p.getD i 0)) → Q c s) → (kas_place p k f a b).kasWp cmp Q s
  | 0, a, b, hf, hab, hb, h1, h2, hQ => hQ a (by omega) h1 fun i hi hik => h2 i (by omega) hik
  | f + 1, a, b, hf, hab, hb, h1, h2, hQ => by
    unfold kas_place
    by_cases hge : a ≥ b
    · rw [if_pos hge]
      exact hQ a (by omega) h1 fun i hi hik => h2 i (by omega) hik
    · rw [if_neg hge]
      show cmp _ _ _ s
      refine A _ _ _ (hp.lt hk) (hp.lt (by omega)) ?_
      by_cases hc : r (p.getD k 0) < r (p.getD ((a + b) / 2) 0)
      · rw [decide_eq_true hc]
        show (if true = true then _ else _ : KasT _).kasWp cmp Q s
        rw [if_pos rfl]
        refine place_run A hp hk hs f a ((a + b) / 2) (by omega) (by omega) (by omega) h1 (fun i hi hik => ?_) hQ
        have := hs ((a + b) / 2) i hi hik
        omega
      · rw [decide_eq_false hc]
        show (if false = true then _ else _ : KasT _).kasWp cmp Q s
        rw [if_neg (by simp)]
        refine place_run A hp hk hs f ((a + b) / 2 + 1) b (by omega) (by omega) (by omega) (fun i hi => ?_) h2 hQ
        have := hs i ((a + b) / 2) (by omega) (by omega)
        omega

theorem bubble_pm {p : Array Nat} (hp : Pm n p) (k d : Nat) : Pm n (bubble p k d) := (Array.perm_iff_toList_perm.mp (bubble_perm p k d)).trans hp

theorem bin_run (A : Asks cmp n r s) {Q : Array Nat → Shared → Prop} : ∀ (f k : Nat) (p : Array Nat), k + f = n → 1 ≤ k → Pm n p → Srt r p k → (∀ p', Pm n p' → Srt r p' n → Q p' s) → (kas_bin f p k).kasWp cmp Q s
  | 0, k, p, hk, _, hp, hs, hQ => hQ p hp (by rw [← hk]; exact hs)
  | f + 1, k, p, hk, h1, hp, hs, hQ => by
    unfold kas_bin
    rw [KasT.kasWp_bind]
    refine place_run A hp (by omega) hs k 0 k (by omega) (by omega) (Nat.le_refl _) (fun i hi => absurd hi (by omega)) (fun i hi hik => absurd hik (by omega)) fun c hc g1 g2 => ?_
    refine bin_run A f (k + 1) _ (by omega) (by omega) (bubble_pm hp _ _) ?_ hQ
    have gb : ∀ i, (bubble p k (k - c)).getD i 0 = if i = c then p.getD k 0 else if c < i ∧ i ≤ k then p.getD (i - 1) 0 else p.getD i 0 := by
      intro i
      have e := getElem?_bubble (xs := p) (src := k) (by rw [hp.size]; omega) (k - c) (by omega) i
      have ec : k - (k - c) = c := by omega
      rw [ec] at e
      by_cases q1 : i = c
      · rw [if_pos q1] at e ⊢; exact getD_congr e
      · rw [if_neg q1] at e ⊢
        by_cases q2 : c < i ∧ i ≤ k
        · rw [if_pos q2] at e ⊢; exact getD_congr e
        · rw [if_neg q2] at e ⊢; exact getD_congr e
    intro i j hij hj
    rw [gb, gb]
    by_cases i1 : i = c
    · by_cases j1 : j = c
      · rw [if_pos i1, if_pos j1]; exact Int.le_refl _
      · rw [if_pos i1, if_neg j1, if_pos ⟨by omega, by omega⟩]
        exact g2 (j - 1) (by omega) (by omega)
    · rw [if_neg i1]
      by_cases i2 : c < i ∧ i ≤ k
      · rw [if_pos i2, if_neg (by omega), if_pos ⟨by omega, by omega⟩]
        exact hs (i - 1) (j - 1) (by omega) (by omega)
      · rw [if_neg i2]
        by_cases j1 : j = c
        · rw [if_pos j1]; exact g1 i (by omega)
        · rw [if_neg j1]
          by_cases j2 : c < j ∧ j ≤ k
          · rw [if_pos j2]
            exact hs i (j - 1) (by omega) (by omega)
          · rw [if_neg j2]
            exact hs i j hij (by omega)

theorem sort_run (A : Asks cmp n r s) (hr : ∀ i j, i < n → j < n → i ≠ j → r i ≠ r j) (h2 : 2 ≤ n) {Q : Array Nat → Shared → Prop} (hQ : ∀ p, Pm n p → Srt r p n → Q p s) : (kas_sort n).kasWp cmp Q s := by
  unfold kas_sort
  rw [KasT.kasWp_bind]
  have hp0 : Pm n (List.toArray (List.range n)) := List.Perm.refl _
  refine count_run A hp0 hr h2 fun k p hk1 hk2 hp hs => ?_
  by_cases hlt : k < n
  · rw [if_pos hlt]
    have e : max k 1 = k := by omega
    show (kas_bin (n - max k 1) p (max k 1)).kasWp cmp Q s
    rw [e]
    exact bin_run A (n - k) k p (by omega) hk1 hp hs hQ
  · rw [if_neg hlt]
    have : k = n := by omega
    subst this
    exact hQ p hp hs
end
end Mine

end
/-! Sort2 -/
section
open PySem PySem.W PySem.Calls PyProof.Rows
namespace Mine

/-- a tuple of two ints, as it lies -/
def pairObj (a b : Int) (t u : Tok) : Obj := { cls := .type "tuple", data := .seq #[.int a t, .int b u] 0 }
/-- (address, first, second) -/
abbrev TT := Addr × Int × Int
def TupsIn (news : List (Addr × Obj)) (ts : List TT) : Prop := ∀ t ∈ ts, ∃ u v, (t.1, pairObj t.2.1 t.2.2 u v) ∈ news
def refsOf (ts : List TT) : List Value := ts.map fun t => Value.ref t.1

section
variable {prog : Program} {w : World} {A : Around} {E : Value → Shared → Prop} {s : Shared} {h₀ : Heap} {L : Addr} {m : Str → Option Value} {news : List (Addr × Obj)} {Q : Value → Shared → Prop}

theorem tup_cmp {i j : Addr} {a b c d : Int} {t u t' u' : Tok} {C : Bool → Shared → Prop} (hi : s.heap.get? i = some (pairObj a b t u)) (hj : s.heap.get? j = some (pairObj c d t' u'))
    (h1 : 0 ≤ b ∧ b < 100) (h2 : 0 ≤ d ∧ d < 100) (h : C (decide (a * 100 + b < c * 100 + d)) s) : wpAny (model prog w) A (keyLt' (tuples' true) (.ref i) (.ref j)) C (fun _ _ => False) s := by
  refine kat_lt hi rfl hj rfl ?_
  show KatLex prog w A true (decide (2 < 2)) C [(.int a t, .int c t'), (.int b u, .int d u')] 0 s
  refine kat_cons (wpAny_eqBool_int ?_)
  by_cases hac : a = c
  · subst hac
    rw [show (a == a) = true from by simp]
    refine kat_yes (kat_cons (wpAny_eqBool_int ?_))
    by_cases hbd : b = d
    · subst hbd
      rw [show (b == b) = true from by simp]
      refine kat_yes (kat_nil ?_)
      have e : decide (a * 100 + b < a * 100 + b) = decide (2 < 2) := by simp
      rw [e] at h
      exact h
    · rw [show (b == d) = false from by simp [hbd]]
      refine kat_no ?_
      show wpAny (model prog w) A (oneLt' (true && (0 + 1 == 0)) _ _) C _ s
      rw [show (true && (0 + 1 == 0)) = false from rfl]
      refine kat_one _ _ (lt_int ?_)
      have e : decide (a * 100 + b < a * 100 + d) = decide (b < d) := by
        by_cases hlt : b < d
        · rw [decide_eq_true hlt, decide_eq_true (by omega)]
        · rw [decide_eq_false hlt, decide_eq_false (by omega)]
      rw [e] at h
      exact h
  · rw [show (a == c) = false from by simp [hac]]
    refine kat_no ?_
    show wpAny (model prog w) A (oneLt' (true && (0 == 0)) _ _) C _ s
    rw [show (true && (0 == 0)) = true from rfl]
    refine oneLt_int ?_
    have e : decide (a * 100 + b < c * 100 + d) = decide (a < c) := by
      by_cases hlt : a < c
      · rw [decide_eq_true hlt, decide_eq_true (by omega)]
      · rw [decide_eq_false hlt, decide_eq_false (by omega)]
    rw [e] at h
    exact h

theorem katTups_of {h : Heap} : ∀ {ts : List TT}, (∀ t ∈ ts, ∃ u v, h.get? t.1 = some (pairObj t.2.1 t.2.2 u v)) → ∃ fs : List Value, fs.length = ts.length ∧ (∀ v ∈ fs, ∃ n t, v = .int n t) ∧ KatTups h (refsOf ts) fs
  | [], _ => ⟨[], rfl, fun _ hv => (nomatch hv), .nil⟩
  | t :: ts, hh => by
    obtain ⟨fs, h1, h2, h3⟩ := katTups_of (ts := ts) fun t' ht' => hh t' (.tail _ ht')
    obtain ⟨u, v, ho⟩ := hh t (.head _)
    refine ⟨.int t.2.1 u :: fs, by simp [h1], fun x hx => ?_, KatTups.cons ho rfl rfl rfl h3⟩
    rcases List.mem_cons.mp hx with rfl | hx
    · exact ⟨_, _, rfl⟩
    · exact h2 x hx

theorem perm_get {ts : List TT} {p : Array Nat} (hp : Pm ts.length p) : (p.toList.map fun i => ts.getD i (0, 0, 0)).Perm ts := by
  have h1 := hp.map fun i => ts.getD i (0, 0, 0)
  refine h1.trans (List.Perm.of_eq ?_)
  apply List.ext_getElem
  · simp
  · intro i h1 h2
    simp only [List.length_map, List.length_range] at h1
    simp [h1]

theorem sorted_long {l : Addr} {ts : List TT} (F : Fr h₀ L s.heap m) (N : News h₀ L s.heap news) (hl : s.heap.IsList l (refsOf ts).toArray) (ht : TupsIn news ts) (h2 : 2 ≤ ts.length) (h64 : ts.length < 64)
    (hb : ∀ t ∈ ts, 0 ≤ t.2.2 ∧ t.2.2 < 100) (hd : (ts.map fun t => t.2.2).Nodup)
    (h : ∀ D (ts' : List TT) c h', Fr h₀ L h' m → News h₀ L h' ((D, listOf (refsOf ts').toArray c) :: news) → (∀ q ∈ news, q.1 < D) → ts'.Perm ts → (ts'.Pairwise fun a b => a.2.1 * 100 + a.2.2 ≤ b.2.1 * 100 + b.2.2) → Q (.ref D) { s with heap := h' }) :
    wpAny (model prog w) A (call (.builtin "sorted") [.ref l]) Q E s := by
  have hlen : (refsOf ts).length = ts.length := by simp [refsOf]
  refine kat_sorted F N hl (by rw [hlen]; exact h2) (by rw [hlen]; exact h64) fun D e1 h' F' N' hlt => ?_
  have hobj : ∀ t ∈ ts, ∃ u v, h'.get? t.1 = some (pairObj t.2.1 t.2.2 u v) := fun t htm => by
    obtain ⟨u, v, hm⟩ := ht t htm
    exact ⟨u, v, (N' _ (.tail _ hm)).1⟩
  obtain ⟨fs, hf1, hf2, hf3⟩ := katTups_of hobj
  refine kat_kind (T := .type "int") (s := { s with heap := h' }) hf3 (by omega) (fun v hv => ?_) rfl ?_
  · obtain ⟨n, t, rfl⟩ := hf2 v hv
    exact Looks.of_pure rfl
  rw [show (Value.type "int" != Value.type "tuple") = true from by decide]
  rw [hlen]
  have hget : ∀ i, i < ts.length → (refsOf ts).getD i Value.none = .ref (ts.getD i (0, 0, 0)).1 := fun i hi => by simp [refsOf, hi]
  have hmem : ∀ i, i < ts.length → ts.getD i (0, 0, 0) ∈ ts := fun i hi => by simp [hi]
  refine sort_run (r := fun i => (ts.getD i (0, 0, 0)).2.1 * 100 + (ts.getD i (0, 0, 0)).2.2) ?_ ?_ h2 fun p hp hs => ?_
  · intro i j C hi hj hC
    show wpAny _ _ (keyLt' (tuples' true) ((refsOf ts).getD i Value.none) ((refsOf ts).getD j Value.none)) C _ _
    rw [hget i hi, hget j hj]
    obtain ⟨u, v, ho⟩ := hobj _ (hmem i hi)
    obtain ⟨u', v', ho'⟩ := hobj _ (hmem j hj)
    exact tup_cmp (s := { s with heap := h' }) ho ho' (hb _ (hmem i hi)) (hb _ (hmem j hj)) hC
  · intro i j hi hj hij e
    have b1 := hb _ (hmem i hi)
    have b2 := hb _ (hmem j hj)
    have e2 : (ts.getD i (0, 0, 0)).2.2 = (ts.getD j (0, 0, 0)).2.2 := by omega
    have pw := List.pairwise_iff_getElem.mp hd
    have g : ∀ k, (hk : k < ts.length) → (ts.map fun t => t.2.2)[k]'(by simpa using hk) = (ts.getD k (0, 0, 0)).2.2 := fun k hk => by simp [hk]
    rcases Nat.lt_trichotomy i j with q | q | q
    · exact pw i j (by simpa using hi) (by simpa using hj) q (by rw [g i hi, g j hj]; exact e2)
    · exact hij q
    · exact pw j i (by simpa using hj) (by simpa using hi) q (by rw [g i hi, g j hj]; exact e2.symm)
  · have hsz := hp.size
    refine KasFin.intro F' N' (.head fun q hq => Nat.ne_of_lt (hlt q hq)) fun h2' c F2 N2 => ?_
    have hperm := perm_get hp
    refine h D (p.toList.map fun i => ts.getD i (0, 0, 0)) c h2' F2 ?_ hlt hperm ?_
    · have e : (p.toList.map fun i => (refsOf ts).getD i Value.none) = refsOf (p.toList.map fun i => ts.getD i (0, 0, 0)) := by
        unfold refsOf
        rw [List.map_map]
        refine List.map_congr_left fun i hi => ?_
        have hi' : i < ts.length := List.mem_range.mp (hp.subset hi)
        exact hget i hi'
      rw [← e]
      exact N2
    · rw [List.pairwise_iff_getElem]
      intro i j hi hj hij
      simp only [List.length_map, Array.length_toList] at hi hj
      have hi2 : i < p.size := hi
      have hj2 : j < p.size := hj
      have := hs i j (Nat.le_of_lt hij) (by omega)
      have e1 : p.getD i 0 = p[i] := by simp [Array.getD, hi2]
      have e2 : p.getD j 0 = p[j] := by simp [Array.getD, hj2]
      rw [e1, e2] at this
      dsimp only at this
      have b1 := hb _ (hmem p[i] (by rw [← e1]; exact hp.lt (by omega)))
      have b2 := hb _ (hmem p[j] (by rw [← e2]; exact hp.lt (by omega)))
      simp only [List.getElem_map, Array.getElem_toList]
      omega

theorem sorted_short {l : Addr} {vs : List Value} (F : Fr h₀ L s.heap m) (N : News h₀ L s.heap news) (hl : s.heap.IsList l vs.toArray) (h2 : vs.length < 2)
    (h : ∀ D c h', Fr h₀ L h' m → News h₀ L h' ((D, listOf vs.toArray c) :: news) → (∀ q ∈ news, q.1 < D) → Q (.ref D) { s with heap := h' }) :
    wpAny (model prog w) A (call (.builtin "sorted") [.ref l]) Q E s := by
  refine Calls.call_function_entry kind_sorted plain_sorted entry_sorted (args_sorted1 _) ?_
  unfold Builtin.«sorted»
  refine wpAny_bind (m := checkCount "sorted" 1 1 _) (wpAny_pure ?_)
  refine wpAny_bind (collect_list hl ?_ (by rw [sizeLine_eq]; omega))
  refine wpAny_bind (wpAny_newList ?_ (by rw [sizeLine_eq]; omega))
  generalize hH : (s.heap.push (seqObj "list" #[] 0)).update s.heap.objs.size (Obj.mapSeq (· ++ vs.toArray)) = H
  have hsz : H.objs.size = s.heap.objs.size + 1 := by rw [← hH, Heap.size_update, size_push']
  have keep : ∀ b o, s.heap.get? b = some o → H.get? b = some o := fun b o q => by
    have hlt : b < s.heap.objs.size := Heap.lt_size q
    rw [← hH, Heap.get?_update_ne _ _ _ _ (Nat.ne_of_lt hlt), Heap.get?_push_ne _ _ _ (Nat.ne_of_lt hlt)]
    exact q
  have F1 : Fr h₀ L H m := F.kept keep
  have N1 : News h₀ L H news := N.grown keep
  have hL : L < H.objs.size := F1.ns.lt
  have ho : (H.push (seqObj "list" vs.toArray 0)).get? H.objs.size = some (seqObj "list" vs.toArray 0) := Heap.get?_push_size _ rfl
  refine wpAny_bind (wpAny_holding (wpAny_call_entry slot_list_sort ⟨_, ho, rfl⟩ entry_list_sort ?body (args_list_sort _)))
  case body =>
    have ha : H.objs.size < (H.push (seqObj "list" vs.toArray 0)).objs.size := Heap.lt_size ho
    generalize hH2 : H.push (seqObj "list" vs.toArray 0) = H2 at ho ha
    have F2 : Fr h₀ L H2 m := by rw [← hH2]; exact F1.push _
    have N2 : News h₀ L H2 news := by rw [← hH2]; exact N1.grown fun b x e => Heap.get?_push_of_some _ e
    have haL : H.objs.size ≠ L := Nat.ne_of_gt hL
    have ha0 : h₀.get? H.objs.size = none := Heap.get?_none_of_le (Nat.le_trans F1.above (Nat.le_of_lt hL))
    have hlow : ∀ p ∈ news, p.1 < H.objs.size := fun p hp => Heap.lt_size (N1 p hp).1
    generalize H.objs.size = a at ho ha haL ha0 hlow
    have hna : ∀ p ∈ news, p.1 ≠ a := fun p hp => Nat.ne_of_lt (hlow p hp)
    have s1 := Heap.SameBut.update H2 a (Obj.mapSeq fun _ => (#[] : Array Value))
    obtain ⟨e1, ho1⟩ : ∃ e1, (H2.update a (Obj.mapSeq fun _ => (#[] : Array Value))).get? a = some (seqObj "list" #[] e1) := ⟨_, get?_update_seq ho fun _ => #[]⟩
    have F3 := ((kas_fr F2 s1 haL ha0).push (seqObj "tuple" vs.toArray 0)).push (seqObj "list" #[] 0)
    have N3 : News h₀ L (((H2.update a (Obj.mapSeq fun _ => (#[] : Array Value))).push (seqObj "tuple" vs.toArray 0)).push (seqObj "list" #[] 0)) news :=
      (kas_news N2 s1 hna).grown fun b x e => Heap.get?_push_of_some _ (Heap.get?_push_of_some _ e)
    have ho6 : (((H2.update a (Obj.mapSeq fun _ => (#[] : Array Value))).push (seqObj "tuple" vs.toArray 0)).push (seqObj "list" #[] 0)).get? a = some (seqObj "list" #[] e1) :=
      Heap.get?_push_of_some _ (Heap.get?_push_of_some _ ho1)
    rw [list_sort_plain]
    refine wpAny_bind (listItems_at (s := { s with heap := H2 }) ho rfl ?_)
    refine wpAny_bind (listUpdate_at (s := { s with heap := H2 }) ho rfl ?_ (by rw [List.size_toArray, sizeLine_eq]; omega) (Nat.zero_le _))
    refine wpAny_bind (seqEpoch_at ho1 rfl ?_)
    refine wpAny_bind (wpAny_newTuple ?_ (by show vs.length ≤ _; rw [sizeLine_eq]; omega))
    refine wpAny_bind (wpAny_newList ?_ (Nat.zero_le _))
    refine wpAny_holding ?_
    dsimp only
    have hn2 : vs.toArray.size < 2 := by rw [List.size_toArray]; omega
    rw [if_pos hn2, if_pos hn2]
    refine wpAny_bind (wpAny_pure ?_)
    rw [StateT.run_pure]
    refine wpAny_bind (wpAny_pure ?_)
    dsimp only
    refine wpAny_bind (seqEpoch_at ho6 rfl ?_)
    have hz : (arrOf (SortSt.mk' general' (vs.toArray.zip vs.toArray) #[] 7 none)).map (·.2) = vs.toArray := by
      show (vs.toArray.zip vs.toArray).map (·.2) = vs.toArray
      apply Array.toList_inj.mp
      rw [Array.toList_map, Array.toList_zip]
      exact List.map_snd_zip (Nat.le_refl _)
    rw [hz]
    refine wpAny_bind (listUpdate_at ho6 rfl ?_ (Nat.zero_le _) (by rw [List.size_toArray, sizeLine_eq]; omega))
    simp only [bne_self_eq_false, Bool.false_eq_true, if_false]
    have s2 := Heap.SameBut.update (((H2.update a (Obj.mapSeq fun _ => (#[] : Array Value))).push (seqObj "tuple" vs.toArray 0)).push (seqObj "list" #[] 0)) a (Obj.mapSeq fun _ => vs.toArray)
    obtain ⟨c2, hc2⟩ : ∃ c2, ((((H2.update a (Obj.mapSeq fun _ => (#[] : Array Value))).push (seqObj "tuple" vs.toArray 0)).push (seqObj "list" #[] 0)).update a (Obj.mapSeq fun _ => vs.toArray)).get? a = some (seqObj "list" vs.toArray c2) :=
      ⟨_, get?_update_seq ho6 fun _ => vs.toArray⟩
    show wpAny (model prog w) _ (pure _) _ _ _
    refine wpAny_pure ⟨_, rfl, wpAny_pure ⟨_, rfl, ?_⟩⟩
    refine h a c2 _ (kas_fr F3 s2 haL ha0) (fun p hp => ?_) fun q hq => ?_
    · rcases List.mem_cons.mp hp with rfl | hp
      · exact ⟨hc2, haL, ha0⟩
      · exact kas_news N3 s2 hna p hp
    · exact hlow q hq

theorem sorted_tups {l : Addr} {ts : List TT} (F : Fr h₀ L s.heap m) (N : News h₀ L s.heap news) (hl : s.heap.IsList l (refsOf ts).toArray) (ht : TupsIn news ts) (h64 : ts.length < 64)
    (hb : ∀ t ∈ ts, 0 ≤ t.2.2 ∧ t.2.2 < 100) (hd : (ts.map fun t => t.2.2).Nodup)
    (h : ∀ D (ts' : List TT) c h', Fr h₀ L h' m → News h₀ L h' ((D, listOf (refsOf ts').toArray c) :: news) → (∀ q ∈ news, q.1 < D) → ts'.Perm ts → (ts'.Pairwise fun a b => a.2.1 * 100 + a.2.2 ≤ b.2.1 * 100 + b.2.2) → Q (.ref D) { s with heap := h' }) :
    wpAny (model prog w) A (call (.builtin "sorted") [.ref l]) Q E s := by
  by_cases h2 : 2 ≤ ts.length
  · exact sorted_long F N hl ht h2 h64 hb hd h
  · refine sorted_short F N hl (by simp [refsOf]; omega) fun D c h' F' N' lt => h D ts c h' F' N' lt (List.Perm.refl _) ?_
    match ts, h2 with
    | [], _ => exact List.Pairwise.nil
    | [_], _ => exact List.pairwise_singleton _ _
    | _ :: _ :: _, h2 => simp at h2
end
end Mine

end
/-! Loop1 -/
section
open PySem PySem.W PySem.Calls PyProof.Rows
namespace Mine

section
variable {prog : Program} {w : World} {A : Around} {E : Value → Shared → Prop} {s : Shared} {env : Env} {h₀ : Heap} {x : Str} {body : List Stmt} {Q : Flow → Shared → Prop}

/-- the frame at a turn: the named letters, the stored names forgotten, all else as it stood -/
abbrev frOf (stored : List Str) (u m₀ : Str → Option Value) (ps : List (Str × Value)) : Str → Option Value := kstB (fun z => if stored.contains z then u z else m₀ z) ps

def EndC {σ : Type} (h₀ : Heap) (L : Addr) (wr : List Addr) (Led : σ → List (Addr × Obj)) (ps : σ → List (Str × Value)) (off : Str → Bool) (m₀ : Str → Option Value) (Inv : σ → Prop) (own : List (Addr × Obj)) (s₁ s₂ : Shared) : Prop :=
  ∃ h' tk m' news' c', s₂ = { s₁ with heap := h', toks := tk } ∧ Fr h₀ L h' m' ∧ News h₀ L h' news' ∧ (∀ p ∈ Led c', p ∈ news') ∧ (∀ p ∈ own, p ∈ news') ∧ (∀ p ∈ Led c', p.1 ∉ wr) ∧ Inv c' ∧
    (∀ p ∈ ps c', m' p.1 = some p.2) ∧ ∀ z, off z = false → (∀ p ∈ ps c', z ≠ p.1) → m' z = m₀ z
def PostC {σ : Type} (h₀ : Heap) (L : Addr) (wr : List Addr) (Led : σ → List (Addr × Obj)) (ps : σ → List (Str × Value)) (off : Str → Bool) (m₀ : Str → Option Value) (Inv : σ → Prop) (own : List (Addr × Obj)) (s₁ : Shared)
    (Q : Flow → Shared → Prop) (f : Flow) (s₂ : Shared) : Prop :=
  match f with
  | .ret v => Q (.ret v) s₂
  | .brk => Q .next s₂
  | _ => EndC h₀ L wr Led ps off m₀ Inv own s₁ s₂

theorem EndC.intro {σ : Type} {L : Addr} {wr : List Addr} {Led : σ → List (Addr × Obj)} {ps : σ → List (Str × Value)} {off : Str → Bool} {m₀ : Str → Option Value} {Inv : σ → Prop} {own news' : List (Addr × Obj)} {s₁ : Shared}
    {h' : Heap} {tk : Nat} {m' : Str → Option Value} (c' : σ) (F : Fr h₀ L h' m') (N : News h₀ L h' news') (hI : Inv c') (hn : ∀ p ∈ Led c', p ∈ news') (ho : ∀ p ∈ own, p ∈ news') (hw : ∀ p ∈ Led c', p.1 ∉ wr)
    (hk : ∀ p ∈ ps c', m' p.1 = some p.2) (hr : ∀ z, off z = false → (∀ p ∈ ps c', z ≠ p.1) → m' z = m₀ z) : EndC h₀ L wr Led ps off m₀ Inv own s₁ { s₁ with heap := h', toks := tk } :=
  ⟨h', tk, m', news', c', rfl, F, N, hn, ho, hw, hI, hk, hr⟩

theorem frOf_eq {stored : List Str} {m₀ m₁ : Str → Option Value} {ps : List (Str × Value)} {v : Value} (h1 : ∀ p ∈ ps, m₁ p.1 = some p.2) (h2 : ∀ z, (z == x || stored.contains z) = false → (∀ p ∈ ps, z ≠ p.1) → m₁ z = m₀ z) {y : Str} (hy : y ≠ x) :
    frOf stored m₁ m₀ ps y = m₁ y := by
  refine kstB_eq h1 fun hn => ?_
  show (if stored.contains y = true then m₁ y else m₀ y) = m₁ y
  cases h3 : stored.contains y with
  | true => simp
  | false =>
    simp only [Bool.false_eq_true, if_false]
    exact (h2 y (by rw [h3, Bool.or_false]; exact beq_eq_false_iff_ne.mpr hy) hn).symm

theorem my_loop {σ : Type} {I : Addr} {fp wr : List Addr} {n : Nat} {P : Nat → Value → Prop} {St : Nat → Heap → Prop} {m₀ : Str → Option Value} (W : Walks prog w A I fp wr n P St)
    (Led : σ → List (Addr × Obj)) (ps : σ → List (Str × Value)) (stored : List Str) (wad : List Addr) (Inv : Nat → σ → Prop) (c₀ : σ)
    (hlive : ∀ i h, St i h → ∀ b ∈ wr, ∃ o, h.get? b = some o) (hLf : env.locals ∉ fp) (hwr : ∀ b ∈ wr, h₀.get? b = none) (hwad : ∀ b ∈ wad, b ∉ fp) (hst : St 0 s.heap)
    (F : Fr h₀ env.locals s.heap m₀) (N : News h₀ env.locals s.heap (Led c₀)) (hnw : ∀ p ∈ Led c₀, p.1 ∉ wr) (hk : ∀ p ∈ ps c₀, m₀ p.1 = some p.2) (h0 : Inv 0 c₀)
    (turn : ∀ i c v (u : Str → Option Value) h tk own, i < n → P i v → Inv i c → OwnOff own wad → (∀ p ∈ Led c, p.1 ∉ wr) → (∀ b ∈ wr, ∃ o, (b, o) ∈ own) →
      Fr h₀ env.locals h (fun y => if y = x then some v else frOf stored u m₀ (ps c) y) → News h₀ env.locals h (Led c ++ own) →
      wpAny (model prog w) A (execs body env) (PostC h₀ env.locals wr Led ps (fun z => z == x || stored.contains z) m₀ (Inv (i + 1)) own { s with heap := h, toks := tk } Q) E { s with heap := h, toks := tk })
    (done : ∀ c (u : Str → Option Value) h tk, Inv n c → Fr h₀ env.locals h (fun y => if y = x then u y else frOf stored u m₀ (ps c) y) → News h₀ env.locals h (Led c) → Q .next { s with heap := h, toks := tk }) :
    LoopAtV prog w A h₀ env x body Q E (.ref I) s := by
  let J : Nat → (Str → Option Value) → List (Addr × Obj) → Prop := fun i m nx => ∃ c, nx = Led c ∧ Inv i c ∧ (∀ p ∈ ps c, m p.1 = some p.2) ∧ ∀ z, (z == x || stored.contains z) = false → (∀ p ∈ ps c, z ≠ p.1) → m z = m₀ z
  refine ⟨I, fp, wr, n, P, St, m₀, Led c₀, J, rfl, W, hLf, hwr, hnw, hst, F, N, ⟨c₀, rfl, h0, hk, fun _ _ _ => rfl⟩, ?_, ?_⟩
  · rintro i v m₁ news₁ s₁ own ⟨hh', tk', rfl⟩ hin hP ⟨c, rfl, hI, h1, h2⟩ hoff hown hget hall hst₁ F₁ N₁
    have hsep : OwnOff own wad := fun p hp b hb e => hwad b hb (e ▸ hown p hp)
    have N₂ : News h₀ env.locals hh' (Led c ++ own) := fun p hp => N₁ p ((List.mem_append.mp hp).elim (fun h => List.mem_append.mpr (.inr h)) fun h => List.mem_append.mpr (.inl h))
    have hl : ∀ b ∈ wr, ∃ o, (b, o) ∈ own := fun b hb => by
      obtain ⟨o, ho⟩ := hlive _ _ hst₁ b hb
      exact ⟨o, hall b (W.sub b hb) (hwr b hb) o ho⟩
    have em : (fun y => if y = x then some v else frOf stored m₁ m₀ (ps c) y) = fun y => if y = x then some v else m₁ y := by
      funext y
      by_cases hy : y = x
      · rw [if_pos hy, if_pos hy]
      · rw [if_neg hy, if_neg hy]; exact frOf_eq (v := v) h1 h2 hy
    refine wpAny_mono (turn i c v m₁ hh' tk' own hin hP hI hsep hoff hl (by rw [em]; exact F₁) N₂) (fun f s₂ p => ?_) fun _ _ e => e
    have fin : EndC h₀ env.locals wr Led ps (fun z => z == x || stored.contains z) m₀ (Inv (i + 1)) own { s with heap := hh', toks := tk' } s₂ → LoopStepU h₀ env.locals wr own (J (i + 1)) { s with heap := hh', toks := tk' } .next s₂ := by
      rintro ⟨h', tk, m', news', c', e, F', N', hn, ho, hw, hI', hk', hr⟩
      exact ⟨rfl, h', tk, m', Led c', e, F', fun p hp => N' p ((List.mem_append.mp hp).elim (ho p) (hn p)), hw, c', rfl, hI', hk', hr⟩
    cases f with
    | ret v => exact .ret p
    | brk => exact .brk p
    | next => exact .next (fin p)
    | cont => exact .cont (fin p)
  · rintro h' tk m' news' F' N' _ ⟨c, rfl, hI, h1, h2⟩
    have em : (fun y => if y = x then m' y else frOf stored m' m₀ (ps c) y) = m' := by
      funext y
      by_cases hy : y = x
      · rw [if_pos hy]
      · rw [if_neg hy]; exact frOf_eq (v := .none) h1 h2 hy
    exact done c m' h' tk hI (by rw [em]; exact F') N'

theorem own_of_wr {I : Addr} {own : List (Addr × Obj)} (h : ∀ b ∈ [I], ∃ o, (b, o) ∈ own) : ∃ o, (I, o) ∈ own := h I (List.mem_singleton.mpr rfl)

theorem iter_list {σ : Type} {l : Addr} {vs : List Value} {m₀ : Str → Option Value} (Led : σ → List (Addr × Obj)) (ps : σ → List (Str × Value)) (stored : List Str) (wad : List Addr) (Inv : Nat → σ → Prop) (c₀ : σ)
    (hh : A.handled = none) (hl : s.heap.IsList l vs.toArray) (hlL : l ≠ env.locals) (F : Fr h₀ env.locals s.heap m₀) (N : News h₀ env.locals s.heap (Led c₀)) (hwad : ∀ b ∈ wad, b ≠ l ∧ b < s.heap.objs.size) (hk : ∀ p ∈ ps c₀, m₀ p.1 = some p.2) (h0 : Inv 0 c₀)
    (turn : ∀ I i c v (u : Str → Option Value) h tk own, vs[i]? = some v → Inv i c → OwnOff own wad → (∀ p ∈ Led c, p.1 ∉ [I]) → (∃ o, (I, o) ∈ own) → s.heap.objs.size ≤ I →
      Fr h₀ env.locals h (fun y => if y = x then some v else frOf stored u m₀ (ps c) y) → News h₀ env.locals h (Led c ++ own) →
      wpAny (model prog w) A (execs body env) (PostC h₀ env.locals [I] Led ps (fun z => z == x || stored.contains z) m₀ (Inv (i + 1)) own { s with heap := h, toks := tk } Q) E { s with heap := h, toks := tk })
    (done : ∀ c (u : Str → Option Value) h tk, Inv vs.length c → Fr h₀ env.locals h (fun y => if y = x then u y else frOf stored u m₀ (ps c) y) → News h₀ env.locals h (Led c) → Q .next { s with heap := h, toks := tk }) :
    wpAny (model prog w) A (pyIter (.ref l)) (fun it s₂ => LoopAtV prog w A h₀ env x body Q E it s₂) E s := by
  obtain ⟨ol, hol, _⟩ := id hl
  have hlt : l < s.heap.objs.size := Heap.lt_size hol
  refine wpAny_pyIter_list hl ?_
  have W := Walks.list (prog := prog) (w := w) (A := A) hh s.heap.objs.size l (Nat.ne_of_lt hlt) vs.toArray
  have hLt : env.locals < s.heap.objs.size := F.ns.lt
  have lowW : ∀ b o, h₀.get? b = some o → b < s.heap.objs.size := fun b o e => Heap.lt_size (F.keep b o e)
  have := my_loop (s := { s with heap := s.heap.push { cls := .type "list_iterator", data := .fields #[.ref l, .int 0 0] } }) (body := body) (x := x) (Q := Q) (E := E) W Led ps stored wad Inv c₀
    (fun i h st b hb => by obtain ⟨⟨o, ho, _⟩, _⟩ := st; rw [List.mem_singleton.mp hb]; exact ⟨o, ho⟩)
    (fun hm => by
      rcases List.mem_cons.mp hm with e | hm
      · exact absurd hLt (e ▸ Nat.lt_irrefl _)
      · exact hlL (List.mem_singleton.mp hm).symm)
    (fun b hb => by
      rw [List.mem_singleton.mp hb]
      cases e : h₀.get? s.heap.objs.size with
      | none => rfl
      | some o => exact absurd (lowW _ _ e) (Nat.lt_irrefl _))
    (fun b hb hm => by
      obtain ⟨h1, h2⟩ := hwad b hb
      rcases List.mem_cons.mp hm with e | hm
      · exact absurd h2 (e ▸ Nat.lt_irrefl _)
      · exact h1 (List.mem_singleton.mp hm))
    ⟨⟨_, Heap.get?_push_size _ rfl, rfl, rfl⟩, hl.at fun o e => Heap.get?_push_of_some _ e⟩ (F.push _) (fun p hp => ⟨Heap.get?_push_of_some _ (N p hp).1, (N p hp).2⟩)
    (fun p hp hm => absurd (Heap.lt_size (N p hp).1) (by rw [List.mem_singleton.mp hm]; exact Nat.lt_irrefl _)) hk h0
    (fun i c v u h tk own hi hP hI hs hnw ho F' N' => turn s.heap.objs.size i c v u h tk own (by simpa using hP) hI hs hnw (own_of_wr ho) (Nat.le_refl _) F' N')
    (fun c u h tk hI F' N' => done c u h tk (by simpa using hI) F' N')
  exact this

theorem iter_dict {K : Type} [DecidableEq K] {knd : KeyKind prog w K} {σ : Type} {d : Addr} {kvs : List (K × Value)} {m₀ : Str → Option Value} (Led : σ → List (Addr × Obj)) (ps : σ → List (Str × Value)) (stored : List Str) (wad : List Addr) (Inv : Nat → σ → Prop) (c₀ : σ)
    (hh : A.handled = none) (lo : (d == sysModules) = false) (hd : s.heap.DictOf knd d kvs) (hlL : d ≠ env.locals) (F : Fr h₀ env.locals s.heap m₀) (N : News h₀ env.locals s.heap (Led c₀)) (hwad : ∀ b ∈ wad, b ≠ d ∧ b < s.heap.objs.size) (hk : ∀ p ∈ ps c₀, m₀ p.1 = some p.2) (h0 : Inv 0 c₀)
    (turn : ∀ I i c v (u : Str → Option Value) h tk own, (∃ k y, kvs[i]? = some (k, y) ∧ knd.is k v = true) → Inv i c → OwnOff own wad → (∀ p ∈ Led c, p.1 ∉ [I]) → (∃ o, (I, o) ∈ own) → s.heap.objs.size ≤ I →
      Fr h₀ env.locals h (fun y => if y = x then some v else frOf stored u m₀ (ps c) y) → News h₀ env.locals h (Led c ++ own) →
      wpAny (model prog w) A (execs body env) (PostC h₀ env.locals [I] Led ps (fun z => z == x || stored.contains z) m₀ (Inv (i + 1)) own { s with heap := h, toks := tk } Q) E { s with heap := h, toks := tk })
    (done : ∀ c (u : Str → Option Value) h tk, Inv kvs.length c → Fr h₀ env.locals h (fun y => if y = x then u y else frOf stored u m₀ (ps c) y) → News h₀ env.locals h (Led c) → Q .next { s with heap := h, toks := tk }) :
    wpAny (model prog w) A (pyIter (.ref d)) (fun it s₂ => LoopAtV prog w A h₀ env x body Q E it s₂) E s := by
  obtain ⟨ep, hat⟩ := hd.dictAt
  have hlt : d < s.heap.objs.size := hat.lt_size
  refine wpAny_pyIter_dict lo hat ?_
  have W := Walks.dictKeys (prog := prog) (w := w) (knd := knd) (A := A) hh s.heap.objs.size d (Nat.ne_of_lt hlt) kvs ep
  have hLt : env.locals < s.heap.objs.size := F.ns.lt
  have lowW : ∀ b o, h₀.get? b = some o → b < s.heap.objs.size := fun b o e => Heap.lt_size (F.keep b o e)
  have := my_loop (s := { s with heap := s.heap.push { cls := .type "dict_keyiterator", data := .fields #[.ref d, .int 0 0, .int kvs.length 0, .int ep 0] } }) (body := body) (x := x) (Q := Q) (E := E) W Led ps stored wad Inv c₀
    (fun i h st b hb => by obtain ⟨⟨o, ho, _⟩, _⟩ := st; rw [List.mem_singleton.mp hb]; exact ⟨o, ho⟩)
    (fun hm => by
      rcases List.mem_cons.mp hm with e | hm
      · exact absurd hLt (e ▸ Nat.lt_irrefl _)
      · exact hlL (List.mem_singleton.mp hm).symm)
    (fun b hb => by
      rw [List.mem_singleton.mp hb]
      cases e : h₀.get? s.heap.objs.size with
      | none => rfl
      | some o => exact absurd (lowW _ _ e) (Nat.lt_irrefl _))
    (fun b hb hm => by
      obtain ⟨h1, h2⟩ := hwad b hb
      rcases List.mem_cons.mp hm with e | hm
      · exact absurd h2 (e ▸ Nat.lt_irrefl _)
      · exact h1 (List.mem_singleton.mp hm))
    ⟨⟨_, Heap.get?_push_size _ rfl, rfl, rfl⟩, hat.push _⟩ (F.push _) (fun p hp => ⟨Heap.get?_push_of_some _ (N p hp).1, (N p hp).2⟩)
    (fun p hp hm => absurd (Heap.lt_size (N p hp).1) (by rw [List.mem_singleton.mp hm]; exact Nat.lt_irrefl _)) hk h0
    (fun i c v u h tk own hi hP hI hs hnw ho F' N' => turn s.heap.objs.size i c v u h tk own hP hI hs hnw (own_of_wr ho) (Nat.le_refl _) F' N')
    (fun c u h tk hI F' N' => done c u h tk hI F' N')
  exact this

theorem iter_range {σ : Type} {r : Addr} {b₀ : Int} {t₀ u₀ v₀ : Tok} {n : Nat} {m₀ : Str → Option Value} (Led : σ → List (Addr × Obj)) (ps : σ → List (Str × Value)) (stored : List Str) (wad : List Addr) (Inv : Nat → σ → Prop) (c₀ : σ)
    (hh : A.handled = none) (hr : IsRange s.heap r 0 b₀ 1 t₀ u₀ v₀) (hsmall : Builtin.Range.small 0 b₀ 1 = true) (hn : Builtin.Range.rangeSize 0 b₀ 1 = (n : Int)) (F : Fr h₀ env.locals s.heap m₀) (N : News h₀ env.locals s.heap (Led c₀)) (hwad : ∀ b ∈ wad, b < s.heap.objs.size)
    (hk : ∀ p ∈ ps c₀, m₀ p.1 = some p.2) (h0 : Inv 0 c₀)
    (turn : ∀ I i c t (u : Str → Option Value) h tk own, i < n → Inv i c → OwnOff own wad → (∀ p ∈ Led c, p.1 ∉ [I]) → (∃ o, (I, o) ∈ own) → s.heap.objs.size ≤ I →
      Fr h₀ env.locals h (fun y => if y = x then some (.int (i : Int) t) else frOf stored u m₀ (ps c) y) → News h₀ env.locals h (Led c ++ own) →
      wpAny (model prog w) A (execs body env) (PostC h₀ env.locals [I] Led ps (fun z => z == x || stored.contains z) m₀ (Inv (i + 1)) own { s with heap := h, toks := tk } Q) E { s with heap := h, toks := tk })
    (done : ∀ c (u : Str → Option Value) h tk, Inv n c → Fr h₀ env.locals h (fun y => if y = x then u y else frOf stored u m₀ (ps c) y) → News h₀ env.locals h (Led c) → Q .next { s with heap := h, toks := tk }) :
    wpAny (model prog w) A (pyIter (.ref r)) (fun it s₂ => LoopAtV prog w A h₀ env x body Q E it s₂) E s := by
  refine wpAny_pyIter_range hr hsmall ?_
  have W : Walks prog w A s.heap.objs.size [s.heap.objs.size] [s.heap.objs.size] n (fun i v => i < n ∧ ∃ t, v = .int (0 + i * 1) t)
      (fun i h => IsRangeIter h s.heap.objs.size (0 + (i : Nat) * 1) ((n : Int) - (i : Nat)) 1) := (Walks.range hh _ 0 1 n).bound
  have hLt : env.locals < s.heap.objs.size := F.ns.lt
  have lowW : ∀ b o, h₀.get? b = some o → b < s.heap.objs.size := fun b o e => Heap.lt_size (F.keep b o e)
  refine my_loop W Led ps stored wad Inv c₀ (fun i h st b hb => by rw [List.mem_singleton.mp hb]; exact ⟨_, st⟩)
    (fun hm => absurd hLt (by rw [List.mem_singleton.mp hm]; exact Nat.lt_irrefl _))
    (fun b hb => by
      rw [List.mem_singleton.mp hb]
      cases e : h₀.get? s.heap.objs.size with
      | none => rfl
      | some o => exact absurd (lowW _ _ e) (Nat.lt_irrefl _))
    (fun b hb hm => absurd (hwad b hb) (by rw [List.mem_singleton.mp hm]; exact Nat.lt_irrefl _))
    (by show IsRangeIter _ _ _ _ _; rw [hn]; simpa using Heap.get?_push_size _ rfl) (F.push _) (fun p hp => ⟨Heap.get?_push_of_some _ (N p hp).1, (N p hp).2⟩)
    (fun p hp hm => absurd (Heap.lt_size (N p hp).1) (by rw [List.mem_singleton.mp hm]; exact Nat.lt_irrefl _)) hk h0 ?_ ?_
  · rintro i c v u h tk own hi ⟨_, t, rfl⟩ hI hs hnw ho F' N'
    have e1 : (0 : Int) + (i : Int) * 1 = (i : Int) := by omega
    rw [e1] at F'
    exact turn s.heap.objs.size i c t u h tk own hi hI hs hnw (own_of_wr ho) (Nat.le_refl _) F' N'
  · exact fun c u h tk hI F' N' => done c u h tk hI F' N'
end
end Mine

end
/-! Loop2 -/
section
open PySem PySem.W PySem.Calls PyProof.Rows
namespace Mine

section
variable {prog : Program} {w : World} {A : Around} {E : Value → Shared → Prop} {s : Shared} {env : Env} {h₀ : Heap} {target : PySem.Expr} {body : List Stmt} {Q : Flow → Shared → Prop}

def EndT {σ : Type} (h₀ : Heap) (L : Addr) (adr : List Addr) (Led : σ → List (Addr × Obj)) (ps : σ → List (Str × Value)) (stored : List Str) (m₀ : Str → Option Value) (Inv : σ → Prop) (own : List (Addr × Obj)) (s₁ s₂ : Shared) : Prop :=
  ∃ h' tk m' news' c', s₂ = { s₁ with heap := h', toks := tk } ∧ Fr h₀ L h' m' ∧ News h₀ L h' news' ∧ (∀ p ∈ Led c', p ∈ news') ∧ (∀ p ∈ own, p ∈ news') ∧ (Led c').map (·.1) = adr ∧ Inv c' ∧
    (∀ p ∈ ps c', m' p.1 = some p.2) ∧ ∀ z, stored.contains z = false → (∀ p ∈ ps c', z ≠ p.1) → m' z = m₀ z
def PostT {σ : Type} (h₀ : Heap) (L : Addr) (adr : List Addr) (Led : σ → List (Addr × Obj)) (ps : σ → List (Str × Value)) (stored : List Str) (m₀ : Str → Option Value) (Inv : σ → Prop) (own : List (Addr × Obj)) (s₁ : Shared)
    (Q : Flow → Shared → Prop) (f : Flow) (s₂ : Shared) : Prop :=
  match f with
  | .ret v => Q (.ret v) s₂
  | .brk => Q .next s₂
  | _ => EndT h₀ L adr Led ps stored m₀ Inv own s₁ s₂
theorem EndT.intro {σ : Type} {L : Addr} {adr : List Addr} {Led : σ → List (Addr × Obj)} {ps : σ → List (Str × Value)} {stored : List Str} {m₀ : Str → Option Value} {Inv : σ → Prop} {own news' : List (Addr × Obj)} {s₁ : Shared}
    {h' : Heap} {tk : Nat} {m' : Str → Option Value} (c' : σ) (F : Fr h₀ L h' m') (N : News h₀ L h' news') (hI : Inv c') (hn : ∀ p ∈ Led c', p ∈ news') (ho : ∀ p ∈ own, p ∈ news') (ha : (Led c').map (·.1) = adr)
    (hk : ∀ p ∈ ps c', m' p.1 = some p.2) (hr : ∀ z, stored.contains z = false → (∀ p ∈ ps c', z ≠ p.1) → m' z = m₀ z) : EndT h₀ L adr Led ps stored m₀ Inv own s₁ { s₁ with heap := h', toks := tk } :=
  ⟨h', tk, m', news', c', rfl, F, N, hn, ho, ha, hI, hk, hr⟩

theorem frOf_all {stored : List Str} {m₀ m₁ : Str → Option Value} {ps : List (Str × Value)} (h1 : ∀ p ∈ ps, m₁ p.1 = some p.2) (h2 : ∀ z, stored.contains z = false → (∀ p ∈ ps, z ≠ p.1) → m₁ z = m₀ z) : frOf stored m₁ m₀ ps = m₁ := by
  funext y
  refine kstB_eq h1 fun hn => ?_
  show (if stored.contains y = true then m₁ y else m₀ y) = m₁ y
  cases h3 : stored.contains y with
  | true => simp
  | false =>
    simp only [Bool.false_eq_true, if_false]
    exact (h2 y h3 hn).symm

theorem unr_inv {σ : Type} {fp : List Addr} {n : Nat} {P : Nat → Value → Prop} {m₀ : Str → Option Value} (Led : σ → List (Addr × Obj)) (ps : σ → List (Str × Value)) (stored : List Str) (wad : List Addr) (Inv : Nat → σ → Prop)
    (hwad : ∀ b ∈ wad, b ∉ fp)
    (turn : ∀ i c v (u : Str → Option Value) h tk own, i < n → P i v → Inv i c → OwnOff own wad → Fr h₀ env.locals h (frOf stored u m₀ (ps c)) → News h₀ env.locals h (Led c ++ own) →
      wpAny (model prog w) A (assign target env v) (fun _ s₂ => wpAny (model prog w) A (execs body env) (PostT h₀ env.locals ((Led c).map (·.1)) Led ps stored m₀ (Inv (i + 1)) own { s with heap := h, toks := tk } Q) E s₂) E { s with heap := h, toks := tk })
    (done : ∀ c (u : Str → Option Value) h tk, Inv n c → Fr h₀ env.locals h (frOf stored u m₀ (ps c)) → News h₀ env.locals h (Led c) → Q .next { s with heap := h, toks := tk }) :
    ∀ (k i : Nat) (m₁ : Str → Option Value) (c : σ), i + k = n → Inv i c → (∀ p ∈ ps c, m₁ p.1 = some p.2) → (∀ z, stored.contains z = false → (∀ p ∈ ps c, z ≠ p.1) → m₁ z = m₀ z) →
      Unr prog w A E h₀ env target body Q P fp s k i m₁ (Led c)
  | 0, i, m₁, c, e, hI, h1, h2 => by
    refine Unr.zero fun h' tk F N => ?_
    have e' : i = n := by omega
    subst e'
    exact done c m₁ h' tk hI (by rw [frOf_all h1 h2]; exact F) N
  | k + 1, i, m₁, c, e, hI, h1, h2 => by
    refine Unr.succ fun v h₁ tk₁ own hP hown F N => ?_
    have hsep : OwnOff own wad := fun p hp b hb e => hwad b hb (e ▸ hown p hp)
    have N₂ : News h₀ env.locals h₁ (Led c ++ own) := fun p hp => N p ((List.mem_append.mp hp).elim (fun h => List.mem_append.mpr (.inr h)) fun h => List.mem_append.mpr (.inl h))
    refine wpAny_mono (turn i c v m₁ h₁ tk₁ own (by omega) hP hI hsep (by rw [frOf_all h1 h2]; exact F) N₂) (fun _ s₂ hs₂ => wpAny_mono hs₂ (fun f s₃ p => ?_) fun _ _ e => e) fun _ _ e => e
    have fin : EndT h₀ env.locals ((Led c).map (·.1)) Led ps stored m₀ (Inv (i + 1)) own { s with heap := h₁, toks := tk₁ } s₃ →
        LoopStep2 h₀ env.locals own (Led c) (Unr prog w A E h₀ env target body Q P fp s k (i + 1)) { s with heap := h₁, toks := tk₁ } .next s₃ := by
      rintro ⟨h', tk, m', news', c', e', F', N', hn, ho, ha, hI', hk', hr⟩
      exact ⟨rfl, h', tk, m', Led c', e', F', fun p hp => N' p ((List.mem_append.mp hp).elim (ho p) (hn p)), ha, unr_inv Led ps stored wad Inv hwad turn done k (i + 1) m' c' (by omega) hI' hk' hr⟩
    cases f with
    | ret v => exact .ret p
    | brk => exact .brk p
    | next => exact .next (fin p)
    | cont => exact .cont (fin p)

theorem unr_list {σ : Type} {l : Addr} {vs : List Value} {m₀ : Str → Option Value} (Led : σ → List (Addr × Obj)) (ps : σ → List (Str × Value)) (stored : List Str) (wad : List Addr) (Inv : Nat → σ → Prop) (c₀ : σ)
    (hh : A.handled = none) (hl : s.heap.IsList l vs.toArray) (hlL : l ≠ env.locals) (F : Fr h₀ env.locals s.heap m₀) (N : News h₀ env.locals s.heap (Led c₀)) (hwad : ∀ b ∈ wad, b ≠ l ∧ b < s.heap.objs.size) (hk : ∀ p ∈ ps c₀, m₀ p.1 = some p.2) (h0 : Inv 0 c₀)
    (turn : ∀ i c v (u : Str → Option Value) h tk own, vs[i]? = some v → Inv i c → OwnOff own wad → Fr h₀ env.locals h (frOf stored u m₀ (ps c)) → News h₀ env.locals h (Led c ++ own) →
      wpAny (model prog w) A (assign target env v) (fun _ s₂ => wpAny (model prog w) A (execs body env) (PostT h₀ env.locals ((Led c).map (·.1)) Led ps stored m₀ (Inv (i + 1)) own { s with heap := h, toks := tk } Q) E s₂) E { s with heap := h, toks := tk })
    (done : ∀ c (u : Str → Option Value) h tk, Inv vs.length c → Fr h₀ env.locals h (frOf stored u m₀ (ps c)) → News h₀ env.locals h (Led c) → Q .next { s with heap := h, toks := tk }) :
    wpAny (model prog w) A (pyIter (.ref l)) (fun it s₂ => UnrAt prog w A h₀ env target body Q E it s₂) E s := by
  refine Iter_list_unr hh hl F N hlL ?_
  have := unr_inv (target := target) (body := body) (s := { s with heap := s.heap.push { cls := .type "list_iterator", data := .fields #[.ref l, .int 0 0] } }) (fp := [s.heap.objs.size, l]) (n := vs.length) (P := fun i v => vs.toArray[i]? = some v) (E := E) (Q := Q) (A := A) (prog := prog) (w := w) (env := env) (h₀ := h₀) (m₀ := m₀)
    Led ps stored wad Inv (fun b hb hm => by
      obtain ⟨h1, h2⟩ := hwad b hb
      rcases List.mem_cons.mp hm with e | hm
      · exact absurd h2 (e ▸ Nat.lt_irrefl _)
      · exact h1 (List.mem_singleton.mp hm))
    (fun i c v u h tk own _ hP hI hs F' N' => turn i c v u h tk own (by simpa using hP) hI hs F' N') (fun c u h tk hI F' N' => done c u h tk hI F' N') vs.length 0 m₀ c₀ (Nat.zero_add _) h0 hk fun _ _ _ => rfl
  simpa using this

theorem unr_range {σ : Type} {x : Str} {px : Pos} {r : Addr} {b₀ : Int} {t₀ u₀ v₀ : Tok} {n : Nat} {m₀ : Str → Option Value} (Led : σ → List (Addr × Obj)) (ps : σ → List (Str × Value)) (stored : List Str) (wad : List Addr) (Inv : Nat → σ → Prop) (c₀ : σ)
    (hh : A.handled = none) (hr : IsRange s.heap r 0 b₀ 1 t₀ u₀ v₀) (hsmall : Builtin.Range.small 0 b₀ 1 = true) (hn : Builtin.Range.rangeSize 0 b₀ 1 = (n : Int)) (F : Fr h₀ env.locals s.heap m₀) (N : News h₀ env.locals s.heap (Led c₀)) (hwad : ∀ b ∈ wad, b < s.heap.objs.size)
    (hk : ∀ p ∈ ps c₀, m₀ p.1 = some p.2) (h0 : Inv 0 c₀)
    (turn : ∀ i c t (u : Str → Option Value) h tk own, i < n → Inv i c → OwnOff own wad → Fr h₀ env.locals h (frOf stored u m₀ (ps c)) → News h₀ env.locals h (Led c ++ own) →
      wpAny (model prog w) A (assign (.Name x px) env (.int (i : Int) t)) (fun _ s₂ => wpAny (model prog w) A (execs body env) (PostT h₀ env.locals ((Led c).map (·.1)) Led ps stored m₀ (Inv (i + 1)) own { s with heap := h, toks := tk } Q) E s₂) E { s with heap := h, toks := tk })
    (done : ∀ c (u : Str → Option Value) h tk, Inv n c → Fr h₀ env.locals h (frOf stored u m₀ (ps c)) → News h₀ env.locals h (Led c) → Q .next { s with heap := h, toks := tk }) :
    wpAny (model prog w) A (pyIter (.ref r)) (fun it s₂ => UnrAt prog w A h₀ env (.Name x px) body Q E it s₂) E s := by
  refine wpAny_pyIter_range hr hsmall ?_
  have W : Walks prog w A s.heap.objs.size [s.heap.objs.size] [s.heap.objs.size] n (fun i v => i < n ∧ ∃ t, v = .int (0 + i * 1) t)
      (fun i h => IsRangeIter h s.heap.objs.size (0 + (i : Nat) * 1) ((n : Int) - (i : Nat)) 1) := (Walks.range hh _ 0 1 n).bound
  refine ⟨s.heap.objs.size, [s.heap.objs.size], [s.heap.objs.size], n, _, _, m₀, Led c₀, rfl, W, ?_, ?_, ?_, (by show IsRangeIter _ _ _ _ _; rw [hn]; simpa using Heap.get?_push_size _ rfl), F.push _, (fun p hp => ⟨Heap.get?_push_of_some _ (N p hp).1, (N p hp).2⟩), fun _ _ _ _ _ hq => wpAny_pure hq, ?_⟩
  · intro hm
    exact absurd F.ns.lt ((List.mem_singleton.mp hm) ▸ Nat.lt_irrefl _)
  · intro b hb
    rw [List.mem_singleton.mp hb]
    exact Heap.get?_none_of_le (Nat.le_of_lt (Nat.lt_of_le_of_lt F.above F.ns.lt))
  · intro p hp hI
    exact absurd (Heap.lt_size (N p hp).1) ((List.mem_singleton.mp hI) ▸ Nat.lt_irrefl _)
  · refine unr_inv (s := { s with heap := s.heap.push { cls := .type "range_iterator", data := .fields #[rawInt 0, rawInt (Builtin.Range.rangeSize 0 b₀ 1), rawInt 1] } }) Led ps stored wad Inv (fun b hb hm => absurd (hwad b hb) (by rw [List.mem_singleton.mp hm]; exact Nat.lt_irrefl _)) ?_ (fun c u h tk hI F' N' => done c u h tk hI F' N') n 0 m₀ c₀ (Nat.zero_add _) h0 hk fun _ _ _ => rfl
    rintro i c v u h tk own hi ⟨_, t, rfl⟩ hI hs F' N'
    have e1 : (0 : Int) + (i : Int) * 1 = (i : Int) := by omega
    rw [e1]
    exact turn i c t u h tk own hi hI hs F' N'
end
end Mine

end
/-! Comp1 -/
section
open PySem PySem.W PySem.Calls PyProof.Rows
namespace Mine

def intP (pz : Int → Bool) : Value → Bool
  | .int a _ => pz a
  | _ => false
def intF (f : Int → Int) (v y : Value) : Prop := ∃ a t u, v = .int a t ∧ y = .int (f a) u

theorem paired_intsAre (pz : Int → Bool) (f : Int → Int) : ∀ (vs ys : List Value) (ns : List Int), IntsAre vs ns → Paired (intF f) (vs.filter (intP pz)) ys → IntsAre ys ((ns.filter pz).map f)
  | _, _, _, .nil, h => by cases h; exact .nil
  | _, ys, _, .cons n t (vs := vs) (ns := ns) hi, h => by
    cases hp : pz n with
    | false =>
      rw [List.filter_cons_of_neg (by simp [intP, hp])] at h
      rw [List.filter_cons_of_neg (by simp [hp])]
      exact paired_intsAre pz f vs ys ns hi h
    | true =>
      rw [List.filter_cons_of_pos (by simp [intP, hp])] at h
      rw [List.filter_cons_of_pos hp, List.map_cons]
      cases h with
      | cons hF ht =>
        obtain ⟨a, t', u, e, rfl⟩ := hF
        cases e
        exact .cons _ _ (paired_intsAre pz f vs _ ns hi ht)

theorem intsAre_of_places : ∀ {vs : List Value} {ns : List Int}, vs.length = ns.length → (∀ (j : Nat) (v : Value), vs[j]? = some v → ∃ (n : Int) (t : Tok), ns[j]? = some n ∧ v = Value.int n t) → IntsAre vs ns
  | [], [], _, _ => .nil
  | v :: vs, n :: ns, hl, h => by
    obtain ⟨n', t, e, rfl⟩ := h 0 v rfl
    simp only [List.getElem?_cons_zero, Option.some.injEq] at e
    subst e
    exact .cons _ _ (intsAre_of_places (by simpa using hl) fun j u hu => by simpa using h (j + 1) u (by simpa using hu))
  | [], _ :: _, hl, _ => by simp at hl
  | _ :: _, [], hl, _ => by simp at hl

section
variable {prog : Program} {w : World} {A : Around} {E : Value → Shared → Prop} {s : Shared} {env : Env} {h₀ : Heap} {L : Addr} {m : Str → Option Value} {news : List (Addr × Obj)}

/-- the block's tests and element over a source of ints -/
structure OnInts (prog : Program) (w : World) (A : Around) (env : Env) (scope : Scope) (cl : List (Str × Addr)) (x : Str) (ifs : List Expr) (elt : Expr) (src : List Int) (pz : Int → Bool) (f : Int → Int) (s : Shared) : Prop where
  tests : ∀ C n t s₃ m₃ E', s.heap.objs.size ≤ C → n ∈ src → s₃.heap.Ns C m₃ → m₃ x = some (.int n t) → (∀ b o, s.heap.get? b = some o → s₃.heap.get? b = some o) →
    wpAny (model prog w) A (forIn ifs true fun c r => if r = true then do let ok ← isTrue c (compEnvC scope cl C env) (eval c (compEnvC scope cl C env)); pure (ForInStep.yield ok) else pure (ForInStep.yield r))
      (fun ok s₄ => ok = pz n ∧ Keeps s₃ s₄) E' s₃
  elt : ∀ C n t s₃ m₃ E', s.heap.objs.size ≤ C → n ∈ src → pz n = true → s₃.heap.Ns C m₃ → m₃ x = some (.int n t) → (∀ b o, s.heap.get? b = some o → s₃.heap.get? b = some o) →
    wpAny (model prog w) A (eval elt (compEnvC scope cl C env)) (fun y s₄ => (∃ u, y = .int (f n) u) ∧ Keeps s₃ s₄) E' s₃

theorem comp_core {scope : Scope} {cl : List (Str × Addr)} {x : Str} {ifs : List Expr} {elt : Expr} {src : List Int} {pz : Int → Bool} {f : Int → Int} {Q : Value → Shared → Prop} {I : Addr} {fp wr : List Addr} {P : Nat → Value → Prop} {St : Nat → Heap → Prop} {s₂ : Shared} {n : Nat}
    (W : Walks prog w A I fp wr n P St) (hn : n = src.length) (hsz : src.length ≤ 16777216) (hst : St 0 s₂.heap) (hfp : ∀ b ∈ fp, b < s₂.heap.objs.size) (hP : ∀ (i : Nat) (v : Value), P i v → ∃ (n : Int) (t : Tok), src[i]? = some n ∧ v = Value.int n t)
    (hold : ∀ b o, s.heap.get? b = some o → b ∉ wr ∧ s₂.heap.get? b = some o) (hs : s.heap.objs.size ≤ s₂.heap.objs.size) (hse : ∃ h tk, s₂ = { s with heap := h, toks := tk })
    (F : Fr h₀ L s.heap m) (N : News h₀ L s.heap news) (hq : OnInts prog w A env scope cl x ifs elt src pz f s)
    (k : ∀ D ys c h' tk, Fr h₀ L h' m → News h₀ L h' ((D, listOf (List.toArray ys) c) :: news) → (∀ q ∈ news, q.1 ≠ D) → s.heap.get? D = none → IntsAre ys ((src.filter pz).map f) → Q (.ref D) { s with heap := h', toks := tk }) :
    ∃ I' fp wr n P St, Value.ref I = .ref I' ∧ Walks prog w A I' fp wr n P St ∧ n ≤ sizeLine ∧ St 0 s₂.heap ∧ (∀ b ∈ fp, b < s₂.heap.objs.size) ∧
      QuietOnC prog w A env scope cl x ifs elt wr P (intP pz) (intF f) s₂ ∧
      (∀ D h' tk ys (vs : List Value), s₂.heap.get? D = none → h'.IsList D ys → h'.PlainList D ys → vs.length = n → (∀ j v, vs[j]? = some v → P j v) → Paired (intF f) (vs.filter (intP pz)) ys.toList →
        (∀ b o, b ∉ wr → s₂.heap.get? b = some o → h'.get? b = some o) → Q (.ref D) { s₂ with heap := h', toks := tk }) := by
  subst hn
  refine ⟨I, fp, wr, _, P, St, rfl, W, by rw [sizeLine_eq]; exact hsz, hst, hfp, ⟨?_, ?_⟩, ?_⟩
  · intro C i v s₃ m₃ E' hC hPv hn hm hk _
    obtain ⟨n, t, hsrc, rfl⟩ := hP i v hPv
    exact hq.tests C n t s₃ m₃ E' (Nat.le_trans hs hC) (List.mem_of_getElem? hsrc) hn hm fun b o e => hk b o (hold b o e).1 (hold b o e).2
  · intro C i v s₃ m₃ E' hC hPv hp hn hm hk _
    obtain ⟨n, t, hsrc, rfl⟩ := hP i v hPv
    exact wpAny_mono (hq.elt C n t s₃ m₃ E' (Nat.le_trans hs hC) (List.mem_of_getElem? hsrc) hp hn hm fun b o e => hk b o (hold b o e).1 (hold b o e).2) (fun y s₄ h₄ => ⟨by obtain ⟨⟨u, rfl⟩, _⟩ := h₄; exact ⟨n, t, u, rfl, rfl⟩, h₄.2⟩) fun _ _ e => e
  · intro D h' tk ys vs hD _ hpl hlen hPs hpr hk
    have keep : ∀ b o, s.heap.get? b = some o → h'.get? b = some o := fun b o e => hk b o (hold b o e).1 (hold b o e).2
    have hDn : s.heap.get? D = none := by
      cases e : s.heap.get? D with
      | none => rfl
      | some o => rw [(hold D o e).2] at hD; cases hD
    obtain ⟨c, hc⟩ := hpl
    have hvs : IntsAre vs src := intsAre_of_places hlen fun j v e => hP j v (hPs j v e)
    have F' := F.keeps keep
    have N' := N.grown keep
    obtain ⟨h2, tk2, rfl⟩ := hse
    refine k D ys.toList c h' tk F' (fun p hp => ?_) (fun q hq e => ?_) hDn (paired_intsAre pz f vs ys.toList src hvs hpr)
    · rcases List.mem_cons.mp hp with rfl | hp
      · refine ⟨by rw [Array.toArray_toList]; exact hc, fun e => ?_, ?_⟩
        · obtain ⟨oL, _, _, hoL, _⟩ := F.ns
          have : s.heap.get? L = none := by rw [← e]; exact hDn
          rw [hoL] at this; cases this
        · cases e : h₀.get? D with
          | none => rfl
          | some o => rw [F.keep D o e] at hDn; cases hDn
      · exact N' p hp
    · have := (N q hq).1
      rw [e, hDn] at this; cases this

theorem comp_list {scope : Scope} {cl : List (Str × Addr)} {x : Str} {ifs : List Expr} {elt : Expr} {src : List Int} {vs : List Value} {pz : Int → Bool} {f : Int → Int} {Q : Value → Shared → Prop} {l : Addr}
    (hh : A.handled = none) (hl : s.heap.IsList l vs.toArray) (hi : IntsAre vs src) (hsz : src.length ≤ 16777216)
    (F : Fr h₀ L s.heap m) (N : News h₀ L s.heap news) (hq : OnInts prog w A env scope cl x ifs elt src pz f s)
    (k : ∀ D ys c h' tk, Fr h₀ L h' m → News h₀ L h' ((D, listOf (List.toArray ys) c) :: news) → (∀ q ∈ news, q.1 ≠ D) → s.heap.get? D = none → IntsAre ys ((src.filter pz).map f) → Q (.ref D) { s with heap := h', toks := tk }) :
    wpAny (model prog w) A (pyIter (.ref l)) (fun it s₂ => ∃ I fp wr n P St, it = .ref I ∧ Walks prog w A I fp wr n P St ∧ n ≤ sizeLine ∧ St 0 s₂.heap ∧ (∀ b ∈ fp, b < s₂.heap.objs.size) ∧
      QuietOnC prog w A env scope cl x ifs elt wr P (intP pz) (intF f) s₂ ∧
      (∀ D h' tk ys (vs : List Value), s₂.heap.get? D = none → h'.IsList D ys → h'.PlainList D ys → vs.length = n → (∀ j v, vs[j]? = some v → P j v) → Paired (intF f) (vs.filter (intP pz)) ys.toList →
        (∀ b o, b ∉ wr → s₂.heap.get? b = some o → h'.get? b = some o) → Q (.ref D) { s₂ with heap := h', toks := tk })) E s := by
  obtain ⟨ol, hol, _⟩ := id hl
  have hlt : l < s.heap.objs.size := Heap.lt_size hol
  refine wpAny_pyIter_list hl ?_
  refine comp_core (s := s) (s₂ := { s with heap := s.heap.push { cls := .type "list_iterator", data := .fields #[.ref l, .int 0 0] } }) (Walks.list hh s.heap.objs.size l (Nat.ne_of_lt hlt) vs.toArray) (by simp [hi.length]) hsz
    ⟨⟨_, Heap.get?_push_size _ rfl, rfl, rfl⟩, hl.at fun o e => Heap.get?_push_of_some _ e⟩ (fun b hb => ?_) (fun i v e => ?_) (fun b o e => ⟨fun hm => absurd (Heap.lt_size e) (by rw [List.mem_singleton.mp hm]; exact Nat.lt_irrefl _), Heap.get?_push_of_some _ e⟩)
    (by rw [Heap.size_push]; exact Nat.le_succ _) ⟨_, _, rfl⟩ F N hq k
  · show b < (s.heap.push _).objs.size
    rw [Heap.size_push]
    rcases List.mem_cons.mp hb with rfl | hb
    · exact Nat.lt_succ_self _
    · rw [List.mem_singleton.mp hb]; exact Nat.lt_succ_of_lt hlt
  · have e' : vs[i]? = some v := by simpa using e
    have hlen : i < src.length := by rw [← hi.length]; exact (List.getElem?_eq_some_iff.mp e').1
    obtain ⟨t, ht⟩ := hi.get i src[i] (by simp [hlen])
    rw [e'] at ht
    exact ⟨_, t, by simp [hlen], Option.some.inj ht⟩

theorem comp_dict {kvs : List (Int × Value)} {scope : Scope} {cl : List (Str × Addr)} {x : Str} {ifs : List Expr} {elt : Expr} {src : List Int} {pz : Int → Bool} {f : Int → Int} {Q : Value → Shared → Prop} {d : Addr}
    (hh : A.handled = none) (lo : (d == sysModules) = false) (hd : s.heap.DictOf (PySem.intKind prog w) d kvs) (hsrc : src = kvs.map (·.1)) (hsz : src.length ≤ 16777216)
    (F : Fr h₀ L s.heap m) (N : News h₀ L s.heap news) (hq : OnInts prog w A env scope cl x ifs elt src pz f s)
    (k : ∀ D ys c h' tk, Fr h₀ L h' m → News h₀ L h' ((D, listOf (List.toArray ys) c) :: news) → (∀ q ∈ news, q.1 ≠ D) → s.heap.get? D = none → IntsAre ys ((src.filter pz).map f) → Q (.ref D) { s with heap := h', toks := tk }) :
    wpAny (model prog w) A (pyIter (.ref d)) (fun it s₂ => ∃ I fp wr n P St, it = .ref I ∧ Walks prog w A I fp wr n P St ∧ n ≤ sizeLine ∧ St 0 s₂.heap ∧ (∀ b ∈ fp, b < s₂.heap.objs.size) ∧
      QuietOnC prog w A env scope cl x ifs elt wr P (intP pz) (intF f) s₂ ∧
      (∀ D h' tk ys (vs : List Value), s₂.heap.get? D = none → h'.IsList D ys → h'.PlainList D ys → vs.length = n → (∀ j v, vs[j]? = some v → P j v) → Paired (intF f) (vs.filter (intP pz)) ys.toList →
        (∀ b o, b ∉ wr → s₂.heap.get? b = some o → h'.get? b = some o) → Q (.ref D) { s₂ with heap := h', toks := tk })) E s := by
  obtain ⟨ep, hat⟩ := hd.dictAt
  have hlt : d < s.heap.objs.size := hat.lt_size
  refine wpAny_pyIter_dict lo hat ?_
  refine comp_core (s := s) (s₂ := { s with heap := s.heap.push { cls := .type "dict_keyiterator", data := .fields #[.ref d, .int 0 0, .int kvs.length 0, .int ep 0] } }) (Walks.dictKeys hh s.heap.objs.size d (Nat.ne_of_lt hlt) kvs ep) (by simp [hsrc]) hsz
    ⟨⟨_, Heap.get?_push_size _ rfl, rfl, rfl⟩, hat.push _⟩ (fun b hb => ?_) (fun i v e => ?_) (fun b o e => ⟨fun hm => absurd (Heap.lt_size e) (by rw [List.mem_singleton.mp hm]; exact Nat.lt_irrefl _), Heap.get?_push_of_some _ e⟩)
    (by rw [Heap.size_push]; exact Nat.le_succ _) ⟨_, _, rfl⟩ F N hq k
  · show b < (s.heap.push _).objs.size
    rw [Heap.size_push]
    rcases List.mem_cons.mp hb with rfl | hb
    · exact Nat.lt_succ_self _
    · rw [List.mem_singleton.mp hb]; exact Nat.lt_succ_of_lt hlt
  · obtain ⟨n, y, hx, hk⟩ := e
    obtain ⟨t, rfl⟩ := Value.isInt_shape hk
    exact ⟨n, t, by rw [hsrc, List.getElem?_map, hx]; rfl, rfl⟩

theorem comp_range {scope : Scope} {cl : List (Str × Addr)} {x : Str} {ifs : List Expr} {elt : Expr} {n : Nat} {pz : Int → Bool} {f : Int → Int} {Q : Value → Shared → Prop} {r : Addr} {b₀ : Int} {t₀ u₀ v₀ : Tok}
    (hh : A.handled = none) (hr : IsRange s.heap r 0 b₀ 1 t₀ u₀ v₀) (hsmall : Builtin.Range.small 0 b₀ 1 = true) (hn : Builtin.Range.rangeSize 0 b₀ 1 = (n : Int)) (hsz : n ≤ 16777216)
    (F : Fr h₀ L s.heap m) (N : News h₀ L s.heap news) (hq : OnInts prog w A env scope cl x ifs elt ((List.range n).map (Int.ofNat ·)) pz f s)
    (k : ∀ D ys c h' tk, Fr h₀ L h' m → News h₀ L h' ((D, listOf (List.toArray ys) c) :: news) → (∀ q ∈ news, q.1 ≠ D) → s.heap.get? D = none → IntsAre ys ((((List.range n).map (Int.ofNat ·)).filter pz).map f) → Q (.ref D) { s with heap := h', toks := tk }) :
    wpAny (model prog w) A (pyIter (.ref r)) (fun it s₂ => ∃ I fp wr n P St, it = .ref I ∧ Walks prog w A I fp wr n P St ∧ n ≤ sizeLine ∧ St 0 s₂.heap ∧ (∀ b ∈ fp, b < s₂.heap.objs.size) ∧
      QuietOnC prog w A env scope cl x ifs elt wr P (intP pz) (intF f) s₂ ∧
      (∀ D h' tk ys (vs : List Value), s₂.heap.get? D = none → h'.IsList D ys → h'.PlainList D ys → vs.length = n → (∀ j v, vs[j]? = some v → P j v) → Paired (intF f) (vs.filter (intP pz)) ys.toList →
        (∀ b o, b ∉ wr → s₂.heap.get? b = some o → h'.get? b = some o) → Q (.ref D) { s₂ with heap := h', toks := tk })) E s := by
  refine wpAny_pyIter_range hr hsmall ?_
  have W : Walks prog w A s.heap.objs.size [s.heap.objs.size] [s.heap.objs.size] n (fun i v => i < n ∧ ∃ t, v = .int (0 + i * 1) t)
      (fun i h => IsRangeIter h s.heap.objs.size (0 + (i : Nat) * 1) ((n : Int) - (i : Nat)) 1) := (Walks.range hh _ 0 1 n).bound
  refine comp_core (s := s) (src := (List.range n).map (Int.ofNat ·)) W (by simp) (by simpa using hsz)
    (by show IsRangeIter _ _ _ _ _; rw [hn]; simpa using Heap.get?_push_size _ rfl) (fun b hb => ?_) (fun i v e => ?_) (fun b o e => ⟨fun hm => absurd (Heap.lt_size e) (by rw [List.mem_singleton.mp hm]; exact Nat.lt_irrefl _), Heap.get?_push_of_some _ e⟩)
    (by rw [Heap.size_push]; exact Nat.le_succ _) ⟨_, _, rfl⟩ F N hq k
  · show b < (s.heap.push _).objs.size
    rw [Heap.size_push]
    rw [List.mem_singleton.mp hb]; exact Nat.lt_succ_self _
  · obtain ⟨hi, t, rfl⟩ := e
    refine ⟨(i : Int), t, by simp [hi], by congr 1; omega⟩

/-- what a source of ints must tell -/
structure CompSrcI (prog : Program) (w : World) (A : Around) (env : Env) (scope : Scope) (cl : List (Str × Addr)) (x : Str) (ifs : List Expr) (elt : Expr) (pz : Int → Bool) (f : Int → Int) (Q : Value → Shared → Prop) (E : Value → Shared → Prop) (xv : Value) (s : Shared) : Prop where
  go : wpAny (model prog w) A (pyIter xv) (fun it s₂ => ∃ I fp wr n P St, it = .ref I ∧ Walks prog w A I fp wr n P St ∧ n ≤ sizeLine ∧ St 0 s₂.heap ∧ (∀ b ∈ fp, b < s₂.heap.objs.size) ∧
      QuietOnC prog w A env scope cl x ifs elt wr P (intP pz) (intF f) s₂ ∧
      (∀ D h' tk ys (vs : List Value), s₂.heap.get? D = none → h'.IsList D ys → h'.PlainList D ys → vs.length = n → (∀ j v, vs[j]? = some v → P j v) → Paired (intF f) (vs.filter (intP pz)) ys.toList →
        (∀ b o, b ∉ wr → s₂.heap.get? b = some o → h'.get? b = some o) → Q (.ref D) { s₂ with heap := h', toks := tk })) E s

theorem ListComp_ints {elt iter : Expr} {x : Str} {px : Pos} {ifs : List Expr} {scope : Scope} {cl : List (Str × Addr)} {pos : Pos} {Q : Value → Shared → Prop} (pz : Int → Bool) (f : Int → Int)
    (hclos : closureFor scope env = pure cl) (hcell : ∀ y ∈ scope.names, y.2 ≠ .cell) (hkind : scope.kind = .function)
    (hnames : ∀ y ∈ scope.names, y.2 = .local → scope.names.lookup y.1 = some .local) (hx : scope.names.lookup x = some .local)
    (h : wpAny (model prog w) A (eval iter env) (fun xv s₁ => CompSrcI prog w A env scope cl x ifs elt pz f Q E xv s₁) E s)
    (hs : ∀ x, foldedSetIterable iter env x = pure x) :
    wpAny (model prog w) A (eval (.ListComp elt [⟨.Name x px, iter, ifs, 0⟩] scope pos) env) Q E s :=
  wpAny_ListComp_free (intP pz) (intF f) hclos hcell hkind hnames hx (wpAny_mono h (fun _ _ h₁ => h₁.go) fun _ _ e => e) hs

section
variable {scope : Scope} {cl : List (Str × Addr)} {x : Str} {ifs : List Expr} {elt : Expr} {src : List Int} {vs : List Value} {pz : Int → Bool} {f : Int → Int} {Q : Value → Shared → Prop}
theorem CompSrcI.list {l : Addr}
    (hh : A.handled = none) (hl : s.heap.IsList l vs.toArray) (hi : IntsAre vs src) (hsz : src.length ≤ 16777216)
    (F : Fr h₀ L s.heap m) (N : News h₀ L s.heap news) (hq : OnInts prog w A env scope cl x ifs elt src pz f s)
    (k : ∀ D ys c h' tk, Fr h₀ L h' m → News h₀ L h' ((D, listOf (List.toArray ys) c) :: news) → (∀ q ∈ news, q.1 ≠ D) → s.heap.get? D = none → IntsAre ys ((src.filter pz).map f) → Q (.ref D) { s with heap := h', toks := tk }) :
    CompSrcI prog w A env scope cl x ifs elt pz f Q E (.ref l) s := ⟨comp_list hh hl hi hsz F N hq k⟩
theorem CompSrcI.dict {kvs : List (Int × Value)} {d : Addr}
    (hh : A.handled = none) (lo : (d == sysModules) = false) (hd : s.heap.DictOf (PySem.intKind prog w) d kvs) (hsrc : src = kvs.map (·.1)) (hsz : src.length ≤ 16777216)
    (F : Fr h₀ L s.heap m) (N : News h₀ L s.heap news) (hq : OnInts prog w A env scope cl x ifs elt src pz f s)
    (k : ∀ D ys c h' tk, Fr h₀ L h' m → News h₀ L h' ((D, listOf (List.toArray ys) c) :: news) → (∀ q ∈ news, q.1 ≠ D) → s.heap.get? D = none → IntsAre ys ((src.filter pz).map f) → Q (.ref D) { s with heap := h', toks := tk }) :
    CompSrcI prog w A env scope cl x ifs elt pz f Q E (.ref d) s := ⟨comp_dict hh lo hd hsrc hsz F N hq k⟩
theorem CompSrcI.range {n : Nat} {r : Addr} {b₀ : Int} {t₀ u₀ v₀ : Tok}
    (hh : A.handled = none) (hr : IsRange s.heap r 0 b₀ 1 t₀ u₀ v₀) (hsmall : Builtin.Range.small 0 b₀ 1 = true) (hn : Builtin.Range.rangeSize 0 b₀ 1 = (n : Int)) (hsz : n ≤ 16777216)
    (F : Fr h₀ L s.heap m) (N : News h₀ L s.heap news) (hq : OnInts prog w A env scope cl x ifs elt ((List.range n).map (Int.ofNat ·)) pz f s)
    (k : ∀ D ys c h' tk, Fr h₀ L h' m → News h₀ L h' ((D, listOf (List.toArray ys) c) :: news) → (∀ q ∈ news, q.1 ≠ D) → s.heap.get? D = none → IntsAre ys ((((List.range n).map (Int.ofNat ·)).filter pz).map f) → Q (.ref D) { s with heap := h', toks := tk }) :
    CompSrcI prog w A env scope cl x ifs elt pz f Q E (.ref r) s := ⟨comp_range hh hr hsmall hn hsz F N hq k⟩
end

/-- the same where the list is handed to a name at once -/
structure CompSrcA (prog : Program) (w : World) (A : Around) (env : Env) (scope : Scope) (cl : List (Str × Addr)) (x y : Str) (ifs : List Expr) (elt : Expr) (pz : Int → Bool) (f : Int → Int) (Q : Flow → Shared → Prop) (E : Value → Shared → Prop) (xv : Value) (s : Shared) : Prop where
  go : wpAny (model prog w) A (pyIter xv) (fun it s₂ => ∃ I fp wr n P St m, it = .ref I ∧ Walks prog w A I fp wr n P St ∧ n ≤ sizeLine ∧ St 0 s₂.heap ∧ (∀ b ∈ fp, b < s₂.heap.objs.size) ∧
      env.locals ∉ wr ∧ s₂.heap.Ns env.locals m ∧ QuietOnC prog w A env scope cl x ifs elt wr P (intP pz) (intF f) s₂ ∧
      (∀ D h' tk ys (vs : List Value), s₂.heap.get? D = none → h'.IsList D ys → h'.PlainList D ys → vs.length = n → (∀ j v, vs[j]? = some v → P j v) → Paired (intF f) (vs.filter (intP pz)) ys.toList →
        h'.Ns env.locals (fun z => if z = y then some (.ref D) else m z) → (∀ b o, b ≠ env.locals → b ∉ wr → s₂.heap.get? b = some o → h'.get? b = some o) → Q .next { s₂ with heap := h', toks := tk })) E s

theorem Assign_ListComp_ints {elt iter : Expr} {x y : Str} {px py : Pos} {ifs : List Expr} {scope : Scope} {cl : List (Str × Addr)} {pos spos : Pos} {Q : Flow → Shared → Prop} (pz : Int → Bool) (f : Int → Int)
    (hsw : swapsWith (.ListComp elt [⟨.Name x px, iter, ifs, 0⟩] scope pos) (some (.Name y py)) spos.line env = pure true)
    (hclos : closureFor scope env = pure cl) (hcell : ∀ z ∈ scope.names, z.2 ≠ .cell) (hkind : scope.kind = .function)
    (hnames : ∀ z ∈ scope.names, z.2 = .local → scope.names.lookup z.1 = some .local) (hx : scope.names.lookup x = some .local)
    (hy : env.kindOf y = some .local) (hp : (env.scope.kind == .class || (env.scope.kind == .module && env.locals != env.globals)) = false)
    (h : wpAny (model prog w) A (eval iter env) (fun xv s₁ => CompSrcA prog w A env scope cl x y ifs elt pz f Q E xv s₁) E s)
    (hs : ∀ x, foldedSetIterable iter env x = pure x) :
    wpAny (model prog w) A (exec (.Assign [.Name y py] (.ListComp elt [⟨.Name x px, iter, ifs, 0⟩] scope pos) spos) env) Q E s :=
  wpAny_Assign_ListComp_free (intP pz) (intF f) hsw hclos hcell hkind hnames hx hy hp (wpAny_mono h (fun _ _ h₁ => h₁.go) fun _ _ e => e) hs

theorem CompSrcA.range {scope : Scope} {cl : List (Str × Addr)} {x y : Str} {ifs : List Expr} {elt : Expr} {n : Nat} {pz : Int → Bool} {f : Int → Int} {Q : Flow → Shared → Prop} {r : Addr} {b₀ : Int} {t₀ u₀ v₀ : Tok}
    (hh : A.handled = none) (hr : IsRange s.heap r 0 b₀ 1 t₀ u₀ v₀) (hsmall : Builtin.Range.small 0 b₀ 1 = true) (hn : Builtin.Range.rangeSize 0 b₀ 1 = (n : Int)) (hsz : n ≤ 16777216)
    (F : Fr h₀ env.locals s.heap m) (N : News h₀ env.locals s.heap news) (hq : OnInts prog w A env scope cl x ifs elt ((List.range n).map (Int.ofNat ·)) pz f s)
    (k : ∀ D ys c h' tk, Fr h₀ env.locals h' (fun z => if z = y then some (.ref D) else m z) → News h₀ env.locals h' ((D, listOf (List.toArray ys) c) :: news) → (∀ q ∈ news, q.1 ≠ D) → s.heap.get? D = none → IntsAre ys ((((List.range n).map (Int.ofNat ·)).filter pz).map f) → Q .next { s with heap := h', toks := tk }) :
    CompSrcA prog w A env scope cl x y ifs elt pz f Q E (.ref r) s := by
  refine ⟨wpAny_pyIter_range hr hsmall ?_⟩
  have W : Walks prog w A s.heap.objs.size [s.heap.objs.size] [s.heap.objs.size] n (fun i v => i < n ∧ ∃ t, v = .int (0 + i * 1) t)
      (fun i h => IsRangeIter h s.heap.objs.size (0 + (i : Nat) * 1) ((n : Int) - (i : Nat)) 1) := (Walks.range hh _ 0 1 n).bound
  have hLt : env.locals < s.heap.objs.size := F.ns.lt
  have hold : ∀ b o, s.heap.get? b = some o → b ∉ [s.heap.objs.size] ∧ (s.heap.push { cls := .type "range_iterator", data := .fields #[rawInt 0, rawInt (Builtin.Range.rangeSize 0 b₀ 1), rawInt 1] }).get? b = some o :=
    fun b o e => ⟨fun hm => absurd (Heap.lt_size e) (by rw [List.mem_singleton.mp hm]; exact Nat.lt_irrefl _), Heap.get?_push_of_some _ e⟩
  have hP : ∀ (i : Nat) (v : Value), (i < n ∧ ∃ t, v = Value.int (0 + i * 1) t) → ∃ (k : Int) (t : Tok), ((List.range n).map (Int.ofNat ·))[i]? = some k ∧ v = Value.int k t := fun i v e => by
    obtain ⟨hi, t, rfl⟩ := e
    exact ⟨(i : Int), t, by simp [hi], by congr 1; omega⟩
  refine ⟨s.heap.objs.size, [s.heap.objs.size], [s.heap.objs.size], n, _, _, m, rfl, W, by rw [sizeLine_eq]; exact hsz, (by show IsRangeIter _ _ _ _ _; rw [hn]; simpa using Heap.get?_push_size _ rfl), (fun b hb => ?_), (fun hm => absurd hLt (by rw [List.mem_singleton.mp hm]; exact Nat.lt_irrefl _)), F.ns.push _, ⟨?_, ?_⟩, ?_⟩
  · show b < (s.heap.push _).objs.size
    rw [Heap.size_push]
    rw [List.mem_singleton.mp hb]; exact Nat.lt_succ_self _
  · intro C i v s₃ m₃ E' hC hPv hn' hm hk _
    obtain ⟨k', t, hsrc, rfl⟩ := hP i v hPv
    exact hq.tests C k' t s₃ m₃ E' (Nat.le_trans (by show _ ≤ (s.heap.push _).objs.size; rw [Heap.size_push]; exact Nat.le_succ _) hC) (List.mem_of_getElem? hsrc) hn' hm fun b o e => hk b o (hold b o e).1 (hold b o e).2
  · intro C i v s₃ m₃ E' hC hPv hp hn' hm hk _
    obtain ⟨k', t, hsrc, rfl⟩ := hP i v hPv
    exact wpAny_mono (hq.elt C k' t s₃ m₃ E' (Nat.le_trans (by show _ ≤ (s.heap.push _).objs.size; rw [Heap.size_push]; exact Nat.le_succ _) hC) (List.mem_of_getElem? hsrc) hp hn' hm fun b o e => hk b o (hold b o e).1 (hold b o e).2)
      (fun y s₄ h₄ => ⟨by obtain ⟨⟨u, rfl⟩, _⟩ := h₄; exact ⟨k', t, u, rfl, rfl⟩, h₄.2⟩) fun _ _ e => e
  · intro D h' tk ys vs hD _ hpl hlen hPs hpr hns hk
    have keep : ∀ b o, b ≠ env.locals → s.heap.get? b = some o → h'.get? b = some o := fun b o hb e => hk b o hb (hold b o e).1 (hold b o e).2
    have hDn : s.heap.get? D = none := by
      cases e : s.heap.get? D with
      | none => rfl
      | some o => rw [(hold D o e).2] at hD; cases hD
    obtain ⟨c, hc⟩ := hpl
    have hvs : IntsAre vs ((List.range n).map (Int.ofNat ·)) := intsAre_of_places (by simp [hlen]) fun j v e => hP j v (hPs j v e)
    refine k D ys.toList c h' tk ⟨hns, fun b o e => keep b o (Nat.ne_of_lt (Nat.lt_of_lt_of_le (Heap.lt_size e) F.above)) (F.keep b o e), F.above⟩ (fun p hp => ?_) (fun q hq e => ?_) hDn (paired_intsAre pz f vs ys.toList _ hvs hpr)
    · rcases List.mem_cons.mp hp with rfl | hp
      · refine ⟨by rw [Array.toArray_toList]; exact hc, fun e => ?_, ?_⟩
        · obtain ⟨oL, _, _, hoL, _⟩ := F.ns
          have : s.heap.get? env.locals = none := by rw [← e]; exact hDn
          rw [hoL] at this; cases this
        · cases e : h₀.get? D with
          | none => rfl
          | some o => rw [F.keep D o e] at hDn; cases hDn
      · exact ⟨keep _ _ (N p hp).2.1 (N p hp).1, (N p hp).2⟩
    · have := (N q hq).1
      rw [e, hDn] at this; cases this
end
end Mine

end
/-! Rng1 -/
section
open PySem PySem.W PySem.Calls PyProof.Rows
namespace Mine

structure Rng where
  name : Int
  lo : Int
  hi : Int
  adr : Addr
def RngDict (prog : Program) (w : World) (o : Obj) (R : List Rng) : Prop := o.IsDictOf (PySem.intKind prog w) (R.map fun r => (r.name, Value.ref r.adr))
def RngIn (news : List (Addr × Obj)) (R : List Rng) : Prop := ∀ r ∈ R, ∃ t u, (r.adr, pairObj r.lo r.hi t u) ∈ news
def loOf (R : List Rng) (n : Int) : Int := ((R.find? fun r => decide (r.name = n)).map (·.lo)).getD 0
def hiOf (R : List Rng) (n : Int) : Int := ((R.find? fun r => decide (r.name = n)).map (·.hi)).getD 0
def nms (R : List Rng) : List Int := R.map (·.name)

theorem rng_find {R : List Rng} {n : Int} (h : n ∈ nms R) : ∃ r ∈ R, r.name = n ∧ R.find? (fun r => decide (r.name = n)) = some r := by
  cases hf : R.find? fun r => decide (r.name = n) with
  | none =>
    obtain ⟨r, hr, rfl⟩ := List.mem_map.mp h
    have := List.find?_eq_none.mp hf r hr
    simp at this
  | some r =>
    have h1 := List.find?_some hf
    exact ⟨r, List.mem_of_find?_eq_some hf, by simpa using h1, rfl⟩

theorem rng_value {R : List Rng} {n : Int} (h : n ∈ nms R) : ∃ r ∈ R, r.lo = loOf R n ∧ r.hi = hiOf R n ∧ valueAt (R.map fun r => (r.name, Value.ref r.adr)) n = some (.ref r.adr) := by
  obtain ⟨r, hr, he, hf⟩ := rng_find h
  refine ⟨r, hr, by simp [loOf, hf], by simp [hiOf, hf], ?_⟩
  unfold valueAt
  have : ((R.map fun r => (r.name, Value.ref r.adr)).find? fun kv => decide (kv.1 = n)) = (R.find? fun r => decide (r.name = n)).map fun r => (r.name, Value.ref r.adr) := by
    rw [List.find?_map]; rfl
  rw [this, hf]; rfl

section
variable {prog : Program} {w : World} {A : Around} {E : Value → Shared → Prop} {s : Shared} {h₀ : Heap} {L d : Addr} {m : Str → Option Value} {news base : List (Addr × Obj)} {R : List Rng} {o : Obj} {n : Int} {tn : Tok} {Q : Value → Shared → Prop}

/-- ranges[n] -/
theorem rng_item {value slice : PySem.Expr} (hg : s.heap.get? d = some o) (hdo : RngDict prog w o R) (hR : RngIn base R) (hn : n ∈ nms R)
    (h : ∀ (T : Addr) (t u : Tok), (T, pairObj (loOf R n) (hiOf R n) t u) ∈ base → Q (.ref T) { s with toks := s.toks + 1 })
    (hs : subscripted slice false (.ref d) (.int n tn) = operate [.ref d, .int n tn] (getItem (.ref d) (.int n tn)) := by with_unfolding_all rfl) (hgo : ∀ r, letTemporaryGo value (.ref d) r = pure () := by intro _; with_unfolding_all rfl) :
    wpAny (model prog w) A (subscriptTail value slice (.ref d) (.int n tn)) Q E s := by
  obtain ⟨r, hr, e1, e2, hv⟩ := rng_value hn
  obtain ⟨t, u, hm⟩ := hR r hr
  rw [e1, e2] at hm
  have hD : s.heap.DictOf (PySem.intKind prog w) d (R.map fun r => (r.name, Value.ref r.adr)) := Heap.dictOf_iff.mpr ⟨o, hg, hdo⟩
  exact subscriptTail_builtin hD.typeIs slot_dict_getitem.lookup (wpAny_getItem_of (intKind_is _ _ _ _) hD.mapOf hv (h _ t u hm)) hs hgo
/-- (a, b)[0], (a, b)[1] -/
theorem pair_item {value slice : PySem.Expr} {T : Addr} {a b k : Int} {t u tk : Tok} {j : Nat} {v : Value} (hg : s.heap.get? T = some (pairObj a b t u)) (hlo : -(2 ^ 63) ≤ k) (hhi : k < 2 ^ 63) (hj : seqIndex? k 2 = some j) (hx : [Value.int a t, Value.int b u][j]? = some v) (h : Q v s)
    (hs : subscripted slice false (.ref T) (.int k tk) = operate [.ref T, .int k tk] (getItem (.ref T) (.int k tk)) := by with_unfolding_all rfl) :
    wpAny (model prog w) A (subscriptTail value slice (.ref T) (.int k tk)) Q E s :=
  item_tupleT (l := [.int a t, .int b u]) ⟨_, hg, rfl, _, rfl⟩ hlo hhi hj hx h hs
/-- a free name in a block -/
theorem cname_C {M : Model} {scope : Scope} {cl : List (Str × Addr)} {C c : Addr} {env : Env} {x : Str} {pos : Pos} {v : Value} (hk : (compEnvC scope cl C env).scope.kind = .function) (hx : (compEnvC scope cl C env).kindOf x = some .cell) (hc : cl.lookup x = some c)
    (ho : s.heap.get? c = some o) (hd : o.data = .cell (some v)) (h : Q v s) (hb : (x == ("__debug__" : Str)) = false) : wpAny M A (eval (.Name x pos) (compEnvC scope cl C env)) Q E s :=
  wpAny_Name (wpAny_loadName_cell hk hx hc ⟨o, ho, hd⟩ h) hb
end
end Mine

end
/-! Sort3 -/
section
open PySem PySem.W PySem.Calls PyProof.Rows
namespace Mine
section
variable {prog : Program} {w : World} {A : Around} {E : Value → Shared → Prop} {s : Shared} {h₀ : Heap} {L d : Addr} {m : Str → Option Value} {news : List (Addr × Obj)} {Q : Value → Shared → Prop} {kvs : List (Int × Value)}

/-- the keys of a dict of ints, as a list of values that hold them -/
theorem keys_ints {vs : List Value} (hl : vs.length = kvs.length) (hv : ∀ (j : Nat) (v : Value), vs[j]? = some v → ∃ k x, kvs[j]? = some (k, x) ∧ (PySem.intKind prog w).is k v = true) : IntsAre vs (kvs.map (·.1)) := by
  refine intsAre_of_places (by simp [hl]) fun j v e => ?_
  obtain ⟨k, x, hx, hk⟩ := hv j v e
  obtain ⟨t, rfl⟩ := Value.isInt_shape hk
  exact ⟨k, t, by rw [List.getElem?_map, hx]; rfl, rfl⟩

theorem sorted_dict (hh : A.handled = none) (F : Fr h₀ L s.heap m) (N : News h₀ L s.heap news) (lo : (d == sysModules) = false) (hd : s.heap.DictOf (PySem.intKind prog w) d kvs) (h64 : kvs.length < 64)
    (h : ∀ D vs' ns' c h' tk, Fr h₀ L h' m → News h₀ L h' ((D, listOf (List.toArray vs') c) :: news) → (∀ q ∈ news, q.1 < D) → IntsAre vs' ns' → ns'.Perm (kvs.map (·.1)) → ns'.Pairwise (· ≤ ·) → Q (.ref D) { s with heap := h', toks := tk }) :
    wpAny (model prog w) A (call (.builtin "sorted") [.ref d]) Q E s := by
  obtain ⟨ep, hat⟩ := hd.dictAt
  refine kdu_sorted (kdl_dict (knd := PySem.intKind prog w) (kvs := kvs) (ep := ep) lo) hh F N hat (by rw [sizeLine_eq]; omega) fun D h' tk vs F' N' lt hl hv => ?_
  have hI := keys_ints hl hv
  have ho : h'.get? D = some (seqObj "list" vs.toArray 0) := (N' _ (.head _)).1
  have hDL : D ≠ L := (N' _ (.head _)).2.1
  have hD0 : h₀.get? D = none := (N' _ (.head _)).2.2
  refine wpAny_call_entry slot_list_sort ⟨_, ho, rfl⟩ entry_list_sort ?body (args_list_sort _)
  case body =>
    refine list_sort_tree (s := { s with heap := h', toks := tk }) ho hI (by omega) fun out ns' a1 a2 a3 => ?_
    obtain ⟨e, he⟩ := sortedHeap_at (out := out) ho
    have keep : ∀ b o, b ≠ D → h'.get? b = some o → (sortedHeap h' D vs out).get? b = some o := fun b o hb x => (sortedHeap_old hb (Heap.lt_size x)).trans x
    refine ⟨_, rfl, ?_⟩
    refine h D out.toList ns' e _ tk ⟨F'.ns.at' fun o x => keep _ o (Ne.symm hDL) x, fun b o x => keep b o (fun q => by rw [q, hD0] at x; cases x) (F'.keep b o x), F'.above⟩ (fun p hp => ?_) lt a1 a2 a3
    rcases List.mem_cons.mp hp with rfl | hp
    · exact ⟨by rw [Array.toArray_toList]; exact he, hDL, hD0⟩
    · have := N' p (.tail _ hp)
      exact ⟨keep _ _ (Nat.ne_of_lt (lt p hp)) this.1, this.2⟩
end
end Mine

end
/-! Base1 -/
section
open PySem PySem.W PySem.Calls PyProof.Rows
namespace Mine
theorem below_ne {b d : Nat} {l : List (Addr × Obj)} (h : ∀ p ∈ l, p.1 < b) (hb : b ≤ d) : ∀ p ∈ l, p.1 ≠ d := fun p hp => Nat.ne_of_lt (Nat.lt_of_lt_of_le (h p hp) hb)
theorem tests_one {M : Model} {A : Around} {E : Value → Shared → Prop} {s : Shared} {c : PySem.Expr} {cenv : Env} {P : Bool → Shared → Prop} (h : wpAny M A (isTrue c cenv (eval c cenv)) P E s) :
    wpAny M A (forIn [c] true fun c r => if r = true then do let ok ← isTrue c cenv (eval c cenv); pure (ForInStep.yield ok) else pure (ForInStep.yield r)) P E s := by
  rw [List.forIn_cons]
  refine wpAny_bind ?_
  rw [if_pos rfl]
  refine wpAny_bind (wpAny_mono h (fun ok s' h' => wpAny_pure ?_) fun _ _ e => e)
  show wpAny M A (forIn [] ok _) P E s'
  rw [List.forIn_nil]
  exact wpAny_pure h'

theorem drop1 {h₀ h : Heap} {L : Addr} {x : Addr × Obj} {news : List (Addr × Obj)} (N : News h₀ L h (x :: news)) : News h₀ L h news := fun p hp => N p (.tail _ hp)
theorem left1 {h₀ h : Heap} {L : Addr} {a b c : Addr × Obj} {news own : List (Addr × Obj)} (N : News h₀ L h (a :: b :: c :: (news ++ own))) : News h₀ L h (a :: b :: c :: news) := fun p hp => N p (by
  simp only [List.mem_cons, List.mem_append] at hp ⊢
  grind)

theorem rngIn_mono {a b : List (Addr × Obj)} {R : List Rng} (h : RngIn a R) (hs : ∀ p ∈ a, p ∈ b) : RngIn b R := fun r hr => by
  obtain ⟨t, u, hm⟩ := h r hr
  exact ⟨t, u, hs _ hm⟩
end Mine

end
/-! D1 -/
section
open PySem PySem.W PySem.Calls PyProof.Rows PyProof.V PySem.Spec
namespace Mine
local macro_rules | `(tactic| k_all) => `(tactic| assumption)
theorem fmod_bounds (a : Int) {b : Int} (hb : 0 < b) : 0 ≤ a.fmod b ∧ a.fmod b < b := ⟨Int.fmod_nonneg_of_pos a hb, Int.fmod_lt_of_pos a hb⟩
theorem draw_call {w : World} {p : Program} {loose : List Str} {mean : ExcName → Option Value} {mg mb : Str → Option Value} {dp un : Nat} {gd : Option (List Code)} {cn : Str} {cs : Scope} {a : Addr} {ccd : Value} {cl : List (Str × Addr)} {outer : List Env} {A₀ : Around} {base h₀ : Heap} {L : Addr} {m : Str → Option Value} {s : Shared} {Q E : Value → Shared → Prop}
   {rest : List (Addr × Obj)} {pl sl : Addr} {k c many : Int} {tk tc tm : Tok} {vs : List Value} {ns : List Int} {n n2 : Nat}
   (B : Below A₀ base outer h₀) (F : Fr h₀ L s.heap m) (X : (hd.heap_39 w.params).In h₀) (N : News h₀ L s.heap ((pl, listOf #[.ref sl, .int k tk, .int c tc] n) :: (sl, listOf vs.toArray n2) :: rest)) (T : Top p loose mean mg mb h₀) (hk : cs.kind = .function)
   (hrest : ∀ p ∈ rest, p.1 ≠ pl) (hps : @LT.lt Nat _ sl pl) (hi : IntsAre vs ns) (hlen : ns.length ≤ 63)
   (hk0 : 0 ≤ k) (hk1 : k < 1000) (hm : 0 < many) (hm2 : many < 100)
   (hdp : dp + 5 < recursionLimit) (hun : un + 40 < cLine)
   (ret : ∀ (r : Int) t tk' h' tt, 0 ≤ r → r < many → Fr h₀ L h' m → News h₀ L h' ((pl, listOf #[.ref sl, .int (k + 1) tk', .int c tc] n) :: (sl, listOf vs.toArray n2) :: rest) → Q (.int r t) { s with heap := h', toks := tt }) :
   wpAny (model PySem.Challenge.rw_no0223_01.row.prog w) (ktrTop dp un gd cn cs L a ccd cl outer) (call (.ref 26) [.ref pl, .int many tm]) Q E s := by
  revert X
  k_fill
  intro X
  refine wpAny_call ?_
  k_dflt cell_enter
  k_steps
  all_goals exact ret _ _ _ _ _ (fmod_bounds _ hm).1 (fmod_bounds _ hm).2 (by k_asm) (by k_asm)
end Mine

end
/-! F1 -/
section
open PySem PySem.W PySem.Calls PyProof.Rows PyProof.V PySem.Spec
namespace Mine
local macro_rules | `(tactic| k_all) => `(tactic| first
  | (refine List.forall_mem_append.mpr ⟨?ka, ?kb⟩; (case ka => k_all); (case kb => k_all))
  | exact below_ne (by assumption) (by omega)
  | exact OwnOff.ne (by assumption) (by k_memK))
local macro_rules | `(tactic| walk_at "subscriptTail") => `(tactic| (k_here; (with_reducible show wpAny _ _ (subscriptTail _ _ (Value.ref _) (Value.int _ _)) _ _ _); k_dflt (first
  | (refine' rng_item ?g ?o ?R ?n ?_; (case g => exact News.get (by k_asm) (by k_mem)); (case o => assumption); (case R => assumption); (case n => assumption); intro T' t' u' hT')
  | (refine' pair_item ?g ?lo ?hi ?j ?x ?_; (case g => exact News.get (by k_asm) (by k_mem)); (case lo => decide); (case hi => decide); (case j => rfl); (case x => rfl)))))
local macro_rules | `(tactic| k_mem) => `(tactic| first | assumption | (refine List.mem_append_left _ ?_; k_mem))
local macro_rules | `(tactic| walk_at "eval Name") => `(tactic| (k_here; k_inBlock; k_dflt (first
  | (refine' cname_C ?hk ?hx ?hc ?ho ?hd ?_ ?hb; (case hk => exact rfl); (case hx => exact rfl); (case hc => exact rfl); (case ho => exact News.get (by k_asm) (by k_mem)); (case hd => assumption); (case hb => decide))
  | (refine' ldVarK ?F ?v ?_; (case F => assumption); (case v => assumption)))))
local macro_rules | `(tactic| ktr_unf) => `(tactic| repeat' ((fail_if_success (with_reducible show wpAny _ _ (pyIter _) _ _ _)); (fail_if_success (with_reducible show wpAny _ _ (subscriptTail _ (PySem.Expr.Slice _ _ _ _) _ _) _ _ _)); (fail_if_success (with_reducible show wpAny _ _ (exec (Stmt.For _ _ _ _ _) _) _ _ _)); (fail_if_success (with_reducible show wpAny _ _ (eval (PySem.Expr.ListComp _ _ _ _) _) _ _ _)); (fail_if_success (with_reducible show CompSrcI _ _ _ _ _ _ _ _ _ _ _ _ _ _ _)); (fail_if_success (with_reducible show CompSrcA _ _ _ _ _ _ _ _ _ _ _ _ _ _ _ _)); (fail_if_success (with_reducible show wpAny _ _ (exec (Stmt.Assign _ (PySem.Expr.ListComp _ _ _ _) _) _) _ _ _)); first | (k_unfold; (try dsimp only)) | (k_end; wrow_close) | walk1 | (dsimp only; walk1) | (leave1; walk_say "STEP leave1"; try dsimp only) | fail "no step"))
def okAt (R : List Rng) (c : Int) (ns : List Int) (one : Int) : Bool := decide (((ns.filter fun o => decide (loOf R o ≤ loOf R one) && decide (loOf R one ≤ hiOf R o)).length : Int) ≤ c)
theorem fits_eq (R : List Rng) (c : Int) (ns : List Int) : fitsF (loOf R) (hiOf R) c ns = ns.all (okAt R c ns) := rfl
theorem fits_call {w : World} {p : Program} {loose : List Str} {mean : ExcName → Option Value} {mg mb : Str → Option Value} {dp un : Nat} {gd : Option (List Code)} {cn : Str} {cs : Scope} {a : Addr} {ccd : Value} {cl : List (Str × Addr)} {outer : List Env} {A₀ : Around} {base h₀ : Heap} {L : Addr} {m : Str → Option Value} {s : Shared} {Q E : Value → Shared → Prop}
   {news : List (Addr × Obj)} {d ch : Addr} {o : Obj} {R : List Rng} {c : Int} {tc : Tok} {vs : List Value} {ns : List Int} {n : Nat}
   (B : Below A₀ base outer h₀) (F : Fr h₀ L s.heap m) (X : (hd.heap_39 w.params).In h₀) (N : News h₀ L s.heap news) (T : Top p loose mean mg mb h₀) (hk : cs.kind = .function)
   (hdm : (d, o) ∈ news) (hdo : RngDict PySem.Challenge.rw_no0223_01.row.prog w o R) (hR : RngIn news R) (hch : (ch, listOf vs.toArray n) ∈ news) (hi : IntsAre vs ns) (hns : ∀ x ∈ ns, x ∈ nms R) (hlen : ns.length ≤ 7)
   (hdp : dp + 5 < recursionLimit) (hun : un + 40 < cLine)
   (ret : ∀ h' tk', Fr h₀ L h' m → News h₀ L h' news → Q (.bool (fitsF (loOf R) (hiOf R) c ns)) { s with heap := h', toks := tk' }) :
   wpAny (model PySem.Challenge.rw_no0223_01.row.prog w) (ktrTop dp un gd cn cs L a ccd cl outer) (call (.ref 31) [.ref d, .ref ch, .int c tc]) Q E s := by
  revert X
  k_fill
  intro X
  refine wpAny_call ?_
  k_dflt (refine' code_defC ?k1 ?k2 ?k3 ?k4 ?k5 ?kA ?kF ?kK ?k6 ?k7 ?k8 ?k9 ?kB ?kD ?_ ?c2 ?c3 ?c4; (case kA => exact rfl); (case kF => exact rfl); (case kK => assumption); (case k1 => k_asm); (case k2 => k_asm); (case k3 => k_asm); (case k4 => k_asm); (case k5 => k_asm); (case k6 => k_is); (case k7 => k_is); (case k8 => ktr_room); (case k9 => exact BindsTo.of_eq rfl); (case kB => exact rfl); (case kD => decide +kernel); (case c2 => exact rfl); (case c3 => exact rfl); (case c4 => exact rfl); k_whole; intro g L1 h1 t1 cells' FG F1 N1 Y B1 X1 T1 l1; (try simp only [List.cons_append, List.nil_append] at N1); (try dsimp only); (try k_lift B1))
  obtain ⟨oL, oR, e, dL, dR⟩ := CellsAre.two Y
  subst e
  clear Y
  simp only [List.cons_append, List.nil_append] at N1
  replace dL : oL.data = .cell none := dL
  replace dR : oR.data = .cell (some (.ref d)) := dR
  k_unmd
  k_fold
  ktr_unf
  (with_unfolding_all refine For_invV g (by rfl) (by rfl) ?_ (by intro _; with_unfolding_all rfl))
  ktr_unf
  have hl : h1.IsList ch vs.toArray := ⟨_, News.get N1 (by k_mem), rfl, _, rfl⟩
  refine iter_list (s := { heap := h1, gens := s.gens, drawn := s.drawn, toks := t1, os := s.os }) (fun c : Obj => (L1 + 1 + 1, c) :: (L1 + 1, oR) :: news) (fun _ => []) [] [L1 + 1 + 1] (fun i o => (∃ v, o.data = .cell v) ∧ ∀ x ∈ ns.take i, okAt R c ns x = true) oL rfl hl ?hlL F1 N1 ?hwad (fun _ h => nomatch h) ⟨⟨_, dL⟩, by simp⟩ ?turn ?done
  case hlL => exact Nat.ne_of_lt (l1 _ hch)
  case hwad =>
    intro b hb
    rw [List.mem_singleton.mp hb]
    have h3 : ch < L1 := l1 _ hch
    exact ⟨Nat.ne_of_gt (Nat.lt_succ_of_lt (Nat.lt_succ_of_lt h3)), Heap.lt_size (News.get N1 (.head _))⟩
  case turn =>
    intro I i o2 v u h2 tk2 own hv hI hoff hw hown hsz F2 N2
    simp only [List.cons_append] at N2
    obtain ⟨⟨v2, dL2⟩, hok⟩ := hI
    obtain ⟨n1, hn1, t2, rfl⟩ : ∃ n1, ns[i]? = some n1 ∧ ∃ t, v = .int n1 t := by
      have hlen : i < ns.length := by rw [← hi.length]; exact (List.getElem?_eq_some_iff.mp hv).1
      obtain ⟨t, ht⟩ := hi.get i ns[i] (by simp [hlen])
      rw [hv] at ht
      exact ⟨ns[i], by simp [hlen], t, Option.some.inj ht⟩
    have hnR : n1 ∈ nms R := hns n1 (List.mem_of_getElem? hn1)
    k_unmd
    k_fold
    ktr_unf
    (refine' ListComp_ints (cl := ?cl) (fun o => decide (loOf R o ≤ loOf R n1) && decide (loOf R n1 ≤ hiOf R o)) (fun x => x) ?hclos ?hcell ?hkind ?hnames ?hx ?h ?hs; (case hclos => with_unfolding_all rfl); (case hcell => decide); (case hkind => with_unfolding_all rfl); (case hnames => decide); (case hx => with_unfolding_all rfl); (case hs => intro _; with_unfolding_all rfl))
    ktr_unf
    refine' CompSrcI.list ?hh ?hl hi ?sz ?F ?N ⟨?tests, ?elt⟩ ?k
    case hh => exact rfl
    case hl => exact News.isList (by k_asm) (by k_mem)
    case sz => omega
    case F => k_asm
    case N => k_asm
    case tests =>
      intro C n3 t3 s3 m3 E3 hC hn3 hN3 hx3 hkeep
      refine tests_one ?_
      have hn3R : n3 ∈ nms R := hns n3 hn3
      rename Fr _ _ _ _ => F4
      rename News _ _ _ _ => N4
      have F5 := F4.keeps hkeep
      have N5 := N4.grown hkeep
      clear F4 N4
      ktr_unf
      all_goals first | exact ⟨_, _, rfl, fun _ _ e => e⟩ | (simp [*]; done)
    case elt =>
      intro C n3 t3 s3 m3 E3 hC hn3 _ hN3 hx3 hkeep
      ktr_unf
      all_goals first | exact ⟨_, _, rfl, fun _ _ e => e⟩ | exact ⟨_, rfl⟩ | exact ⟨⟨_, rfl⟩, _, _, rfl, fun _ _ e => e⟩
    case k =>
      intro D ys c2 h4 tk4 F4 N4 hne hD hys
      rw [List.map_id'] at hys
      have hz7 := List.length_filter_le (fun o => decide (loOf R o ≤ loOf R n1) && decide (loOf R n1 ≤ hiOf R o)) ns
      generalize hz : List.filter (fun o => decide (loOf R o ≤ loOf R n1) && decide (loOf R n1 ≤ hiOf R o)) ns = zs at hys hz7
      have hz8 : zs.length ≤ 7 := Nat.le_trans hz7 hlen
      k_unmd
      ktr_unf
      · have hf : fitsF (loOf R) (hiOf R) c ns = false := by
          rw [fits_eq, List.all_eq_false]
          refine ⟨n1, List.mem_of_getElem? hn1, ?_⟩
          unfold okAt
          rw [hz]
          simpa using ‹c < _›
        rw [hf] at ret
        dsimp only [qk, PostC]
        ktr_unf
        exact ret _ _ (by k_asm) (drop1 (drop1 (drop1 (left1 (by k_asm)))))
      · rename (Obj.data _ = Data.cell (some (Value.int _ _))) => d3
        refine EndC.intro _ F4 N4 ⟨⟨_, d3⟩, ?_⟩ (by (intro p hp; simp only [List.mem_cons, List.mem_append] at hp ⊢; grind)) (by (intro p hp; simp only [List.mem_cons, List.mem_append] at hp ⊢; grind)) ?_ (fun _ h => nomatch h) ?_
        · intro x hx
          rw [List.take_add_one, hn1] at hx
          rcases List.mem_append.mp hx with hx | hx
          · exact hok x hx
          · have : x = n1 := by simpa using hx
            subst this
            unfold okAt
            rw [hz]
            exact decide_eq_true (by omega)
        · intro p hp
          rcases List.mem_cons.mp hp with rfl | hp
          · exact hw (_, o2) (.head _)
          · exact hw p (.tail _ hp)
        · intro z hz' _
          have hz1 : z ≠ Str.ofString "one" := by
            intro e
            rw [e] at hz'
            simp at hz'
          show (if z = Str.ofString "one" then _ else _) = _
          rw [if_neg hz1]
          rfl
  case done =>
    intro c2 u h5 tk5 hI5 F5 N5
    obtain ⟨⟨v2, dL2⟩, hok⟩ := hI5
    have hf : fitsF (loOf R) (hiOf R) c ns = true := by
      rw [fits_eq, List.all_eq_true]
      intro x hx
      refine hok x ?_
      rw [hi.length, List.take_length]
      exact hx
    rw [hf] at ret
    k_unmd
    ktr_unf
    exact ret _ _ (by k_asm) (drop1 (drop1 (by k_asm)))

end Mine

end
/-! G1 -/
section
open PySem PySem.W PySem.Calls PyProof.Rows PyProof.V PySem.Spec
namespace Mine
local macro_rules | `(tactic| k_all) => `(tactic| first
  | (refine List.forall_mem_append.mpr ⟨?ka, ?kb⟩; (case ka => k_all); (case kb => k_all))
  | exact below_ne (by assumption) (by omega)
  | exact OwnOff.ne (by assumption) (by k_memK))
local macro_rules | `(tactic| walk_at "subscriptTail") => `(tactic| (k_here; (with_reducible show wpAny _ _ (subscriptTail _ _ (Value.ref _) (Value.int _ _)) _ _ _); k_dflt (first
  | (refine' rng_item ?g ?o ?R ?n ?_; (case g => exact News.get (by k_asm) (by k_mem)); (case o => assumption); (case R => assumption); (case n => assumption); intro T' t' u' hT')
  | (refine' pair_item ?g ?lo ?hi ?j ?x ?_; (case g => exact News.get (by k_asm) (by k_mem)); (case lo => decide); (case hi => decide); (case j => rfl); (case x => rfl)))))
local macro_rules | `(tactic| k_mem) => `(tactic| first | assumption | (refine List.mem_append_left _ ?_; k_mem))
local macro_rules | `(tactic| walk_at "eval Name") => `(tactic| (k_here; k_inBlock; k_dflt (first
  | (refine' cname_C ?hk ?hx ?hc ?ho ?hd ?_ ?hb; (case hk => exact rfl); (case hx => exact rfl); (case hc => exact rfl); (case ho => exact News.get (by k_asm) (by k_mem)); (case hd => assumption); (case hb => decide))
  | (refine' ldVarK ?F ?v ?_; (case F => assumption); (case v => assumption)))))
local macro_rules | `(tactic| ktr_unf) => `(tactic| repeat' ((fail_if_success (with_reducible show wpAny _ _ (pyIter _) _ _ _)); (fail_if_success (with_reducible show wpAny _ _ (subscriptTail _ (PySem.Expr.Slice _ _ _ _) _ _) _ _ _)); (fail_if_success (with_reducible show wpAny _ _ (exec (Stmt.For _ _ _ _ _) _) _ _ _)); (fail_if_success (with_reducible show wpAny _ _ (eval (PySem.Expr.ListComp _ _ _ _) _) _ _ _)); (fail_if_success (with_reducible show CompSrcI _ _ _ _ _ _ _ _ _ _ _ _ _ _ _)); (fail_if_success (with_reducible show CompSrcA _ _ _ _ _ _ _ _ _ _ _ _ _ _ _ _)); (fail_if_success (with_reducible show wpAny _ _ (exec (Stmt.Assign _ (PySem.Expr.ListComp _ _ _ _) _) _) _ _ _)); first | (k_unfold; (try dsimp only)) | (k_end; wrow_close) | walk1 | (dsimp only; walk1) | (leave1; walk_say "STEP leave1"; try dsimp only) | fail "no step"))
theorem bit_test (i : Nat) (n : Int) : (Builtin.bitAnd ((i : Int).fdiv (2 ^ n.toNat)) 1 != 0) = i.testBit n.toNat := by
  rw [bitAnd_m1, Int.fdiv_eq_ediv_of_nonneg _ (Int.le_of_lt (Int.pow_pos (by decide))), Nat.testBit_eq_decide_div_mod_eq]
  have e : (i : Int) / 2 ^ n.toNat % 2 = ((i / 2 ^ n.toNat % 2 : Nat) : Int) := by simp
  rw [e]
  have h2 : i / 2 ^ n.toNat % 2 < 2 := Nat.mod_lt _ (by decide)
  generalize i / 2 ^ n.toNat % 2 = q at h2
  have : q = 0 ∨ q = 1 := by omega
  rcases this with rfl | rfl <;> decide
theorem chosen_vals {ys : List Value} {ns : List Int} {i : Nat} (h : IntsAre ys ((((List.range ns.length).map (Int.ofNat ·)).filter fun x => i.testBit x.toNat).map fun x => ns.getD x.toNat 0)) : IntsAre ys (chosenF ns i) := by
  have e : (((List.range ns.length).map (Int.ofNat ·)).filter fun x => i.testBit x.toNat).map (fun x => ns.getD x.toNat 0) = chosenF ns i := by
    rw [List.filter_map, List.map_map]
    rfl
  rw [← e]
  exact h
local macro_rules | `(tactic| walk_at "call ref") => `(tactic| (k_here; (with_reducible show wpAny _ _ (call (Value.ref 31) _) _ _ _); k_dflt (refine' fits_call ?B ?F ?X ?N ?T ?hk ?hdm ?hdo ?hR ?hch ?hi ?hns ?hlen ?hdp ?hun ?ret; (case B => k_asm); (case F => k_asm); (case X => k_asm); (case N => k_asm); (case T => k_asm); (case hk => first | exact rfl | assumption); (case hdm => k_mem); (case hdo => assumption); (case hR => exact rngIn_mono (by assumption) (by (intro p hp; simp only [List.mem_cons, List.mem_append] at hp ⊢; grind))); (case hch => k_mem); (case hi => assumption); (case hns => assumption); (case hlen => assumption); (case hdp => first | ktr_room | omega); (case hun => first | ktr_units | omega); k_whole; intro h' tk' F' N')))
theorem small_range {n : Nat} (h : n ≤ 7) : Builtin.Range.small 0 (n : Int) 1 = true ∧ Builtin.Range.rangeSize 0 (n : Int) 1 = (n : Int) := by
  have : n = 0 ∨ n = 1 ∨ n = 2 ∨ n = 3 ∨ n = 4 ∨ n = 5 ∨ n = 6 ∨ n = 7 := by omega
  rcases this with rfl | rfl | rfl | rfl | rfl | rfl | rfl | rfl <;> exact ⟨by decide, by decide⟩
theorem pow_range {n : Nat} (h : n ≤ 7) : Builtin.Range.small 0 (1 * 2 ^ (n : Int).toNat) 1 = true ∧ Builtin.Range.rangeSize 0 (1 * 2 ^ (n : Int).toNat) 1 = ((2 ^ n : Nat) : Int) := by
  have : n = 0 ∨ n = 1 ∨ n = 2 ∨ n = 3 ∨ n = 4 ∨ n = 5 ∨ n = 6 ∨ n = 7 := by omega
  rcases this with rfl | rfl | rfl | rfl | rfl | rfl | rfl | rfl <;> exact ⟨by decide, by decide⟩
theorem fewest_call {w : World} {p : Program} {loose : List Str} {mean : ExcName → Option Value} {mg mb : Str → Option Value} {dp un : Nat} {gd : Option (List Code)} {cn : Str} {cs : Scope} {a : Addr} {ccd : Value} {cl : List (Str × Addr)} {outer : List Env} {A₀ : Around} {base h₀ : Heap} {L : Addr} {m : Str → Option Value} {s : Shared} {Q E : Value → Shared → Prop}
   {news : List (Addr × Obj)} {d : Addr} {o : Obj} {R : List Rng} {c : Int} {tc : Tok}
   (B : Below A₀ base outer h₀) (F : Fr h₀ L s.heap m) (X : (hd.heap_39 w.params).In h₀) (N : News h₀ L s.heap news) (T : Top p loose mean mg mb h₀) (hk : cs.kind = .function)
   (hdm : (d, o) ∈ news) (lo : (d == sysModules) = false) (hdo : RngDict PySem.Challenge.rw_no0223_01.row.prog w o R) (hR : RngIn news R) (hlen : R.length ≤ 7)
   (hdp : dp + 7 < recursionLimit) (hun : un + 80 < cLine)
   (ret : ∀ ns t h' tk', ns.Perm (nms R) → Fr h₀ L h' m → News h₀ L h' news → Q (.int (fewestF (loOf R) (hiOf R) ns c (2 ^ ns.length)) t) { s with heap := h', toks := tk' }) :
   wpAny (model PySem.Challenge.rw_no0223_01.row.prog w) (ktrTop dp un gd cn cs L a ccd cl outer) (call (.ref 36) [.ref d, .int c tc]) Q E s := by
  revert X
  k_fill
  intro X
  refine wpAny_call ?_
  k_dflt (refine' code_defC ?k1 ?k2 ?k3 ?k4 ?k5 ?kA ?kF ?kK ?k6 ?k7 ?k8 ?k9 ?kB ?kD ?_ ?c2 ?c3 ?c4; (case kA => exact rfl); (case kF => exact rfl); (case kK => assumption); (case k1 => k_asm); (case k2 => k_asm); (case k3 => k_asm); (case k4 => k_asm); (case k5 => k_asm); (case k6 => k_is); (case k7 => k_is); (case k8 => ktr_room); (case k9 => exact BindsTo.of_eq rfl); (case kB => exact rfl); (case kD => decide +kernel); (case c2 => exact rfl); (case c3 => exact rfl); (case c4 => exact rfl); k_whole; intro g L1 h1 t1 cells' FG F1 N1 Y B1 X1 T1 l1; (try simp only [List.cons_append, List.nil_append] at N1); (try dsimp only); (try k_lift B1))
  obtain ⟨oC, oN, e, dC, dN⟩ := CellsAre.two Y
  subst e
  clear Y
  simp only [List.cons_append, List.nil_append] at N1
  replace dC : oC.data = .cell none := dC
  replace dN : oN.data = .cell none := dN
  k_unmd
  k_fold
  ktr_unf
  refine' sorted_dict (kvs := R.map fun r => (r.name, Value.ref r.adr)) ?hh ?F ?N lo ?hd ?h64 ?h
  case hh => exact rfl
  case F => k_asm
  case N => k_asm
  case hd => exact Heap.dictOf_iff.mpr ⟨o, News.get N1 (by k_mem), hdo⟩
  case h64 => rw [List.length_map]; omega
  case h =>
    intro D vn ns cN h2 t2 F2 N2 l2 hvn hperm hsrt
    have hperm' : ns.Perm (nms R) := by rw [List.map_map] at hperm; exact hperm
    have hln : ns.length ≤ 7 := by rw [hperm'.length_eq]; simpa [nms] using hlen
    have l3 : @LT.lt Nat _ (L1 + 1 + 1) D := l2 (_, oC) (.head _)
    k_unmd
    ktr_unf
    (with_unfolding_all refine For_unr g ?_ (by intro _; with_unfolding_all rfl))
    ktr_unf
    rename Fr _ _ _ _ => F3
    rename News _ _ _ _ => N3
    rename IsRange _ _ _ _ _ _ _ _ => R3
    rename (Obj.data _ = Data.cell (some (Value.ref D))) => dN3
    have hb7 := pow_range hln
    refine' unr_range (σ := Obj × Int × Tok) (n := 2 ^ ns.length) (fun c => (D, listOf vn.toArray cN) :: (L1 + 1 + 1, c.1) :: (L1 + 1, _) :: news) (fun c => [(Str.ofString "best", .int c.2.1 c.2.2)]) [Str.ofString "chosen"] [L1 + 1 + 1]
      (fun i b => (∃ v, b.1.data = .cell v) ∧ b.2.1 = (List.range i).foldl (fewTurn (loOf R) (hiOf R) ns c) ns.length) (oC, (ns.length : Int), ?tk) ?hh R3 hb7.1 hb7.2 F3 N3 ?hwad ?hk ⟨⟨_, dC⟩, rfl⟩ ?turn ?done
    case hh => exact rfl
    case hwad => intro b hb; rw [List.mem_singleton.mp hb]; exact Heap.lt_size (News.get N3 (by k_mem))
    case hk => intro p hp; rw [List.mem_singleton.mp hp]; exact rfl
    case turn =>
      intro i b t u h4 tk4 own hi hI hoff F4 N4
      simp only [List.cons_append] at N4
      obtain ⟨ob, bb, bt⟩ := b
      obtain ⟨⟨v2, dC2⟩, hbest⟩ := hI
      dsimp only at dC2 hbest F4 N4
      k_unmd
      k_fold
      ktr_unf
      (refine' Assign_ListComp_ints (cl := ?cl) (fun x => i.testBit x.toNat) (fun x => ns.getD x.toNat 0) ?hsw ?hclos ?hcell ?hkind ?hnames ?hx ?hy ?hp ?h ?hs; (case hsw => with_unfolding_all rfl); (case hclos => with_unfolding_all rfl); (case hcell => decide); (case hkind => with_unfolding_all rfl); (case hnames => decide); (case hx => with_unfolding_all rfl); (case hy => with_unfolding_all rfl); (case hp => with_unfolding_all rfl); (case hs => intro _; with_unfolding_all rfl))
      ktr_unf
      rename Fr _ _ _ _ => F5
      rename News _ _ _ _ => N5
      rename IsRange _ _ _ _ _ _ _ _ => R5
      rename (Obj.data _ = Data.cell (some (Value.int _ _))) => dC5
      have hs7 := small_range hln
      refine' CompSrcA.range (n := ns.length) ?hh2 R5 hs7.1 hs7.2 ?sz2 F5 N5 ⟨?tests, ?elt⟩ ?k
      case hh2 => exact rfl
      case sz2 => omega
      case tests =>
        intro C n3 t3 s3 m3 E3 hC hn3 hN3 hx3 hkeep
        refine tests_one ?_
        have hn3' : 0 ≤ n3 ∧ n3 < (ns.length : Int) := by
          obtain ⟨j, hj, rfl⟩ := List.mem_map.mp hn3
          have := List.mem_range.mp hj
          have e : Int.ofNat j = (j : Int) := rfl
          omega
        have F6 := F5.keeps hkeep
        have N6 := N5.grown hkeep
        clear F5 N5
        ktr_unf
        all_goals first | exact ⟨_, _, rfl, fun _ _ e => e⟩ | exact bit_test i n3
      case elt =>
        intro C n3 t3 s3 m3 E3 hC hn3 _ hN3 hx3 hkeep
        have hn3' : 0 ≤ n3 ∧ n3 < (ns.length : Int) := by
          obtain ⟨j, hj, rfl⟩ := List.mem_map.mp hn3
          have := List.mem_range.mp hj
          have e : Int.ofNat j = (j : Int) := rfl
          omega
        have F6 := F5.keeps hkeep
        have N6 := N5.grown hkeep
        clear F5 N5
        ktr_unf
        all_goals first | exact ⟨_, _, rfl, fun _ _ e => e⟩ | exact ⟨_, rfl⟩ | exact ⟨⟨_, rfl⟩, _, _, rfl, fun _ _ e => e⟩
      case k =>
        intro D2 ys c2 h6 tk6 F6 N6 hne2 hD2 hys
        have hys2 : IntsAre ys (chosenF ns i) := chosen_vals hys
        clear hys
        have hch7 : (chosenF ns i).length ≤ 7 := Nat.le_trans (chosen_sub ns i).length_le hln
        have hchR : ∀ x ∈ chosenF ns i, x ∈ nms R := fun x hx => hperm'.subset ((chosen_sub ns i).subset hx)
        k_unmd
        ktr_unf
        all_goals (
          dsimp only [PostT]
          refine' EndT.intro (_, _, _) ?F ?N ⟨⟨_, dC5⟩, ?hb⟩ ?hn ?ho ?ha ?hk ?hr
          (case F => k_asm)
          (case N => k_asm)
          (case hk => intro p hp; rw [List.mem_singleton.mp hp]; exact rfl)
          (case hn => exact (by (intro p hp; simp only [List.mem_cons, List.mem_append] at hp ⊢; grind)))
          (case ho => exact (by (intro p hp; simp only [List.mem_cons, List.mem_append] at hp ⊢; grind)))
          (case ha => exact rfl)
          (case hr =>
            intro z hz1 hz2
            have hz3 : z ≠ Str.ofString "best" := hz2 _ (.head _)
            have hz4 : z ≠ Str.ofString "chosen" := by
              intro e
              rw [e] at hz1
              simp at hz1
            simp only [frOf, kstB, if_neg hz3, if_neg hz4, hz1, Bool.false_eq_true, if_false])
          (case hb =>
            rw [List.range_succ, List.foldl_append, ← hbest]
            simp only [List.foldl_cons, List.foldl_nil]
            clear hbest
            unfold fewTurn
            first
              | exact (if_pos ⟨by assumption, by assumption⟩).symm
              | exact (if_neg (fun h => absurd h.1 (by assumption))).symm
              | exact (if_neg (fun h => by have h2 := h.2; simp_all)).symm))
    case done =>
      intro b u h6 tk6 hI6 F6 N6
      obtain ⟨ob, bb, bt⟩ := b
      obtain ⟨⟨v2, dC2⟩, hbest⟩ := hI6
      dsimp only at dC2 hbest F6 N6
      k_unmd
      ktr_unf
      subst hbest
      exact ret ns _ _ _ hperm' (by k_asm) (drop1 (drop1 (drop1 (by k_asm))))

end Mine

end
/-! TComp -/
section
open PySem PySem.W PySem.Calls PyProof.Rows
namespace Mine
section
variable {prog : Program} {w : World} {A : Around} {E : Value → Shared → Prop} {s : Shared} {env : Env} {h₀ : Heap} {L : Addr} {m : Str → Option Value} {news : List (Addr × Obj)}

/-- a block over a dict of pairs whose elements are new tuples (first, name) -/
structure CompSrcT (prog : Program) (w : World) (A : Around) (env : Env) (scope : Scope) (cl : List (Str × Addr)) (x : Str) (elt : Expr) (Q : Value → Shared → Prop) (E : Value → Shared → Prop) (xv : Value) (s : Shared) : Prop where
  go : ∃ h₀ L m news d o R, xv = .ref d ∧ A.handled = none ∧ (d == sysModules) = false ∧ Fr h₀ L s.heap m ∧ News h₀ L s.heap news ∧ (d, o) ∈ news ∧ RngDict prog w o R ∧ R.length ≤ 7 ∧
    (∀ n tn I oI C oC D ys m₂ h tk news' E', n ∈ nms R → LCg.NsObj oC m₂ → m₂ x = some (.int n tn) → Fr h₀ L h m → News h₀ L h ((I, oI) :: (C, oC) :: (D, LCg.lst ys) :: news') → LCg.Off3 I C D news' → (∀ p ∈ news, p ∈ news') →
      ((@Ne Nat I C) ∧ (@Ne Nat I D) ∧ (@Ne Nat C D)) →
      wpAny (model prog w) A (eval elt (compEnvC scope cl C env)) (fun y s₂ => ∃ h' tk' T t u, s₂ = { s with heap := h', toks := tk' } ∧ y = .ref T ∧ Fr h₀ L h' m ∧ News h₀ L h' ((T, pairObj (loOf R n) n t u) :: (I, oI) :: (C, oC) :: (D, LCg.lst ys) :: news') ∧ ((@Ne Nat T I) ∧ (@Ne Nat T C) ∧ (@Ne Nat T D))) E' { s with heap := h, toks := tk }) ∧
    (∀ D ts h tk news', Fr h₀ L h m → News h₀ L h ((D, LCg.lst (refsOf ts)) :: news') → (∀ p ∈ news', p.1 ≠ D) → (∀ p ∈ news, p ∈ news') → TupsIn news' ts → (ts.map fun t => (t.2.1, t.2.2)) = (nms R).map (fun n => (loOf R n, n)) →
      Q (.ref D) { s with heap := h, toks := tk })

theorem off1_ne {D : Addr} : ∀ {l : List (Addr × Obj)}, LCg.Off1 D l → ∀ p ∈ l, p.1 ≠ D
  | [], _, p, h => nomatch h
  | _ :: _, x, p, h => by
    rcases List.mem_cons.mp h with rfl | h
    · exact x.1
    · exact off1_ne x.2 p h

theorem tupsIn_mono {a b : List (Addr × Obj)} {ts : List TT} (h : TupsIn a ts) (hs : ∀ p ∈ a, p ∈ b) : TupsIn b ts := fun r hr => by
  obtain ⟨t, u, hm⟩ := h r hr
  exact ⟨t, u, hs _ hm⟩

theorem tcomp_rest {scope : Scope} {cl : List (Str × Addr)} {x : Str} {elt : Expr} {R : List Rng} {Q : Value → Shared → Prop} {ns : List Int} {P : Nat → Value → Prop}
    (hP : ∀ i v, P i v → ∃ n t, ns[i]? = some n ∧ v = .int n t)
    (turn : ∀ n tn I oI C oC D ys m₂ h tk news' (E' : Value → Shared → Prop), n ∈ ns → LCg.NsObj oC m₂ → m₂ x = some (.int n tn) → Fr h₀ L h m → News h₀ L h ((I, oI) :: (C, oC) :: (D, LCg.lst ys) :: news') → LCg.Off3 I C D news' → (∀ p ∈ news, p ∈ news') →
      ((@Ne Nat I C) ∧ (@Ne Nat I D) ∧ (@Ne Nat C D)) →
      wpAny (model prog w) A (eval elt (compEnvC scope cl C env)) (fun y s₂ => ∃ h' tk' T t u, s₂ = { s with heap := h', toks := tk' } ∧ y = .ref T ∧ Fr h₀ L h' m ∧ News h₀ L h' ((T, pairObj (loOf R n) n t u) :: (I, oI) :: (C, oC) :: (D, LCg.lst ys) :: news') ∧ ((@Ne Nat T I) ∧ (@Ne Nat T C) ∧ (@Ne Nat T D))) E' { s with heap := h, toks := tk })
    (fin : ∀ D ts h tk news', Fr h₀ L h m → News h₀ L h ((D, LCg.lst (refsOf ts)) :: news') → (∀ p ∈ news', p.1 ≠ D) → (∀ p ∈ news, p ∈ news') → TupsIn news' ts → (ts.map fun t => (t.2.1, t.2.2)) = ns.map (fun n => (loOf R n, n)) →
      Q (.ref D) { s with heap := h, toks := tk }) :
    ∀ (k i : Nat) (ts : List TT) (nw : List (Addr × Obj)), i + k = ns.length → (∀ p ∈ news, p ∈ nw) → TupsIn nw ts → (ts.map fun t => (t.2.1, t.2.2)) = (ns.take i).map (fun n => (loOf R n, n)) →
      LCg.CompRest prog w A h₀ L m env elt x scope cl s (fun nw => ∀ p ∈ news, p ∈ nw) P (LCg.FinE h₀ L m s Q) k i (refsOf ts) nw
  | 0, i, ts, nw, e, hs, ht, hm => LCg.CompRest.zero fun D h tk F N o1 => fin D ts h tk nw F N (off1_ne o1) hs ht (by rw [hm, List.take_of_length_le (by omega)])
  | k + 1, i, ts, nw, e, hs, ht, hm => by
    refine LCg.CompRest.succ fun v I oI C oC D m₂ h tk E' hPv hoC hmx F N off hne => ?_
    obtain ⟨n, t, hn, rfl⟩ := hP i v hPv
    refine wpAny_mono (turn n t I oI C oC D (refsOf ts) m₂ h tk nw E' (List.mem_of_getElem? hn) hoC hmx F N off hs hne) (fun y s₂ hh => ?_) fun _ _ e => e
    obtain ⟨h', tk', T, t', u', rfl, rfl, F', N', hT⟩ := hh
    refine LCg.CompEnd.intro F' N' ((T, pairObj (loOf R n) n t' u') :: nw) (fun p hp => ?_) ⟨hT, off⟩ (fun p hp => .tail _ (hs p hp)) ?_
    · simp only [List.mem_cons] at hp ⊢
      grind
    · have := tcomp_rest hP turn fin k (i + 1) (ts ++ [(T, loOf R n, n)]) ((T, pairObj (loOf R n) n t' u') :: nw) (by omega) (fun p hp => .tail _ (hs p hp)) (fun q hq => ?_) ?_
      · have e2 : refsOf (ts ++ [(T, loOf R n, n)]) = refsOf ts ++ [.ref T] := by simp [refsOf]
        rw [e2] at this
        exact this
      · rcases List.mem_append.mp hq with hq | hq
        · obtain ⟨a, b, hm⟩ := ht q hq
          exact ⟨a, b, .tail _ hm⟩
        · rw [List.mem_singleton.mp hq]
          exact ⟨t', u', .head _⟩
      · rw [List.map_append, hm, List.take_add_one, hn]
        simp

theorem ListComp_tups {elt iter : Expr} {x : Str} {px : Pos} {scope : Scope} {cl : List (Str × Addr)} {pos : Pos} {Q : Value → Shared → Prop}
    (hclos : closureFor scope env = pure cl) (hcell : ∀ y ∈ scope.names, y.2 ≠ .cell) (hkind : scope.kind = .function)
    (hnames : ∀ y ∈ scope.names, y.2 = .local → scope.names.lookup y.1 = some .local) (hx : scope.names.lookup x = some .local)
    (h : wpAny (model prog w) A (eval iter env) (fun xv s₁ => CompSrcT prog w A env scope cl x elt Q E xv s₁) E s)
    (hs : ∀ x, foldedSetIterable iter env x = pure x) :
    wpAny (model prog w) A (eval (.ListComp elt [⟨.Name x px, iter, [], 0⟩] scope pos) env) Q E s := by
  rw [eval_ListComp]
  refine wpAny_comprehension_free (use := none) rfl hs hclos hkind hnames (wpAny_mono h (fun xv s₁ h₁ => ?_) fun _ _ e => e)
  obtain ⟨h₀, L, m, news, d, o, R, rfl, hh, lo, F, N, hdm, hdo, hlen, turn, fin⟩ := h₁.go
  have hd : s₁.heap.DictOf (PySem.intKind prog w) d (R.map fun r => (r.name, Value.ref r.adr)) := Heap.dictOf_iff.mpr ⟨o, News.get N hdm, hdo⟩
  obtain ⟨ep, hat⟩ := hd.dictAt
  have hlt : d < s₁.heap.objs.size := hat.lt_size
  have hdI : d ≠ s₁.heap.objs.size := Nat.ne_of_lt hlt
  refine wpAny_pyIter_dict lo hat ?_
  have up : ∀ b o, s₁.heap.get? b = some o → (s₁.heap.push { cls := .type "dict_keyiterator", data := .fields #[.ref d, .int 0 0, .int (R.map fun r => (r.name, Value.ref r.adr)).length 0, .int ep 0] }).get? b = some o := fun b o e => Heap.get?_push_of_some _ e
  refine LCg.block_U (P := fun i v => ∃ k x, (R.map fun r => (r.name, Value.ref r.adr))[i]? = some (k, x) ∧ (PySem.intKind prog w).is k v = true) (S := fun nw => ∀ p ∈ news, p ∈ nw) (news := news)
    (Fin := LCg.FinE h₀ L m { s₁ with heap := s₁.heap.push { cls := .type "dict_keyiterator", data := .fields #[.ref d, .int 0 0, .int (R.map fun r => (r.name, Value.ref r.adr)).length 0, .int ep 0] } } Q)
    (Walks.dictKeys hh s₁.heap.objs.size d hdI _ ep) (by rw [sizeLine_eq, List.length_map]; omega) (fun i h st => by obtain ⟨o, e, _⟩ := st.1; exact ⟨o, e⟩) ?hSt hcell hkind hx
    ⟨⟨_, Heap.get?_push_size _ rfl, rfl, rfl⟩, hat.push _⟩ (fun b hb => ?_) (F.keeps up) (N.grown up) (Nat.ne_of_lt F.ns.lt) (next_is_new F) (fun p hp => Nat.ne_of_lt (Heap.lt_size (N p hp).1)) (fun p hp => hp) ?R ?_
  case hSt =>
    intro i h h' o' nw st e e' k N' hS
    refine ⟨st.1.at fun o2 q => ?_, hat.at' fun o2 q => ?_⟩
    · rw [e] at q; cases q; exact e'
    · rw [News.get N hdm] at q; cases q
      exact News.get N' (hS _ hdm)
  case R =>
    refine tcomp_rest (s := { s₁ with heap := s₁.heap.push { cls := .type "dict_keyiterator", data := .fields #[.ref d, .int 0 0, .int (R.map fun r => (r.name, Value.ref r.adr)).length 0, .int ep 0] } }) (ns := nms R)
      (P := fun i v => ∃ k x, (R.map fun r => (r.name, Value.ref r.adr))[i]? = some (k, x) ∧ (PySem.intKind prog w).is k v = true) (news := news) (R := R) (Q := Q) (fun i v hv => ?_) turn fin _ 0 [] news (by simp [nms]) (fun p hp => hp) (fun _ h => nomatch h) rfl
    obtain ⟨k, y, hx, hk⟩ := hv
    obtain ⟨t, rfl⟩ := Value.isInt_shape hk
    refine ⟨k, t, ?_, rfl⟩
    rw [List.getElem?_map] at hx
    unfold nms
    rw [List.getElem?_map]
    cases hr : R[i]? with
    | none => rw [hr] at hx; cases hx
    | some r => rw [hr] at hx; cases hx; rfl
  · show b < (s₁.heap.push _).objs.size
    rw [Heap.size_push]
    rcases List.mem_cons.mp hb with rfl | hb
    · exact Nat.lt_succ_self _
    · rw [List.mem_singleton.mp hb]; exact Nat.lt_succ_of_lt hlt
  · intro D C h tk m' ys news' F' N' o1 hn hC₀ hD₀ hCL hDL hCD offC fin'
    refine ⟨m', hn, fun h'' hs'' => fin' D h'' tk (F'.change hs'' hCL hC₀) (fun p hp => ?_) o1⟩
    refine ⟨hs''.extBut _ _ ?_ (N' p hp).1, (N' p hp).2⟩
    rcases List.mem_cons.mp hp with rfl | hp
    · exact Ne.symm hCD
    · exact offC p hp
end
end Mine

end
/-! Ops1 -/
section
open PySem PySem.W PySem.Calls PyProof.Rows PyProof.V PySem.Spec
namespace Mine
/-- a dict of ints to ints, as it lies -/
def DL (prog : Program) (w : World) (o : Obj) (D : List (Int × Int)) : Prop := ∃ kvs, o.IsDictOf (PySem.intKind prog w) kvs ∧ FlatPairs PyData.int kvs (kdfD D)

theorem has_of_key {D : List (Int × Int)} {k : Int} (h : k ∈ keys D) : kdfHas D k = true := by
  obtain ⟨p, hp, rfl⟩ := List.mem_map.mp h
  exact List.any_eq_true.mpr ⟨p, hp, decide_eq_true rfl⟩
theorem kdfD_del (D : List (Int × Int)) (k : Int) : delD (PyData.int k) (kdfD D) = kdfD (delD' D k) := by
  unfold delD kdfD delD'
  induction D with
  | nil => rfl
  | cons p D ih =>
    rw [List.map_cons, List.filter_cons, List.filter_cons]
    rw [PyProof.V.same_int]
    by_cases h : p.1 = k
    · simpa [h] using ih
    · simpa [h] using ih

theorem intsAre_split : ∀ {us : List Value} {a b : List Int} {n : Int}, IntsAre us (a ++ n :: b) → ∃ ua ub t, us = ua ++ Value.int n t :: ub ∧ IntsAre ua a ∧ IntsAre ub b
  | _, [], _, _, h => by
    cases h with
    | cons _ t h => exact ⟨[], _, t, rfl, .nil, h⟩
  | _, x :: a, _, _, h => by
    cases h with
    | cons _ t h =>
      obtain ⟨ua, ub, t', rfl, h1, h2⟩ := intsAre_split h
      exact ⟨_ :: ua, ub, t', rfl, .cons _ _ h1, h2⟩

def isN (n : Int) : Value → Bool
  | .int a _ => a == n
  | _ => false
theorem intsAre_isN {n : Int} : ∀ {us : List Value} {a : List Int}, IntsAre us a → n ∉ a → ∀ v ∈ us, isN n v = false
  | _, _, .nil, _, v, hv => nomatch hv
  | _, _, .cons k t h, hn, v, hv => by
    rcases List.mem_cons.mp hv with rfl | hv
    · exact beq_eq_false_iff_ne.mpr fun e => hn (e ▸ .head _)
    · exact intsAre_isN h (fun h => hn (.tail _ h)) v hv
theorem intsAre_shape : ∀ {us : List Value} {a : List Int}, IntsAre us a → ∀ v ∈ us, ∃ k t, v = Value.int k t
  | _, _, .nil, v, hv => nomatch hv
  | _, _, .cons k t h, v, hv => by
    rcases List.mem_cons.mp hv with rfl | hv
    · exact ⟨k, t, rfl⟩
    · exact intsAre_shape h v hv

section
variable {prog : Program} {w : World} {A : Around} {E : Value → Shared → Prop} {s : Shared} {h₀ : Heap} {L D d : Addr} {m : Str → Option Value} {news : List (Addr × Obj)} {g : Obj → List (Addr × Obj)} {us : List Value} {ns : List Int} {c : Nat} {o : Obj} {dl : List (Int × Int)} {n k v : Int} {t tk tv : Tok}

theorem ints_append {Q : Value → Shared → Prop} (F : Fr h₀ L s.heap m) (N : News h₀ L s.heap news) (U : UpdF D (listOf us.toArray c) news g) (hi : IntsAre us ns) (hz : ns.length ≤ 1000)
    (h : ∀ h' us' c', Fr h₀ L h' m → News h₀ L h' (g (listOf (List.toArray us') c')) → IntsAre us' (ns ++ [n]) → Q .none { s with heap := h' }) :
    wpAny (model prog w) A (call (.builtin "list.append") [.ref D, .int n t]) Q E s := by
  obtain ⟨pre, post, rfl, hg, a, b⟩ := U.split
  have z := N (D, listOf us.toArray c) (List.mem_append.mpr (.inr (.head _)))
  refine append_at z.1 (fun h' hs ho' => h h' (us ++ [.int n t]) (c + 1) (F.change hs z.2.1 z.2.2) (hg _ ▸ news_set N a b hs ?_) (hi.append (.cons _ _ .nil))) (by rw [List.size_toArray, hi.length, sizeLine_eq]; omega)
  rw [ho']
  simp [W.listOf]

theorem ints_pop {Q : Value → Shared → Prop} (F : Fr h₀ L s.heap m) (N : News h₀ L s.heap news) (U : UpdF D (listOf us.toArray c) news g) (hi : IntsAre us ns) (hz : ns.length ≤ 1000) (hl : ns.getLast? = some n)
    (h : ∀ h' us' c' t, Fr h₀ L h' m → News h₀ L h' (g (listOf (List.toArray us') c')) → IntsAre us' ns.dropLast → Q (.int n t) { s with heap := h' }) :
    wpAny (model prog w) A (call (.builtin "list.pop") [.ref D]) Q E s := by
  obtain ⟨pre, post, rfl, hg, a, b⟩ := U.split
  have hne : ns ≠ [] := fun e => by rw [e] at hl; cases hl
  have hl2 : ns.getLastD 0 = n := by rw [List.getLastD_eq_getLast?, hl]; rfl
  have U2 : ∀ {pre : List (Addr × Obj)}, (∀ p ∈ pre, p.1 ≠ D) → Upd D (listOf us.toArray c) (listOf us.dropLast.toArray (c + 1)) (pre ++ (D, listOf us.toArray c) :: post) (pre ++ (D, listOf us.dropLast.toArray (c + 1)) :: post) := by
    intro pre
    induction pre with
    | nil => intro _; exact .head b
    | cons p pre ih => intro hp; exact .tail (hp p (.head _)) (ih fun q hq => hp q (.tail _ hq))
  refine kpa_pop F N (U2 a) hi (by rw [hi.length]; exact List.length_pos_iff.mpr hne) (by rw [hi.length, sizeLine_eq]; omega) fun h' t F' N' hi' => ?_
  rw [hl2]
  exact h h' _ _ t F' (hg _ ▸ N') hi'

theorem ints_remove {Q : Value → Shared → Prop} (F : Fr h₀ L s.heap m) (N : News h₀ L s.heap news) (U : UpdF D (listOf us.toArray c) news g) (hi : IntsAre us ns) (hz : ns.length ≤ 1000) (hn : n ∈ ns)
    (h : ∀ h' us' c', Fr h₀ L h' m → News h₀ L h' (g (listOf (List.toArray us') c')) → IntsAre us' (ns.erase n) → Q .none { s with heap := h' }) :
    wpAny (model prog w) A (call (.builtin "list.remove") [.ref D, .int n t]) Q E s := by
  obtain ⟨pre, post, rfl, hg, a, b⟩ := U.split
  have z := N (D, listOf us.toArray c) (List.mem_append.mpr (.inr (.head _)))
  obtain ⟨l1, l2, hnot, rfl, he⟩ := List.exists_erase_eq hn
  have hlen := hi.length
  obtain ⟨ua, ub, t', rfl, hi1, hi2⟩ := intsAre_split hi
  rw [he] at h
  have hsz : (ua ++ Value.int n t' :: ub).toArray.size ≤ sizeLine := by rw [List.size_toArray, hlen, sizeLine_eq]; omega
  refine call_meets PySem.F.slot_list_remove ⟨_, z.1, rfl⟩ PySem.F.entry_list_remove (PySem.F.args_list_remove_2 _ _)
    (MeetsSeq.list_remove D _ c (.int n t) (isN n) (fun y hy => ?_) ua.length (by simp) ?_ (fun i hi' hlt => ?_) hsz)
    ⟨z.1, ?_⟩
  · obtain ⟨k, t2, rfl⟩ := intsAre_shape hi y (by simpa using hy)
    exact MeetsSeq.EqGives.int _ _ _ _
  · simp [isN]
  · refine intsAre_isN hi1 hnot _ ?_
    simp only [List.getElem_toArray]
    rw [List.getElem_append_left hlt]
    exact List.getElem_mem hlt
  · obtain ⟨c', hc'⟩ : ∃ c', (s.heap.update D (Obj.mapSeq fun xs => xs.eraseIdxIfInBounds ua.length)).get? D = some (listOf ((ua ++ Value.int n t' :: ub).toArray.eraseIdxIfInBounds ua.length) c') := ⟨_, get?_update_seq z.1 _⟩
    rw [kl_erase] at hc'
    exact h _ (ua ++ ub) c' (F.change (Heap.SameBut.update ..) z.2.1 z.2.2) (hg _ ▸ news_set N a b (Heap.SameBut.update ..) hc') (hi1.append hi2)

theorem dealt_set {Q : Unit → Shared → Prop} (F : Fr h₀ L s.heap m) (N : News h₀ L s.heap news) (U : UpdF d o news g) (hd : DL prog w o dl) (hz : dl.length ≤ 1000)
    (h : ∀ h' o', Fr h₀ L h' m → News h₀ L h' (g o') → DL prog w o' (putD' dl k v) → Q () { s with heap := h', toks := s.toks + 1 }) :
    wpAny (model prog w) A (setItem (.ref d) (.int k tk) (.int v tv)) Q E s := by
  obtain ⟨kvs, h1, h2⟩ := hd
  exact kdf_setItem F N U h1 h2 (by omega) fun h' o' kvs' F' N' a b => h h' o' F' N' ⟨kvs', a, b⟩

theorem dealt_item {value slice : PySem.Expr} {Q : Value → Shared → Prop} (lo : (d == sysModules) = false) (hg : s.heap.get? d = some o) (hd : DL prog w o dl) (hk : k ∈ keys dl)
    (h : ∀ t, Q (.int (look dl k) t) { s with toks := s.toks + 1 })
    (hs : subscripted slice false (.ref d) (.int k tk) = operate [.ref d, .int k tk] (getItem (.ref d) (.int k tk)) := by with_unfolding_all rfl) (hgo : ∀ r, letTemporaryGo value (.ref d) r = pure () := by intro _; with_unfolding_all rfl) :
    wpAny (model prog w) A (subscriptTail value slice (.ref d) (.int k tk)) Q E s := by
  obtain ⟨kvs, h1, h2⟩ := hd
  exact kdf_item (TabAt.ofObj lo hg h1 h2) (has_of_key hk) h hs hgo

theorem dealt_pop {Q : Value → Shared → Prop} (F : Fr h₀ L s.heap m) (N : News h₀ L s.heap news) (U : UpdF d o news g) (hd : DL prog w o dl) (hz : dl.length ≤ 1000) (hk : k ∈ keys dl)
    (h : ∀ h' o' t, Fr h₀ L h' m → News h₀ L h' (g o') → DL prog w o' (delD' dl k) → Q (.int (look dl k) t) { s with heap := h', toks := s.toks + 1 }) :
    wpAny (model prog w) A (call (.builtin "dict.pop") [.ref d, .int k tk]) Q E s := by
  obtain ⟨kvs, h1, h2⟩ := hd
  obtain ⟨v, hv, hf⟩ := h2.of_lookup same_int (kdfD_item (has_of_key hk))
  obtain ⟨t, rfl⟩ := PyProof.V.Flat.int_inv hf
  refine kob_pop (knd := PySem.intKind _ _) (more := []) F N U h1 (intKind_is _ _ _ _) (.inl rfl) (by rfl) (PySem.F.args_dict_pop_2 _ _) hv ?_ fun h' o' F' N' a => h h' o' t F' N' ⟨_, a, by rw [← kdfD_del]; exact h2.without same_int k⟩
  have := h2.length
  rw [kdfD_length] at this
  rw [sizeLine_eq]; omega

theorem dealt_method {name : Str} {id : String} {pl : Sem Bool} {Q : Value × List Value → Shared → Prop} (slot : Slot "dict" name id) (ty : typeOf (.builtin id) = pure (.type "method_descriptor")) (N : News h₀ L s.heap news) (hp : (d, o) ∈ news) (hd : DL prog w o dl) (h : Q (.builtin id, [.ref d]) s) :
    wpAny (model prog w) A (getMethod (.ref d) name pl) Q E s := by
  obtain ⟨kvs, h1, h2⟩ := hd
  exact kob_method slot ty N hp h1 h
theorem ints_method {name : Str} {id : String} {pl : Sem Bool} {Q : Value × List Value → Shared → Prop} (N : News h₀ L s.heap news) (hm : (D, listOf us.toArray c) ∈ news) (slot : Slot "list" name id) (hty : typeOf (.builtin id) = pure (.type "method_descriptor"))
    (h : Q (.builtin id, [.ref D]) s) : wpAny (model prog w) A (getMethod (.ref D) name pl) Q E s := kl_method N hm slot hty h
theorem ints_truthy {Q : Bool → Shared → Prop} (N : News h₀ L s.heap news) (hm : (D, listOf us.toArray c) ∈ news) (hi : IntsAre us ns) (hz : ns.length ≤ 1000)
    (h1 : ns = [] → Q false { s with toks := s.toks + 1 + 1 }) (h2 : ∀ n, ns.getLast? = some n → Q true { s with toks := s.toks + 1 + 1 }) : wpAny (model prog w) A (truthy (.ref D)) Q E s := by
  refine truthy_ints_fit ⟨_, News.get N hm, rfl, _, rfl⟩ hi (by omega) ?_
  cases hl : ns.getLast? with
  | none =>
    have e := List.getLast?_eq_none_iff.mp hl
    rw [e]; exact h1 e
  | some n =>
    have : ns ≠ [] := fun e => by rw [e] at hl; cases hl
    rw [decide_eq_true (List.length_pos_iff.mpr this)]
    exact h2 n hl
theorem list_down {c : Nat} {r : Addr} {t u v : Tok} {Q : Value → Shared → Prop} (hh : A.handled = none) (F : Fr h₀ L s.heap m) (N : News h₀ L s.heap news) (hr : IsRange s.heap r ((c : Int) - 1) (-1) (-1) t u v) (hc : c ≤ 4)
    (h : ∀ D h' tk ys n, Fr h₀ L h' m → News h₀ L h' ((D, listOf (List.toArray ys) n) :: news) → (∀ q ∈ news, q.1 < D) → IntsAre ys (pool c).reverse → Q (.ref D) { s with heap := h', toks := tk }) :
    wpAny (model prog w) A (call (.type "list") [.ref r]) Q E s := by
  have h1 : Builtin.Range.small ((c : Int) - 1) (-1) (-1) = true ∧ Builtin.Range.rangeSize ((c : Int) - 1) (-1) (-1) = (c : Int) := by
    have : c = 0 ∨ c = 1 ∨ c = 2 ∨ c = 3 ∨ c = 4 := by omega
    rcases this with rfl | rfl | rfl | rfl | rfl <;> exact ⟨by decide, by decide⟩
  refine call_list_range hh hr h1.1 h1.2 (by omega) fun h' tk acc' c' hk hS' hacc => ?_
  refine h s.heap.objs.size h' tk acc'.toList c' (F.keeps hk) (fun p hp => ?_) (fun q hq => Heap.lt_size (N q hq).1) ?_
  · rcases List.mem_cons.mp hp with rfl | hp
    · refine ⟨by rw [Array.toArray_toList]; exact hS', Nat.ne_of_gt F.ns.lt, next_is_new F⟩
    · exact ⟨hk _ _ (N p hp).1, (N p hp).2⟩
  · refine intsAre_of_places (by rw [List.length_reverse, pool_length, Array.length_toList]; exact hacc.1) fun j y hy => ?_
    have hy' : acc'[j]? = some y := by simpa using hy
    obtain ⟨tk2, rfl⟩ := hacc.2 j y hy'
    have hj : j < c := by
      have := (Array.getElem?_eq_some_iff.mp hy').1
      rw [hacc.1] at this; exact this
    refine ⟨(c : Int) - 1 + (j : Int) * -1, tk2, ?_, rfl⟩
    have hlen := pool_length c
    rw [List.getElem?_reverse (by omega), hlen]
    unfold pool
    rw [List.getElem?_map, List.getElem?_range (by omega)]
    show some (Int.ofNat (c - 1 - j)) = _
    congr 1
    show ((c - 1 - j : Nat) : Int) = _
    omega
theorem freed_at {Hi : Int → Int} {f : Int} {D : List (Int × Int)} {act free : List Int} (hn : act.Nodup) {j : Nat} {x : Int} (hj : act[j]? = some x) : x ∈ ((act.take j).foldl (freeTurn Hi f D) (act, free)).1 := by
  rw [freed_eq Hi f D (act.take j) act free hn]
  refine List.mem_filter.mpr ⟨List.mem_of_getElem? hj, ?_⟩
  have : (act.take j).contains x = false := by
    rw [Bool.eq_false_iff]
    intro hc
    have hx := List.contains_iff_mem.mp hc
    obtain ⟨i, hi⟩ := List.mem_iff_getElem?.mp hx
    have hij : i < j := by
      have := (List.getElem?_eq_some_iff.mp hi).1
      simp only [List.length_take] at this
      omega
    rw [List.getElem?_take_of_lt hij] at hi
    have h1 := List.getElem?_eq_some_iff.mp hi
    have h2 := List.getElem?_eq_some_iff.mp hj
    obtain ⟨a1, a2⟩ := h1
    obtain ⟨b1, b2⟩ := h2
    exact absurd ((List.getElem_inj hn).mp (a2.trans b2.symm)) (by omega)
  rw [this]; simp
theorem freed_len {Hi : Int → Int} {f : Int} {D : List (Int × Int)} : ∀ (l : List Int) (af : List Int × List Int), ((l.foldl (freeTurn Hi f D) af).1).length ≤ af.1.length ∧ ((l.foldl (freeTurn Hi f D) af).2).length ≤ af.2.length + l.length
  | [], af => ⟨Nat.le_refl _, Nat.le_refl _⟩
  | x :: l, af => by
    obtain ⟨h1, h2⟩ := freed_len (Hi := Hi) (f := f) (D := D) l (freeTurn Hi f D af x)
    have e1 : (freeTurn Hi f D af x).1.length ≤ af.1.length := by
      unfold freeTurn; split
      · exact List.length_erase_le
      · exact Nat.le_refl _
    have e2 : (freeTurn Hi f D af x).2.length ≤ af.2.length + 1 := by
      unfold freeTurn; split
      · simp
      · exact Nat.le_succ _
    rw [List.foldl_cons, List.length_cons]
    omega
end
end Mine

end
/-! Law4 -/
section
open PySem PySem.W PySem.Calls PyProof.Rows
namespace Mine
section
variable {Lo Hi : Int → Int} {c : Nat} {names order : List Int}
theorem take_facts (hn : names.Nodup) (hp : order.Perm names) (ho : order.Pairwise fun a b => Lo a ≤ Lo b) {i : Nat} {reg : Int} (hi : order[i]? = some reg) :
    (order.take i ++ [reg]).Nodup ∧ (∀ x ∈ order.take i ++ [reg], x ∈ names) ∧ (∀ x ∈ order.take i, Lo x ≤ Lo reg) ∧ (∀ x ∈ names, Lo x < Lo reg → x ∈ order.take i) := by
  have e : order = (order.take i ++ [reg]) ++ order.drop (i + 1) := by
    have h1 := (List.take_append_drop (i + 1) order).symm
    rw [List.take_add_one, hi] at h1
    exact h1
  have hnd : order.Nodup := hp.symm.nodup hn
  have hnd2 := hnd
  rw [e] at hnd2
  have ho2 := ho
  rw [e] at ho2
  have ho1 := List.pairwise_append.mp ho2
  have ho3 := List.pairwise_append.mp ho1.1
  refine ⟨(List.nodup_append.mp hnd2).1, fun x hx => hp.subset (by rw [e]; exact List.mem_append.mpr (.inl hx)), fun x hx => ho3.2.2 x hx reg (List.mem_singleton.mpr rfl), fun x hx hlt => ?_⟩
  have hx' := hp.symm.subset hx
  rw [e] at hx'
  rcases List.mem_append.mp hx' with h | h
  · rcases List.mem_append.mp h with h | h
    · exact h
    · rw [List.mem_singleton.mp h] at hlt; omega
  · have := ho1.2.2 reg (List.mem_append.mpr (.inr (List.mem_singleton.mpr rfl))) x h
    omega

theorem inv_take (hn : names.Nodup) (hle : ∀ x ∈ names, Lo x ≤ Hi x) (hp : order.Perm names) (ho : order.Pairwise fun a b => Lo a ≤ Lo b) :
    ∀ i, Inv Lo Hi c names (order.take i) ((order.take i).foldl (turn Lo Hi) (start c))
  | 0 => inv_start Lo Hi c names
  | i + 1 => by
    have I := inv_take hn hle hp ho i
    cases h : order[i]? with
    | none =>
      have hl : order.length ≤ i := List.getElem?_eq_none_iff.mp h
      rw [List.take_of_length_le (by omega)]
      rw [List.take_of_length_le hl] at I
      exact I
    | some reg =>
      obtain ⟨h1, h2, h3, h4⟩ := take_facts hn hp ho h
      rw [List.take_add_one, h, Option.toList_some, List.foldl_append]
      exact inv_turn I hn h1 h2 h3 (hle reg (h2 reg (List.mem_append.mpr (.inr (List.mem_singleton.mpr rfl))))) h4

/-- what a turn may lean on -/
structure TurnF (Lo Hi : Int → Int) (names : List Int) (S : SS) (reg : Int) : Prop where
  regN : reg ∈ names
  regK : reg ∉ keys S.D
  actN : S.act.Nodup
  actK : ∀ a ∈ S.act, a ∈ keys S.D
  keyN : ∀ a ∈ keys S.D, a ∈ names
  lenD : S.D.length ≤ 7
  lenA : S.act.length ≤ 7
  lenS : S.spl.length ≤ 7
  lenF : S.free.length ≤ 4
  len1 : ∀ j, (((S.act.take j).foldl (freeTurn Hi (Lo reg) S.D) (S.act, S.free)).1).length ≤ 7
  len2 : ∀ j, (((S.act.take j).foldl (freeTurn Hi (Lo reg) S.D) (S.act, S.free)).2).length ≤ 11

theorem turn_facts (hn : names.Nodup) (hle : ∀ x ∈ names, Lo x ≤ Hi x) (hp : order.Perm names) (ho : order.Pairwise fun a b => Lo a ≤ Lo b) (h7 : names.length ≤ 7) (hc : c ≤ 4) {i : Nat} {reg : Int} (hi : order[i]? = some reg) :
    TurnF Lo Hi names ((order.take i).foldl (turn Lo Hi) (start c)) reg := by
  have I := inv_take (c := c) hn hle hp ho i
  obtain ⟨h1, h2, h3, h4⟩ := take_facts hn hp ho hi
  generalize (order.take i).foldl (turn Lo Hi) (start c) = S at I
  have hs : ∀ x ∈ order.take i, x ∈ names := fun x hx => h2 x (List.mem_append.mpr (.inl hx))
  have hk : ∀ k ∈ keys S.D, k ∈ order.take i := fun k hk => I.perm.subset (List.mem_append.mpr (.inl hk))
  have hl := I.perm.length_eq
  have hl2 : (order.take i).length ≤ 7 := by
    have := hp.length_eq
    rw [List.length_take]; omega
  rw [List.length_append] at hl
  have hkl : (keys S.D).length = S.D.length := by simp [keys]
  have hpl := I.pool.length_eq
  rw [List.length_append, List.length_map, pool_length] at hpl
  have lenA : S.act.length ≤ 4 := by omega
  refine ⟨h2 reg (List.mem_append.mpr (.inr (List.mem_singleton.mpr rfl))), fun h => ?_, I.actN, I.actS, fun a ha => hs a (hk a ha), by omega, by omega, by omega, by omega, fun j => ?_, fun j => ?_⟩
  · exact (List.nodup_append.mp h1).2.2 reg (hk reg h) reg (List.mem_singleton.mpr rfl) rfl
  · have := (freed_len (Hi := Hi) (f := Lo reg) (D := S.D) (S.act.take j) (S.act, S.free)).1
    dsimp only at this
    omega
  · have := (freed_len (Hi := Hi) (f := Lo reg) (D := S.D) (S.act.take j) (S.act, S.free)).2
    rw [List.length_take] at this
    dsimp only at this
    omega
end
theorem key_lo {R : List Rng} {order : List Int} (hp : order.Perm (nms R)) (hb : ∀ n ∈ nms R, 0 ≤ n ∧ n < 100) (ho : order.Pairwise fun a b => loOf R a * 100 + a ≤ loOf R b * 100 + b) : order.Pairwise fun a b => loOf R a ≤ loOf R b := by
  refine ho.imp_of_mem fun {a b} ha hb' h => ?_
  have h1 := hb a (hp.subset ha)
  have h2 := hb b (hp.subset hb')
  omega
theorem order_unique {R : List Rng} {o1 o2 : List Int} (hb : ∀ n ∈ nms R, 0 ≤ n ∧ n < 100) (h1 : o1.Perm (nms R)) (h2 : o2.Perm (nms R))
    (p1 : o1.Pairwise fun a b => loOf R a * 100 + a ≤ loOf R b * 100 + b) (p2 : o2.Pairwise fun a b => loOf R a * 100 + a ≤ loOf R b * 100 + b) : o1 = o2 := by
  refine (h1.trans h2.symm).eq_of_pairwise (fun a b ha hb' h3 h4 => ?_) p1 p2
  have b1 := hb a (h1.subset ha)
  have b2 := hb b (h2.subset hb')
  omega
end Mine

end
/-! Sc1 -/
section
open PySem PySem.W PySem.Calls PyProof.Rows PyProof.V PySem.Spec
namespace Mine
local macro_rules | `(tactic| k_all) => `(tactic| first
  | (refine List.forall_mem_append.mpr ⟨?ka, ?kb⟩; (case ka => k_all); (case kb => k_all))
  | exact below_ne (by assumption) (by omega)
  | exact OwnOff.ne (by assumption) (by k_memK))
local macro_rules | `(tactic| walk_at "subscriptTail") => `(tactic| (k_here; (with_reducible show wpAny _ _ (subscriptTail _ _ (Value.ref _) (Value.int _ _)) _ _ _); k_dflt (first
  | (refine' rng_item ?g ?o ?R ?n ?_; (case g => exact News.get (by k_asm) (by k_mem)); (case o => assumption); (case R => assumption); (case n => assumption); intro T' t' u' hT')
  | (refine' pair_item ?g ?lo ?hi ?j ?x ?_; (case g => exact News.get (by k_asm) (by k_mem)); (case lo => decide); (case hi => decide); (case j => rfl); (case x => rfl)))))
local macro_rules | `(tactic| k_mem) => `(tactic| first | assumption | (refine List.mem_append_left _ ?_; k_mem))
local macro_rules | `(tactic| walk_at "eval Name") => `(tactic| (k_here; k_inBlock; k_dflt (first
  | (refine' cname_C ?hk ?hx ?hc ?ho ?hd ?_ ?hb; (case hk => exact rfl); (case hx => exact rfl); (case hc => exact rfl); (case ho => exact News.get (by k_asm) (by k_mem)); (case hd => assumption); (case hb => decide))
  | (refine' ldVarK ?F ?v ?_; (case F => assumption); (case v => assumption)))))
local macro_rules | `(tactic| ktr_unf) => `(tactic| repeat' ((fail_if_success (with_reducible show wpAny _ _ (pyIter _) _ _ _)); (fail_if_success (with_reducible show wpAny _ _ (subscriptTail _ (PySem.Expr.Slice _ _ _ _) _ _) _ _ _)); (fail_if_success (with_reducible show wpAny _ _ (exec (Stmt.For _ _ _ _ _) _) _ _ _)); (fail_if_success (with_reducible show wpAny _ _ (eval (PySem.Expr.ListComp _ _ _ _) _) _ _ _)); (fail_if_success (with_reducible show CompSrcI _ _ _ _ _ _ _ _ _ _ _ _ _ _ _)); (fail_if_success (with_reducible show CompSrcA _ _ _ _ _ _ _ _ _ _ _ _ _ _ _ _)); (fail_if_success (with_reducible show wpAny _ _ (exec (Stmt.Assign _ (PySem.Expr.ListComp _ _ _ _) _) _) _ _ _)); first | (k_unfold; (try dsimp only)) | (k_end; wrow_close) | walk1 | (dsimp only; walk1) | (leave1; walk_say "STEP leave1"; try dsimp only) | fail "no step"))
theorem name4 {P : Prop} {h₀ h : Heap} {L fA sA aA dA : Addr} {o1 o2 o3 o4 : Obj} {r : List (Addr × Obj)} (_ : News h₀ L h ((fA, o1) :: (sA, o2) :: (aA, o3) :: (dA, o4) :: r))
    (k : ∀ (h' : Heap) (sA' aA' dA' : Addr) (o4' : Obj), h' = h → sA' = sA → aA' = aA → dA' = dA → o4' = o4 → P) : P := k _ _ _ _ _ rfl rfl rfl rfl rfl
structure ScS where
  od : Obj
  ua : List Value
  na : Nat
  us : List Value
  ns : Nat
  uf : List Value
  nf : Nat
theorem drop2nd {h₀ h : Heap} {L : Addr} {a b : Addr × Obj} {l : List (Addr × Obj)} (N : News h₀ L h (a :: b :: l)) : News h₀ L h (a :: l) := fun p hp => (List.mem_cons.mp hp).elim (fun e => N p (e ▸ .head _)) fun hp => N p (.tail _ (.tail _ hp))
def keyOf (R : List Rng) (n : Int) : Int := loOf R n * 100 + n
theorem tups_order {R : List Rng} {ts : List TT} (hk : (ts.map fun t => (t.2.1, t.2.2)) = (nms R).map (fun n => (loOf R n, n))) (hnd : (nms R).Nodup) (hnb : ∀ n ∈ nms R, 0 ≤ n ∧ n < 100) :
    (∀ t ∈ ts, 0 ≤ t.2.2 ∧ t.2.2 < 100) ∧ (ts.map fun t => t.2.2).Nodup ∧ ts.length = R.length ∧
    ∀ ts' : List TT, ts'.Perm ts → (ts'.Pairwise fun a b => a.2.1 * 100 + a.2.2 ≤ b.2.1 * 100 + b.2.2) →
      (∀ t ∈ ts', t.2.1 = loOf R t.2.2) ∧ (ts'.map fun t => t.2.2).Perm (nms R) ∧ (ts'.map fun t => t.2.2).Pairwise (fun a b => keyOf R a ≤ keyOf R b) := by
  have e : (ts.map fun t => t.2.2) = nms R := by
    have := congrArg (List.map Prod.snd) hk
    simpa [List.map_map, Function.comp_def] using this
  have el : ∀ t ∈ ts, t.2.1 = loOf R t.2.2 := fun t ht => by
    have hm : (t.2.1, t.2.2) ∈ (nms R).map (fun n => (loOf R n, n)) := by rw [← hk]; exact List.mem_map.mpr ⟨t, ht, rfl⟩
    obtain ⟨n, _, he⟩ := List.mem_map.mp hm
    have e1 := congrArg Prod.fst he
    have e2 := congrArg Prod.snd he
    dsimp only at e1 e2
    rw [← e1, ← e2]
  refine ⟨fun t ht => hnb _ (by rw [← e]; exact List.mem_map.mpr ⟨t, ht, rfl⟩), by rw [e]; exact hnd, ?_, fun ts' hp hpw => ⟨fun t ht => el t (hp.subset ht), ?_, ?_⟩⟩
  · have := congrArg List.length e
    simpa [nms] using this
  · rw [← e]; exact hp.map _
  · rw [List.pairwise_map]
    refine hpw.imp_of_mem fun {a b} ha hb h => ?_
    unfold keyOf
    rw [← el a (hp.subset ha), ← el b (hp.subset hb)]
    exact h
theorem turn_some {Lo Hi : Int → Int} {SD : List (Int × Int)} {SA SP SF A1 F1 : List Int} {reg r : Int} (h : freed Hi (Lo reg) SD SA SF = (A1, F1)) (hl : F1.getLast? = some r) :
    turn Lo Hi ⟨SD, SA, SP, SF⟩ reg = ⟨putD' SD reg r, A1 ++ [reg], SP, F1.dropLast⟩ := by
  unfold turn; dsimp only; rw [h]; dsimp only; rw [hl]
theorem turn_ne {Lo Hi : Int → Int} {SD : List (Int × Int)} {SA SP SF A1 F1 : List Int} {reg l : Int} (h : freed Hi (Lo reg) SD SA SF = (A1, F1)) (hl : F1 = []) (hlg : longest Hi A1 reg = l) (hne : l ≠ reg) :
    turn Lo Hi ⟨SD, SA, SP, SF⟩ reg = ⟨putD' (delD' SD l) reg (look SD l), A1.erase l ++ [reg], SP ++ [l], []⟩ := by
  unfold turn; dsimp only; rw [h]; dsimp only; rw [hl, hlg]; dsimp only [List.getLast?_nil]; rw [if_pos hne]
theorem turn_eq {Lo Hi : Int → Int} {SD : List (Int × Int)} {SA SP SF A1 F1 : List Int} {reg l : Int} (h : freed Hi (Lo reg) SD SA SF = (A1, F1)) (hl : F1 = []) (hlg : longest Hi A1 reg = l) (hne : l = reg) :
    turn Lo Hi ⟨SD, SA, SP, SF⟩ reg = ⟨SD, A1, SP ++ [l], []⟩ := by
  unfold turn; dsimp only; rw [h]; dsimp only; rw [hl, hlg]; dsimp only [List.getLast?_nil]; rw [if_neg (fun x => x hne)]
theorem hw4 {I : Addr} {l1 l2 : List (Addr × Obj)} (h : ∀ p ∈ l1, ¬p.1 ∈ [I]) (e : l2.map (·.1) = l1.map (·.1)) : ∀ p ∈ l2, ¬p.1 ∈ [I] := by
  intro p hp
  have : p.1 ∈ l1.map (·.1) := by rw [← e]; exact List.mem_map.mpr ⟨p, hp, rfl⟩
  obtain ⟨q, hq, hqe⟩ := List.mem_map.mp this
  rw [← hqe]; exact h q hq
local macro_rules | `(tactic| walk_at "call builtin:list.remove") => `(tactic| (k_here; (with_reducible show wpAny _ _ (call (Value.builtin _) [Value.ref _, Value.int _ _]) _ _ _); k_dflt (refine' ints_remove ?F ?N ?U ?i ?z ?n ?_; (case F => k_asm); (case N => k_asm); (case U => k_updF); (case i => assumption); (case z => first | omega | (simp only [List.length_append, List.length_cons, List.length_nil]; omega)); (case n => assumption)); intro h' us' c' F' N' hi'; (try dsimp only at N')))
local macro_rules | `(tactic| walk_at "call builtin:list.append") => `(tactic| (k_here; (with_reducible show wpAny _ _ (call (Value.builtin _) [Value.ref _, Value.int _ _]) _ _ _); k_dflt (refine' ints_append ?F ?N ?U ?i ?z ?_; (case F => k_asm); (case N => k_asm); (case U => k_updF); (case i => assumption); (case z => first | omega | (simp only [List.length_append, List.length_cons, List.length_nil]; omega))); intro h' us' c' F' N' hi'; (try dsimp only at N')))
local macro_rules | `(tactic| walk_at "call builtin:list.pop") => `(tactic| (k_here; (with_reducible show wpAny _ _ (call (Value.builtin _) [Value.ref _]) _ _ _); k_dflt (refine' ints_pop ?F ?N ?U ?i ?z ?l ?_; (case F => k_asm); (case N => k_asm); (case U => k_updF); (case i => assumption); (case z => omega); (case l => assumption)); intro h' us' c' t' F' N' hi'; (try dsimp only at N')))
local macro_rules | `(tactic| walk_at "call builtin:dict.pop") => `(tactic| (k_here; (with_reducible show wpAny _ _ (call (Value.builtin _) [Value.ref _, Value.int _ _]) _ _ _); k_dflt (refine' dealt_pop ?F ?N ?U ?d ?z ?k ?_; (case F => k_asm); (case N => k_asm); (case U => k_updF); (case d => assumption); (case z => omega); (case k => assumption)); intro h' o' t' F' N' hd'; (try dsimp only at N')))
local macro_rules | `(tactic| walk_at "setItem ref int") => `(tactic| (k_here; (with_reducible show wpAny _ _ (setItem (Value.ref _) (Value.int _ _) (Value.int _ _)) _ _ _); k_dflt (refine' dealt_set ?F ?N ?U ?d ?z ?_; (case F => k_asm); (case N => k_asm); (case U => k_updF); (case d => assumption); (case z => first | omega | (refine Nat.le_trans (List.length_filter_le _ _) ?_; omega))); intro h' o' F' N' hd'; (try dsimp only at N')))
local macro_rules | `(tactic| walk_at "getMethod ref") => `(tactic| (k_here; (with_reducible show wpAny _ _ (getMethod (Value.ref _) (PySem.Str.ofString "pop") _) _ _ _); k_dflt (refine' dealt_method PySem.F.slot_dict_pop PySem.F.type_dict_pop ?N ?m ?d ?_; (case N => k_asm); (case m => k_mem); (case d => assumption))))
local macro_rules | `(tactic| walk_at "truthy ref") => `(tactic| (k_here; (with_reducible show wpAny _ _ (truthy (Value.ref _)) _ _ _); k_dflt (refine' ints_truthy ?N ?m ?i ?z ?_ ?_; (case N => k_asm); (case m => k_mem); (case i => assumption); (case z => omega)); (all_goals intros)))
local macro_rules | `(tactic| walk_at "subscriptTail") => `(tactic| (k_here; (with_reducible show wpAny _ _ (subscriptTail _ _ (Value.ref _) (Value.int _ _)) _ _ _); k_dflt (refine' dealt_item ?o ?g ?d ?k ?_; (case o => assumption); (case g => exact News.get (by k_asm) (by k_mem)); (case d => assumption); (case k => assumption); intro t')))
theorem scan_call {w : World} {p : Program} {loose : List Str} {mean : ExcName → Option Value} {mg mb : Str → Option Value} {dp un : Nat} {gd : Option (List Code)} {cn : Str} {cs : Scope} {a : Addr} {ccd : Value} {cl : List (Str × Addr)} {outer : List Env} {A₀ : Around} {base h₀ : Heap} {L : Addr} {m : Str → Option Value} {s : Shared} {Q E : Value → Shared → Prop}
   {news : List (Addr × Obj)} {d : Addr} {o : Obj} {R : List Rng} {c : Nat} {tc : Tok}
   (B : Below A₀ base outer h₀) (F : Fr h₀ L s.heap m) (X : (hd.heap_39 w.params).In h₀) (N : News h₀ L s.heap news) (T : Top p loose mean mg mb h₀) (hk : cs.kind = .function)
   (hdm : (d, o) ∈ news) (lo : (d == sysModules) = false) (hdo : RngDict PySem.Challenge.rw_no0223_01.row.prog w o R) (hR : RngIn news R) (hlen : R.length ≤ 7) (hnd : (nms R).Nodup) (hnb : ∀ n ∈ nms R, 0 ≤ n ∧ n < 100) (hle : ∀ n ∈ nms R, loOf R n ≤ hiOf R n) (hc : c ≤ 4)
   (hdp : dp + 7 < recursionLimit) (hun : un + 80 < cLine)
   (ret : ∀ ord tA dA sA od us k h' tk', ord.Perm (nms R) → (ord.Pairwise fun a b => loOf R a * 100 + a ≤ loOf R b * 100 + b) → (∀ p ∈ news, @LT.lt Nat _ p.1 dA) → @LT.lt Nat _ dA sA → @LT.lt Nat _ sA tA → Fr h₀ L h' m →
     News h₀ L h' ((tA, { cls := .type "tuple", data := .seq #[.ref dA, .ref sA] 0 }) :: (dA, od) :: (sA, listOf (List.toArray us) k) :: news) → (dA == sysModules) = false →
     DL PySem.Challenge.rw_no0223_01.row.prog w od (scanF (loOf R) (hiOf R) c ord).D → IntsAre us (scanF (loOf R) (hiOf R) c ord).spl → Q (.ref tA) { s with heap := h', toks := tk' }) :
   wpAny (model PySem.Challenge.rw_no0223_01.row.prog w) (ktrTop dp un gd cn cs L a ccd cl outer) (call (.ref 19) [.ref d, .int c tc]) Q E s := by
  w_top off
  revert X
  k_fill
  intro X
  refine wpAny_call ?_
  k_dflt (refine' code_defC ?k1 ?k2 ?k3 ?k4 ?k5 ?kA ?kF ?kK ?k6 ?k7 ?k8 ?k9 ?kB ?kD ?_ ?c2 ?c3 ?c4; (case kA => exact rfl); (case kF => exact rfl); (case kK => assumption); (case k1 => k_asm); (case k2 => k_asm); (case k3 => k_asm); (case k4 => k_asm); (case k5 => k_asm); (case k6 => k_is); (case k7 => k_is); (case k8 => ktr_room); (case k9 => exact BindsTo.of_eq rfl); (case kB => exact rfl); (case kD => decide +kernel); (case c2 => exact rfl); (case c3 => exact rfl); (case c4 => exact rfl); k_whole; intro g L1 h1 t1 cells' FG F1 N1 Y B1 X1 T1 l1; (try simp only [List.cons_append, List.nil_append] at N1); (try dsimp only); (try k_lift B1))
  obtain ⟨oR, e, dR⟩ := CellsAre.one Y
  subst e
  clear Y
  simp only [List.cons_append, List.nil_append] at N1
  replace dR : oR.data = .cell (some (.ref d)) := dR
  k_unmd
  k_fold
  ktr_unf
  (refine' ListComp_tups (cl := ?cl) ?hclos ?hcell ?hkind ?hnames ?hx ?h ?hs; (case hclos => with_unfolding_all rfl); (case hcell => decide); (case hkind => with_unfolding_all rfl); (case hnames => decide); (case hx => with_unfolding_all rfl); (case hs => intro _; with_unfolding_all rfl))
  ktr_unf
  refine' ⟨⟨_, _, _, _, _, _, R, rfl, ?hh, lo, ?F, ?N, ?hm, hdo, hlen, ?turn, ?fin⟩⟩
  case hh => exact rfl
  case F => k_asm
  case N => k_asm
  case hm => k_mem
  case turn =>
    intro n tn I oI C oC D ys m₂ h2 tk2 news' E' hn hoC hx2 F2 N2 off hsub hne
    have hR2 : RngIn news' R := rngIn_mono hR (fun p hp => hsub p (.tail _ hp))
    have hcell2 := hsub _ (.head _)
    have hdm2 : (d, o) ∈ news' := hsub _ (.tail _ hdm)
    ktr_unf
    all_goals rename _ ∧ _ ∧ _ ∧ AllLt _ _ => lt
    all_goals rename News _ _ _ _ => N3
    all_goals rename Fr _ _ _ _ => F3
    all_goals first | exact N3 | exact F3 | exact Nat.ne_of_gt lt.1 | exact Nat.ne_of_gt lt.2.1 | exact Nat.ne_of_gt lt.2.2.1
  case fin =>
    intro D ts h2 tk2 news' F2 N2 hne hsub hts hkeys
    ktr_unf
    obtain ⟨hb, hd, hlts, key⟩ := tups_order hkeys hnd hnb
    refine' sorted_tups (ts := ts) F2 N2 ?hl (tupsIn_mono hts fun p hp => .tail _ hp) ?h64 hb hd ?hq9
    case hl => exact ⟨_, News.get N2 (.head _), rfl, _, rfl⟩
    case h64 => omega
    case hq9 =>
      intro D2 ts' c2 h3 F3 N3 hlt3 hperm hpw
      obtain ⟨hlo, hop, hkp⟩ := key ts' hperm hpw
      have hts' : TupsIn news' ts' := fun t ht => hts t (hperm.subset ht)
      have hR2 : RngIn news' R := rngIn_mono hR (fun p hp => hsub p (.tail _ hp))
      have hcell2 := hsub _ (.head _)
      have hdm2 : (d, o) ∈ news' := hsub _ (.tail _ hdm)
      have hlt3' : ∀ p ∈ news', @LT.lt Nat _ p.1 D2 := fun p hp => hlt3 p (.tail _ hp)
      replace N3 := drop2nd N3
      have hsubN : ∀ p ∈ news, p ∈ news' := fun p hp => hsub p (.tail _ hp)
      clear hsub hts hkeys N2 F2 hne N1
      generalize hord : (ts'.map fun t => t.2.2) = ord at hop hkp
      k_unmd
      ktr_unf
      rename IsRange _ _ _ _ _ _ _ _ => hr4
      rename Fr _ _ _ _ => F4
      rename News _ _ _ _ => N4
      refine' list_down ?hh F4 N4 hr4 hc ?hq8
      case hh => exact rfl
      case hq8 =>
        intro fA h5 tk5 uf nf F5 N5 hlt5 huf
        k_unmd
        ktr_unf
        rename Fr _ _ _ _ => FZ
        rename News _ _ _ _ => NZ
        refine name4 NZ fun hZ sA aA dA oA e0 e1 e2 e3 e4 => ?_
        subst e0
        subst e1
        subst e2
        subst e3
        subst e4
        have loA : (dA == sysModules) = false := by assumption
        have hiA : oA.IsDictOf (PySem.intKind PySem.Challenge.rw_no0223_01.row.prog w) [] := by assumption
        have fiA : PyProof.V.FlatPairs (K := Int) PyData.int [] [] := .nil
        (with_unfolding_all refine For_unr g ?_ (by intro _; with_unfolding_all rfl))
        ktr_unf
        have q4 : @LT.lt Nat _ sA fA := hlt5 _ (.head _)
        have q1 : @LT.lt Nat _ D2 dA := by omega
        have q2 : @LT.lt Nat _ dA aA := by omega
        have q3 : @LT.lt Nat _ aA sA := by omega
        have hLo := key_lo hop hnb hkp
        have h7n : (nms R).length ≤ 7 := by simpa [nms] using hlen
        have hZ1 : @LT.lt Nat _ fA hZ.objs.size := Heap.lt_size (News.get NZ (.head _))
        have hlo7 : ord.length ≤ 7 := by rw [hop.length_eq]; exact h7n
        have hlen7 : ts'.length ≤ 7 := by rw [← hord, List.length_map] at hlo7; exact hlo7
        clear hlt5
        refine' unr_list (σ := ScS) (vs := refsOf ts') (fun b => (fA, listOf b.uf.toArray b.nf) :: (sA, listOf b.us.toArray b.ns) :: (aA, listOf b.ua.toArray b.na) :: (dA, b.od) :: (D2, listOf (refsOf ts').toArray c2) :: news') (fun _ => [])
          [Str.ofString "first", Str.ofString "register", Str.ofString "old", Str.ofString "longest"] [dA, aA, sA, fA]
          (fun i b => DL PySem.Challenge.rw_no0223_01.row.prog w b.od ((ord.take i).foldl (turn (loOf R) (hiOf R)) (start c)).D ∧ IntsAre b.ua ((ord.take i).foldl (turn (loOf R) (hiOf R)) (start c)).act ∧ IntsAre b.us ((ord.take i).foldl (turn (loOf R) (hiOf R)) (start c)).spl ∧ IntsAre b.uf ((ord.take i).foldl (turn (loOf R) (hiOf R)) (start c)).free)
          ⟨oA, [], 0, [], 0, uf, nf⟩ ?hh3 ?hl3 ?hlL3 FZ NZ ?hwad3 ?hk3 ?h03 ?turn3 ?done3
        case hh3 => exact rfl
        case hl3 => exact News.isList NZ (by k_mem)
        case hlL3 => exact (NZ _ (.tail _ (.tail _ (.tail _ (.tail _ (.head _)))))).2.1
        case hwad3 =>
          intro b hb
          simp only [List.mem_cons, List.not_mem_nil, or_false] at hb
          rcases hb with rfl | rfl | rfl | rfl <;> exact ⟨Nat.ne_of_gt (by omega), by show @LT.lt Nat _ _ hZ.objs.size; omega⟩
        case hk3 => exact fun _ h => nomatch h
        case h03 => exact ⟨⟨[], hiA, fiA⟩, .nil, .nil, huf⟩
        case turn3 =>
          intro i b v u h9 tk9 own hv hI hoff F9 N9
          obtain ⟨od, ua, na, us, ns, uf2, nf2⟩ := b
          simp only [List.cons_append] at N9
          dsimp only at hI F9 N9
          obtain ⟨tt, htt, rfl⟩ : ∃ tt, ts'[i]? = some tt ∧ v = .ref tt.1 := by
            unfold refsOf at hv
            rw [List.getElem?_map] at hv
            cases h : ts'[i]? with
            | none => rw [h] at hv; cases hv
            | some tt => rw [h] at hv; exact ⟨tt, rfl, (Option.some.inj hv).symm⟩
          have htm := List.mem_of_getElem? htt
          obtain ⟨t2, u2, hTm⟩ := hts' tt htm
          have hti : ord[i]? = some tt.2.2 := by rw [← hord, List.getElem?_map, htt]; rfl
          rw [hlo tt htm] at hTm
          have TF := turn_facts hnd hle hop hLo h7n hc hti
          have hstep : (ord.take (i + 1)).foldl (turn (loOf R) (hiOf R)) (start c) = turn (loOf R) (hiOf R) ((ord.take i).foldl (turn (loOf R) (hiOf R)) (start c)) tt.2.2 := by
            rw [List.take_add_one, hti, Option.toList_some, List.foldl_append]; rfl
          rw [hstep]
          generalize (ord.take i).foldl (turn (loOf R) (hiOf R)) (start c) = S at hI TF ⊢
          generalize tt.2.2 = reg at hTm TF ⊢
          generalize tt.1 = T at hTm ⊢
          obtain ⟨hI1, hI2, hI3, hI4⟩ := hI
          obtain ⟨SD, SA, SP, SF⟩ := S
          dsimp only at hI1 hI2 hI3 hI4
          have regN := TF.regN
          have lenA : SA.length ≤ 7 := TF.lenA
          have lenD : SD.length ≤ 7 := TF.lenD
          have lenS : SP.length ≤ 7 := TF.lenS
          have lenF : SF.length ≤ 4 := TF.lenF
          have hTup : IsTup h9 T #[.int (loOf R reg) t2, .int reg u2] := ⟨_, News.get N9 (List.mem_of_mem_tail (List.mem_of_mem_tail (List.mem_of_mem_tail (List.mem_of_mem_tail (List.mem_of_mem_tail (List.mem_append_left _ hTm)))))), rfl, _, rfl⟩
          clear hv htt htm hti hstep
          k_unmd
          ktr_unf
          rename_i hX FX NX
          clear hTup
          (with_unfolding_all refine For_invV g (by rfl) (by rfl) ?_ (by intro _; with_unfolding_all rfl))
          ktr_unf
          dsimp only
          refine' kmk_slice_ints (s := { heap := hX, gens := s.gens, drawn := s.drawn, toks := tk, os := s.os }) (lo := none) (hi := none) FX NX ?ls IsPart.none IsPart.none hI2 (kmk_all hI2) rfl ?ks ?ss ?ts ?zs
          case ls => exact News.isList NX (by k_mem)
          case ss => with_unfolding_all rfl
          case ts => intro _; with_unfolding_all rfl
          case zs => (rw [List.size_toArray, hI2.length, sizeLine_eq]; omega)
          case ks =>
            intro lC ws hY FY NY ltY hws _ _
            have q5 : @LT.lt Nat _ fA lC := ltY _ (.head _)
            have hlC : @LT.lt Nat _ lC hY.objs.size := Heap.lt_size (News.get NY (.head _))
            clear ltY
            refine' iter_list (σ := (List Value × Nat) × (List Value × Nat)) (vs := ws) (fun e => (lC, listOf ws.toArray 0) :: (fA, listOf e.2.1.toArray e.2.2) :: (sA, listOf us.toArray ns) :: (aA, listOf e.1.1.toArray e.1.2) :: (dA, od) :: (D2, listOf (refsOf ts').toArray c2) :: (news' ++ own)) (fun _ => []) [] [aA, fA]
              (fun j e => IntsAre e.1.1 ((SA.take j).foldl (freeTurn (hiOf R) (loOf R reg) SD) (SA, SF)).1 ∧ IntsAre e.2.1 ((SA.take j).foldl (freeTurn (hiOf R) (loOf R reg) SD) (SA, SF)).2) ((ua, na), (uf2, nf2)) ?hh4 ?hl4 ?hlL4 FY NY ?hwad4 ?hk4 ⟨hI2, hI4⟩ ?turn4 ?done4
            case hh4 => exact rfl
            case hl4 => exact News.isList NY (by k_mem)
            case hlL4 => exact (NY _ (.head _)).2.1
            case hwad4 =>
              intro b hb
              simp only [List.mem_cons, List.not_mem_nil, or_false] at hb
              rcases hb with rfl | rfl <;> exact ⟨Nat.ne_of_lt (by omega), by show @LT.lt Nat _ _ hY.objs.size; omega⟩
            case hk4 => exact fun _ h => nomatch h
            case turn4 =>
              intro I j e v u3 hT tkT ownT hv hI hoff4 hw hown hsz FT NT
              obtain ⟨⟨ua3, na3⟩, uf3, nf3⟩ := e
              simp only [List.cons_append] at NT
              dsimp only at hI FT NT hw
              obtain ⟨old, hold, t3, rfl⟩ : ∃ old, SA[j]? = some old ∧ ∃ t, v = .int old t := by
                have hlen : j < SA.length := by rw [← hws.length]; exact (List.getElem?_eq_some_iff.mp hv).1
                obtain ⟨t, ht⟩ := hws.get j SA[j] (by simp [hlen])
                rw [hv] at ht
                exact ⟨SA[j], by simp [hlen], t, Option.some.inj ht⟩
              have oldK : old ∈ keys SD := TF.actK _ (List.mem_of_getElem? hold)
              have oldR : old ∈ nms R := TF.keyN _ oldK
              have oldA := freed_at (Hi := hiOf R) (f := loOf R reg) (D := SD) (free := SF) TF.actN hold
              have len1 := TF.len1 j
              have len2 := TF.len2 j
              have hstep4 : (SA.take (j + 1)).foldl (freeTurn (hiOf R) (loOf R reg) SD) (SA, SF) = freeTurn (hiOf R) (loOf R reg) SD ((SA.take j).foldl (freeTurn (hiOf R) (loOf R reg) SD) (SA, SF)) old := by
                rw [List.take_add_one, hold, Option.toList_some, List.foldl_append]; rfl
              rw [hstep4]
              dsimp only at len1 len2 oldA
              generalize (SA.take j).foldl (freeTurn (hiOf R) (loOf R reg) SD) (SA, SF) = fj at hI oldA len1 len2 ⊢
              obtain ⟨AJ, FJ⟩ := fj
              obtain ⟨hJ1, hJ2⟩ := hI
              dsimp only at hJ1 hJ2 oldA len1 len2
              clear hv hold hstep4 NY FY NX FX
              k_unmd
              k_fold
              ktr_unf
              all_goals (
                dsimp only [PostC]
                refine' EndC.intro ((_, _), (_, _)) ?F ?N ⟨?ha, ?hf⟩ ?hn ?ho ?hw ?hk ?hr
                (case F => k_asm)
                (case N => k_asm)
                (case hk => exact fun _ h => nomatch h)
                (case ho => exact (by (intro p hp; simp only [List.mem_cons, List.mem_append] at hp ⊢; grind)))
                (case hr =>
                  intro z hz1 _
                  have hz2 : z ≠ Str.ofString "old" := by
                    intro e
                    rw [e] at hz1
                    simp at hz1
                  simp only [frOf, kstB, if_neg hz2]
                  rfl)
                (case ha =>
                  unfold freeTurn
                  first
                    | (rw [if_pos (by assumption)]; dsimp only; assumption)
                    | (rw [if_neg (by assumption)]; dsimp only; assumption))
                (case hf =>
                  unfold freeTurn
                  first
                    | (rw [if_pos (by assumption)]; dsimp only; assumption)
                    | (rw [if_neg (by assumption)]; dsimp only; assumption))
                (case hn => exact (by (exact (by (try dsimp only); (repeat' (refine List.forall_mem_cons.mpr ⟨?_, ?_⟩)); (all_goals first | k_mem | (intro p hp; simp only [List.mem_cons, List.mem_append] at hp ⊢; grind))))))
                (case hw =>
                  exact hw4 hw rfl))
            case done4 =>
              intro e u3 hT tkT hI FT NT
              obtain ⟨⟨ua3, na3⟩, uf3, nf3⟩ := e
              rw [hws.length, List.take_length] at hI
              dsimp only at hI FT NT
              have hM := freed_len (Hi := hiOf R) (f := loOf R reg) (D := SD) SA (SA, SF)
              cases hfr : freed (hiOf R) (loOf R reg) SD SA SF with | mk A1 F1 =>
              have hfr2 : SA.foldl (freeTurn (hiOf R) (loOf R reg) SD) (SA, SF) = (A1, F1) := hfr
              rw [hfr2] at hI hM
              obtain ⟨hJ1, hJ2⟩ := hI
              dsimp only at hJ1 hJ2 hM
              obtain ⟨hM1, hM2⟩ := hM
              have hA1 : ∀ a ∈ A1, a ∈ keys SD := by
                have e := freed_act (Hi := hiOf R) (f := loOf R reg) (D := SD) (free := SF) TF.actN
                rw [hfr] at e
                dsimp only at e
                intro a ha
                rw [e] at ha
                exact TF.actK _ (List.mem_filter.mp ha).1
              clear NY FY NX FX hfr2
              k_unmd
              ktr_unf
              · rename F1 = [] => hF1
                rename Fr _ _ _ _ => FB
                rename News _ _ _ _ => NB
                have hJ3 : IntsAre uf3 [] := by rw [← hF1]; exact hJ2
                have lenA1 : A1.length ≤ 7 := Nat.le_trans hM1 lenA
                (with_unfolding_all refine For_invV g (by rfl) (by rfl) ?_ (by intro _; with_unfolding_all rfl))
                ktr_unf
                refine' iter_list (σ := Int × Tok) (vs := ua3) (fun e => (lC, listOf ws.toArray 0) :: (fA, listOf uf3.toArray nf3) :: (sA, listOf us.toArray ns) :: (aA, listOf ua3.toArray na3) :: (dA, od) :: (D2, listOf (refsOf ts').toArray c2) :: (news' ++ own)) (fun e => [(Str.ofString "longest", .int e.1 e.2)]) [] []
                  (fun j e => e.1 = (A1.take j).foldl (longTurn (hiOf R)) reg ∧ e.1 ∈ nms R) (reg, u2) ?hh5 ?hl5 ?hlL5 FB NB ?hwad5 ?hk5 ⟨rfl, regN⟩ ?turn5 ?done5
                case hh5 => exact rfl
                case hl5 => exact News.isList NB (by k_mem)
                case hlL5 => exact (NB _ (.tail _ (.tail _ (.tail _ (.head _))))).2.1
                case hwad5 => exact fun _ h => nomatch h
                case hk5 => intro p hp; rw [List.mem_singleton.mp hp]; exact rfl
                case turn5 =>
                  intro I j e v u3 hT tkT ownT hv hI hoff4 hw hown hsz FT NT
                  obtain ⟨lg, lt⟩ := e
                  simp only [List.cons_append] at NT
                  dsimp only at hI FT NT hw
                  obtain ⟨hlg, lgR⟩ := hI
                  obtain ⟨old, hold, t3, rfl⟩ : ∃ old, A1[j]? = some old ∧ ∃ t, v = .int old t := by
                    have hlen : j < A1.length := by rw [← hJ1.length]; exact (List.getElem?_eq_some_iff.mp hv).1
                    obtain ⟨t, ht⟩ := hJ1.get j A1[j] (by simp [hlen])
                    rw [hv] at ht
                    exact ⟨A1[j], by simp [hlen], t, Option.some.inj ht⟩
                  have oldK : old ∈ keys SD := hA1 _ (List.mem_of_getElem? hold)
                  have oldR : old ∈ nms R := TF.keyN _ oldK
                  have hstep5 : (A1.take (j + 1)).foldl (longTurn (hiOf R)) reg = longTurn (hiOf R) lg old := by
                    rw [List.take_add_one, hold, Option.toList_some, List.foldl_append, hlg]; rfl
                  rw [hstep5]
                  clear hv hold hstep5 hlg FB NB
                  k_unmd
                  k_fold
                  ktr_unf
                  all_goals (
                    dsimp only [PostC]
                    refine' EndC.intro (_, _) ?F ?N ⟨?ha, ?hf⟩ ?hn ?ho ?hw ?hk ?hr
                    (case F => k_asm)
                    (case N => k_asm)
                    (case hk => (intro p hp; rw [List.mem_singleton.mp hp]; exact rfl))
                    (case ho => exact (by (intro p hp; simp only [List.mem_cons, List.mem_append] at hp ⊢; grind)))
                    (case hn => exact (by (exact (by (try dsimp only); (repeat' (refine List.forall_mem_cons.mpr ⟨?_, ?_⟩)); (all_goals first | k_mem | (intro p hp; simp only [List.mem_cons, List.mem_append] at hp ⊢; grind))))))
                    (case hr =>
                      intro z hz1 hz2
                      have e3 : z ≠ Str.ofString "longest" := hz2 _ (.head _)
                      have e4 : z ≠ Str.ofString "old" := by (intro e; rw [e] at hz1; simp at hz1)
                      simp only [frOf, kstB, if_neg e3, if_neg e4]
                      try rfl)
                    (case ha =>
                      unfold longTurn
                      first
                        | (rw [if_pos (by assumption)])
                        | (rw [if_neg (by assumption)]))
                    (case hf => assumption)
                    (case hw => exact hw4 hw rfl))
                case done5 =>
                  intro e u3 hT tkT hI FT NT
                  obtain ⟨lg, lt⟩ := e
                  dsimp only at hI FT NT
                  rw [hJ1.length, List.take_length] at hI
                  obtain ⟨hlg, lgR⟩ := hI
                  have hlg2 : longest (hiOf R) A1 reg = lg := hlg.symm
                  have hls := (longest_spec (hiOf R) A1 reg).1
                  rw [hlg2] at hls
                  clear FB NB hlg
                  k_unmd
                  ktr_unf
                  · have hne : lg ≠ reg := by assumption
                    have lgA : lg ∈ A1 := hls.resolve_left hne
                    have lgK : lg ∈ keys SD := hA1 _ lgA
                    have hD2 : (delD' SD lg).length ≤ 7 := Nat.le_trans (List.length_filter_le _ _) lenD
                    have hA2 : (A1.erase lg).length ≤ 7 := Nat.le_trans List.length_erase_le lenA1
                    ktr_unf
                    (dsimp only [PostT])
                    (refine' EndT.intro (ScS.mk _ _ _ _ _ _ _) ?F ?N ?hI ?hn ?ho ?ha ?hk ?hr)
                    (case F => k_asm)
                    (case N => k_asm)
                    (case hI => (rw [turn_ne hfr hF1 hlg2 hne]; dsimp only; exact ⟨by assumption, by assumption, by assumption, by assumption⟩))
                    (case hk => exact fun _ h => nomatch h)
                    (case ho => exact (by (intro p hp; simp only [List.mem_cons, List.mem_append] at hp ⊢; grind)))
                    (case hn => exact (by (exact (by (try dsimp only); (repeat' (refine List.forall_mem_cons.mpr ⟨?_, ?_⟩)); (all_goals first | k_mem | (intro p hp; simp only [List.mem_cons, List.mem_append] at hp ⊢; grind))))))
                    (case ha => exact rfl)
                    (case hr =>
                      intro z hz1 _
                      have e1 : z ≠ Str.ofString "first" := by (intro e; rw [e] at hz1; simp at hz1)
                      have e2 : z ≠ Str.ofString "register" := by (intro e; rw [e] at hz1; simp at hz1)
                      have e3 : z ≠ Str.ofString "old" := by (intro e; rw [e] at hz1; simp at hz1)
                      have e4 : z ≠ Str.ofString "longest" := by (intro e; rw [e] at hz1; simp at hz1)
                      simp only [frOf, kstB, if_neg e1, if_neg e2, if_neg e3, if_neg e4, hz1, Bool.false_eq_true, if_false]
                      try rfl)
                  · have hne : lg = reg := by assumption
                    (dsimp only [PostT])
                    (refine' EndT.intro (ScS.mk _ _ _ _ _ _ _) ?F ?N ?hI ?hn ?ho ?ha ?hk ?hr)
                    (case F => k_asm)
                    (case N => k_asm)
                    (case hI => (rw [turn_eq hfr hF1 hlg2 hne]; dsimp only; exact ⟨by assumption, by assumption, by assumption, by assumption⟩))
                    (case hk => exact fun _ h => nomatch h)
                    (case ho => exact (by (intro p hp; simp only [List.mem_cons, List.mem_append] at hp ⊢; grind)))
                    (case hn => exact (by (exact (by (try dsimp only); (repeat' (refine List.forall_mem_cons.mpr ⟨?_, ?_⟩)); (all_goals first | k_mem | (intro p hp; simp only [List.mem_cons, List.mem_append] at hp ⊢; grind))))))
                    (case ha => exact rfl)
                    (case hr =>
                      intro z hz1 _
                      have e1 : z ≠ Str.ofString "first" := by (intro e; rw [e] at hz1; simp at hz1)
                      have e2 : z ≠ Str.ofString "register" := by (intro e; rw [e] at hz1; simp at hz1)
                      have e3 : z ≠ Str.ofString "old" := by (intro e; rw [e] at hz1; simp at hz1)
                      have e4 : z ≠ Str.ofString "longest" := by (intro e; rw [e] at hz1; simp at hz1)
                      simp only [frOf, kstB, if_neg e1, if_neg e2, if_neg e3, if_neg e4, hz1, Bool.false_eq_true, if_false]
                      try rfl)
              · rename List.getLast? F1 = some _ => hF1
                (dsimp only [PostT])
                (refine' EndT.intro (ScS.mk _ _ _ _ _ _ _) ?F ?N ?hI ?hn ?ho ?ha ?hk ?hr)
                (case F => k_asm)
                (case N => k_asm)
                (case hI => (rw [turn_some hfr hF1]; dsimp only; exact ⟨by assumption, by assumption, by assumption, by assumption⟩))
                (case hk => exact fun _ h => nomatch h)
                (case ho => exact (by (intro p hp; simp only [List.mem_cons, List.mem_append] at hp ⊢; grind)))
                (case hn => exact (by (exact (by (try dsimp only); (repeat' (refine List.forall_mem_cons.mpr ⟨?_, ?_⟩)); (all_goals first | k_mem | (intro p hp; simp only [List.mem_cons, List.mem_append] at hp ⊢; grind))))))
                (case ha => exact rfl)
                (case hr =>
                  intro z hz1 _
                  have e1 : z ≠ Str.ofString "first" := by (intro e; rw [e] at hz1; simp at hz1)
                  have e2 : z ≠ Str.ofString "register" := by (intro e; rw [e] at hz1; simp at hz1)
                  have e3 : z ≠ Str.ofString "old" := by (intro e; rw [e] at hz1; simp at hz1)
                  have e4 : z ≠ Str.ofString "longest" := by (intro e; rw [e] at hz1; simp at hz1)
                  simp only [frOf, kstB, if_neg e1, if_neg e2, if_neg e3, if_neg e4, hz1, Bool.false_eq_true, if_false]
                  try rfl)
        case done3 =>
          intro b u h9 tk9 hI F9 N9
          obtain ⟨od, ua, na, us, ns, uf2, nf2⟩ := b
          dsimp only at hI F9 N9
          have hll : (refsOf ts').length = ord.length := by rw [← hord]; simp [refsOf]
          rw [hll, List.take_length] at hI
          obtain ⟨hI1, hI2, hI3, hI4⟩ := hI
          have z1 : @LT.lt Nat _ sA h9.objs.size := Heap.lt_size (News.get N9 (.tail _ (.head _)))
          clear FZ NZ
          k_unmd
          ktr_unf
          rename Fr h₀ _ _ _ => kF
          rename News h₀ _ _ _ => kN
          refine ret ord _ dA sA od us ns _ _ hop hkp (fun p hp => Nat.lt_trans (hlt3' p (hsubN p hp)) q1) (Nat.lt_trans q2 q3) z1 kF (fun p hp => kN p ?_) loA hI1 hI3
          simp only [List.mem_cons] at hp ⊢
          rcases hp with rfl | rfl | rfl | hp
          · exact .inl rfl
          · exact .inr (.inr (.inr (.inr (.inl rfl))))
          · exact .inr (.inr (.inl rfl))
          · exact .inr (.inr (.inr (.inr (.inr (.inr (hsubN p hp))))))

end Mine

end
/-! D2 -/
section
open PySem PySem.W PySem.Calls PyProof.Rows PyProof.V PySem.Spec
namespace Mine
local macro_rules | `(tactic| k_all) => `(tactic| first
  | (refine List.forall_mem_append.mpr ⟨?ka, ?kb⟩; (case ka => k_all); (case kb => k_all))
  | exact below_ne (by assumption) (by omega)
  | exact OwnOff.ne (by assumption) (by k_memK))
local macro_rules | `(tactic| walk_at "subscriptTail") => `(tactic| (k_here; (with_reducible show wpAny _ _ (subscriptTail _ _ (Value.ref _) (Value.int _ _)) _ _ _); k_dflt (first
  | (refine' rng_item ?g ?o ?R ?n ?_; (case g => exact News.get (by k_asm) (by k_mem)); (case o => assumption); (case R => assumption); (case n => assumption); intro T' t' u' hT')
  | (refine' pair_item ?g ?lo ?hi ?j ?x ?_; (case g => exact News.get (by k_asm) (by k_mem)); (case lo => decide); (case hi => decide); (case j => rfl); (case x => rfl)))))
local macro_rules | `(tactic| k_mem) => `(tactic| first | assumption | (refine List.mem_append_left _ ?_; k_mem))
local macro_rules | `(tactic| walk_at "eval Name") => `(tactic| (k_here; k_inBlock; k_dflt (first
  | (refine' cname_C ?hk ?hx ?hc ?ho ?hd ?_ ?hb; (case hk => exact rfl); (case hx => exact rfl); (case hc => exact rfl); (case ho => exact News.get (by k_asm) (by k_mem)); (case hd => assumption); (case hb => decide))
  | (refine' ldVarK ?F ?v ?_; (case F => assumption); (case v => assumption)))))
local macro_rules | `(tactic| ktr_unf) => `(tactic| repeat' ((fail_if_success (with_reducible show wpAny _ _ (pyIter _) _ _ _)); (fail_if_success (with_reducible show wpAny _ _ (subscriptTail _ (PySem.Expr.Slice _ _ _ _) _ _) _ _ _)); (fail_if_success (with_reducible show wpAny _ _ (exec (Stmt.For _ _ _ _ _) _) _ _ _)); (fail_if_success (with_reducible show wpAny _ _ (eval (PySem.Expr.ListComp _ _ _ _) _) _ _ _)); (fail_if_success (with_reducible show CompSrcI _ _ _ _ _ _ _ _ _ _ _ _ _ _ _)); (fail_if_success (with_reducible show CompSrcA _ _ _ _ _ _ _ _ _ _ _ _ _ _ _ _)); (fail_if_success (with_reducible show wpAny _ _ (exec (Stmt.Assign _ (PySem.Expr.ListComp _ _ _ _) _) _) _ _ _)); first | (k_unfold; (try dsimp only)) | (k_end; wrow_close) | walk1 | (dsimp only; walk1) | (leave1; walk_say "STEP leave1"; try dsimp only) | fail "no step"))
theorem draw_callU {w : World} {p : Program} {loose : List Str} {mean : ExcName → Option Value} {mg mb : Str → Option Value} {dp un : Nat} {gd : Option (List Code)} {cn : Str} {cs : Scope} {a : Addr} {ccd : Value} {cl : List (Str × Addr)} {outer : List Env} {A₀ : Around} {base h₀ : Heap} {L : Addr} {m : Str → Option Value} {s : Shared} {Q E : Value → Shared → Prop}
   {news : List (Addr × Obj)} {g : Obj → List (Addr × Obj)} {pl sl : Addr} {k c many : Int} {tk tc tm : Tok} {vs : List Value} {ns : List Int} {n n2 : Nat}
   (B : Below A₀ base outer h₀) (F : Fr h₀ L s.heap m) (X : (hd.heap_39 w.params).In h₀) (N : News h₀ L s.heap news) (T : Top p loose mean mg mb h₀) (hk : cs.kind = .function)
   (U : UpdF pl (listOf #[.ref sl, .int k tk, .int c tc] n) news g) (hsl : (sl, listOf vs.toArray n2) ∈ news) (hps : @LT.lt Nat _ sl pl) (hi : IntsAre vs ns) (hlen : ns.length ≤ 63)
   (hk0 : 0 ≤ k) (hk1 : k < 1000) (hm : 0 < many) (hm2 : many < 100)
   (hdp : dp + 5 < recursionLimit) (hun : un + 40 < cLine)
   (ret : ∀ (r : Int) t tk' h' tt, 0 ≤ r → r < many → Fr h₀ L h' m → News h₀ L h' (g (listOf #[.ref sl, .int (k + 1) tk', .int c tc] n)) → Q (.int r t) { s with heap := h', toks := tt }) :
   wpAny (model PySem.Challenge.rw_no0223_01.row.prog w) (ktrTop dp un gd cn cs L a ccd cl outer) (call (.ref 26) [.ref pl, .int many tm]) Q E s := by
  obtain ⟨pre, post, rfl, hg, h1, h2⟩ := U.split
  refine draw_call (rest := pre ++ post) (n := n) (n2 := n2) (tk := tk) (tc := tc) (sl := sl) (c := c) B F X (fun p hp => ?_) T hk (fun p hp => ?_) hps hi hlen hk0 hk1 hm hm2 hdp hun fun r t tk' h' tt r0 r1 F' N' => ret r t tk' h' tt r0 r1 F' ?_
  · rcases List.mem_cons.mp hp with rfl | hp
    · exact N _ (List.mem_append.mpr (.inr (.head _)))
    · rcases List.mem_cons.mp hp with rfl | hp
      · exact N _ hsl
      · rcases List.mem_append.mp hp with hp | hp
        · exact N _ (List.mem_append.mpr (.inl hp))
        · exact N _ (List.mem_append.mpr (.inr (.tail _ hp)))
  · rcases List.mem_append.mp hp with hp | hp
    · exact h1 p hp
    · exact h2 p hp
  · rw [hg]
    intro p hp
    rcases List.mem_append.mp hp with hp | hp
    · exact N' p (.tail _ (.tail _ (List.mem_append.mpr (.inl hp))))
    · rcases List.mem_cons.mp hp with rfl | hp
      · exact N' _ (.head _)
      · exact N' p (.tail _ (.tail _ (List.mem_append.mpr (.inr hp))))

end Mine

end
/-! Rng2 -/
section
open PySem PySem.W PySem.Calls PyProof.Rows
namespace Mine
theorem above_ne {b d : Nat} {l : List (Addr × Obj)} (h : ∀ p ∈ l, @LT.lt Nat _ b p.1) (hb : d ≤ b) : ∀ p ∈ l, p.1 ≠ d := fun p hp => Nat.ne_of_gt (Nat.lt_of_le_of_lt hb (h p hp))
theorem allLt_mem {d : Addr} : ∀ {l : List (Addr × Obj)}, AllLt d l → ∀ p ∈ l, @LT.lt Nat _ p.1 d
  | [], _, p, h => nomatch h
  | _ :: _, x, p, h => by
    rcases List.mem_cons.mp h with rfl | h
    · exact x.1
    · exact allLt_mem x.2 p h
section
variable {prog : Program} {w : World} {A : Around} {E : Value → Shared → Prop} {s : Shared} {h₀ : Heap} {L d T : Addr} {m : Str → Option Value} {news : List (Addr × Obj)} {g : Obj → List (Addr × Obj)} {R : List Rng} {o : Obj} {n lo hi : Int} {tn : Tok} {Q : Unit → Shared → Prop}
theorem rng_set (F : Fr h₀ L s.heap m) (N : News h₀ L s.heap news) (U : UpdF d o news g) (hd : RngDict prog w o R) (hz : R.length ≤ 1000) (hn : n ∉ nms R)
    (h : ∀ h' o', Fr h₀ L h' m → News h₀ L h' (g o') → (∀ lo hi, RngDict prog w o' (R ++ [⟨n, lo, hi, T⟩])) → Q () { s with heap := h', toks := s.toks + 1 }) :
    wpAny (model prog w) A (setItem (.ref d) (.int n tn) (.ref T)) Q E s := by
  refine kda_set (knd := PySem.intKind prog w) F N U hd (intKind_is _ _ _ _) (by rw [sizeLine_eq, List.length_map]; omega) fun h' o' F' N' hd' => h h' o' F' N' fun lo hi => ?_
  unfold RngDict
  rw [List.map_append]
  have e : stored (R.map fun r => (r.name, Value.ref r.adr)) n (.ref T) = (R.map fun r => (r.name, Value.ref r.adr)) ++ [(n, Value.ref T)] := by
    unfold stored
    rw [if_neg]
    intro hc
    obtain ⟨kv, hkv, he⟩ := List.any_eq_true.mp hc
    obtain ⟨r, hr, rfl⟩ := List.mem_map.mp hkv
    exact hn (List.mem_map.mpr ⟨r, hr, of_decide_eq_true he⟩)
  rw [e] at hd'
  exact hd'
end
end Mine

end
/-! Cmp1 -/
section
open PySem PySem.W PySem.Calls PyProof.Rows PyProof.V PySem.Spec
namespace Mine
theorem rows_same {D : List (Int × Int)} (hn : (keys D).Nodup) : ∀ E : List (Int × Int), (∀ p ∈ E, p ∈ D) → KeqRows (kdfD D) (kdfD E) true
  | [], _ => .nil
  | p :: E, h => by
    have hp := h p (.head _)
    have hk : p.1 ∈ keys D := List.mem_map.mpr ⟨p, hp, rfl⟩
    have h1 := kdfD_item (has_of_key hk)
    have h2 : kdfLook D p.1 0 = p.2 := look_of_mem hn hp
    rw [h2] at h1
    have := KeqRows.hit (v := PyData.int p.2) h1 (rows_same hn E fun q hq => h q (.tail _ hq))
    have e : (PyData.eqv (PyData.int p.2) (PyData.int p.2) && true) = true := by simp [PyData.eqv]
    rw [e] at this
    exact this
theorem hits_same {K : Type} [DecidableEq K] {A : Around} {s : Shared} {kb : List (K × Value)} : ∀ ka : List (K × Value), (∀ p ∈ ka, valueAt kb p.1 = some p.2) → KeqHits A s kb ka true
  | [], _ => .nil
  | p :: ka, h => KeqHits.hit (e := true) (b := true) (h p (.head _)) (SeqAt.EqAt.same _) (hits_same ka fun q hq => h q (.tail _ hq))
theorem valueAt_mem {K : Type} [DecidableEq K] : ∀ {kb : List (K × Value)}, (kb.map (·.1)).Nodup → ∀ p ∈ kb, valueAt kb p.1 = some p.2
  | [], _, p, h => nomatch h
  | q :: kb, hn, p, h => by
    rw [List.map_cons, List.nodup_cons] at hn
    unfold valueAt
    rw [List.find?_cons]
    rcases List.mem_cons.mp h with rfl | h
    · simp
    · have hne : q.1 ≠ p.1 := fun e => hn.1 (e ▸ List.mem_map.mpr ⟨p, h, rfl⟩)
      simp only [decide_eq_false hne]
      exact valueAt_mem hn.2 p h
theorem pairs_conv {p p' : Program} {w w' : World} : ∀ {es : List DictEntry} {kvs : List (Int × Value)}, PySem.Pairs (PySem.intKind p w) es kvs → PySem.Pairs (PySem.intKind p' w') es kvs
  | _, _, .nil => .nil
  | _, _, .cons h1 h2 h3 => .cons h1 h2 (pairs_conv h3)
theorem dictOf_conv {p p' : Program} {w w' : World} {o : Obj} {kvs : List (Int × Value)} (h : o.IsDictOf (PySem.intKind p w) kvs) : o.IsDictOf (PySem.intKind p' w') kvs :=
  let ⟨es, ep, a, b, c, d, e⟩ := h
  ⟨es, ep, a, b, c, pairs_conv d, e⟩
section
variable {prog : Program} {w : World} {A : Around} {E : Value → Shared → Prop} {s : Shared} {h₀ : Heap} {L a b : Addr} {news : List (Addr × Obj)} {oa ob : Obj} {Q : Value → Shared → Prop}
theorem ranges_ne {R : List Rng} (N : News h₀ L s.heap news) (pa : (a, oa) ∈ news) (pb : (b, ob) ∈ news) (da : RngDict prog w oa R) (db : RngDict prog w ob R) (la : (a == sysModules) = false) (lb : (b == sysModules) = false) (hu : A.units < cLine)
    (h : Q (.bool false) s) : wpAny (model prog w) A (compareOp .NotEq (.ref a) (.ref b)) Q E s := by
  have hn : ((R.map fun r => (r.name, Value.ref r.adr)).map (·.1)).Nodup := by obtain ⟨_, _, _, _, _, _, hn⟩ := db; exact hn
  exact kne_pairs N pa pb da db la lb rfl hu (hits_same _ (valueAt_mem hn)) h
theorem ints_ne {us vs : List Value} {ns ms : List Int} {k j : Nat} (N : News h₀ L s.heap news) (pa : (a, listOf us.toArray k) ∈ news) (pb : (b, listOf vs.toArray j) ∈ news) (hi : IntsAre us ns) (hj : IntsAre vs ms) (hu : A.units + 64 < cLine)
    (h : Q (.bool (!decide (ns = ms))) s) : wpAny (model prog w) A (compareOp .NotEq (.ref a) (.ref b)) Q E s :=
  ke_ne_ints ⟨_, News.get N pa, rfl, _, rfl⟩ ⟨_, News.get N pb, rfl, _, rfl⟩ hi hj hu h
theorem dealt_eq {D : List (Int × Int)} (N : News h₀ L s.heap news) (pa : (a, oa) ∈ news) (pb : (b, ob) ∈ news) (da : DL prog w oa D) (db : DL prog w ob D) (la : (a == sysModules) = false) (lb : (b == sysModules) = false) (hn : (keys D).Nodup) (hu : A.units < cLine) :
    SeqAt.RcAt A s (.ref a) (.ref b) true := fun prog' w' E' Q' h => by
  obtain ⟨ka, da, fa⟩ := da
  obtain ⟨kb, db, fb⟩ := db
  show wpAny (model prog' w') A (compareOp .Eq (.ref a) (.ref b)) Q' E' s
  exact keq_tabs (knd := PySem.intKind prog' w') same_int (TabAt.ofObj la (News.get N pa) (dictOf_conv da) fa) (TabAt.ofObj lb (News.get N pb) (dictOf_conv db) fb) rfl hu (rows_same hn D fun p hp => hp) h
theorem pairs_ne {T1 T2 d1 d2 l1 l2 : Addr} {o1 o2 : Obj} {us vs : List Value} {ns : List Int} {k j n1 n2 : Nat} {D : List (Int × Int)} (N : News h₀ L s.heap news)
    (p1 : (T1, ({ cls := .type "tuple", data := .seq #[.ref d1, .ref l1] n1 } : Obj)) ∈ news) (p2 : (T2, ({ cls := .type "tuple", data := .seq #[.ref d2, .ref l2] n2 } : Obj)) ∈ news)
    (q1 : (d1, o1) ∈ news) (q2 : (d2, o2) ∈ news) (r1 : (l1, listOf us.toArray k) ∈ news) (r2 : (l2, listOf vs.toArray j) ∈ news)
    (da : DL prog w o1 D) (db : DL prog w o2 D) (la : (d1 == sysModules) = false) (lb : (d2 == sysModules) = false) (hn : (keys D).Nodup) (hi : IntsAre us ns) (hj : IntsAre vs ns) (hd : d1 ≠ d2) (hu : A.units + 64 < cLine) (hu1 : A.in1.units + 64 < cLine)
    (h : Q (.bool false) s) : wpAny (model prog w) A (compareOp .NotEq (.ref T1) (.ref T2)) Q E s := by
  have e1 : SeqAt.EqAt A.in1 s (.ref d1) (.ref d2) true := SeqAt.EqAt.of_refs hd (dealt_eq N q1 q2 da db la lb hn (by omega))
  have e2 : SeqAt.EqAt A.in1 s (.ref l1) (.ref l2) true := by
    have := keq_ints (A := A) ⟨_, News.get N r1, rfl, _, rfl⟩ hi ⟨_, News.get N r2, rfl, _, rfl⟩ hj hu1
    rw [decide_eq_true rfl] at this
    exact this
  refine SeqAt.RcNeAt.tuples (e := fun _ => true) (A := A) (s := s) ⟨_, News.get N p1, rfl, _, rfl⟩ ⟨_, News.get N p2, rfl, _, rfl⟩ (by omega) (fun i h1 h2 => ?_) prog w E Q ?_
  · have : i = 0 ∨ i = 1 := by
      have : i < 2 := h1
      omega
    rcases this with rfl | rfl
    · exact e1
    · exact e2
  · exact h
end
end Mine

end
/-! Rng3 -/
section
open PySem PySem.W PySem.Calls PyProof.Rows PyProof.V PySem.Spec
namespace Mine
theorem flat_keys : ∀ {kvs : List (Int × Value)} {D : List (Int × Int)}, FlatPairs PyData.int kvs (kdfD D) → kvs.map (·.1) = keys D
  | [], [], _ => rfl
  | [], _ :: _, h => by cases h
  | _ :: _, [], h => by cases h
  | kv :: kvs, p :: D, h => by
    have h' : FlatPairs PyData.int (kv :: kvs) ((PyData.int p.1, PyData.int p.2) :: kdfD D) := h
    cases h' with
    | cons _ ht =>
      show _ :: _ = _ :: _
      rw [flat_keys ht]
      rfl
theorem rng_le {R : List Rng} (h : ∀ r ∈ R, r.lo ≤ r.hi) : ∀ n ∈ nms R, loOf R n ≤ hiOf R n := fun n hn => by
  obtain ⟨r, hr, e1, e2, _⟩ := rng_value hn
  rw [← e1, ← e2]
  exact h r hr
theorem sorted_same {a b : List Int} (h : a.Perm b) (ha : a.Pairwise (· ≤ ·)) (hb : b.Pairwise (· ≤ ·)) : a = b := h.eq_of_pairwise (fun x y _ _ h1 h2 => Int.le_antisymm h1 h2) ha hb
section
variable {prog : Program} {w : World} {A : Around} {E : Value → Shared → Prop} {s : Shared} {h₀ : Heap} {L d : Addr} {m : Str → Option Value} {news : List (Addr × Obj)} {o : Obj} {R : List Rng} {Q : Value → Shared → Prop}
theorem rng_copy (F : Fr h₀ L s.heap m) (N : News h₀ L s.heap news) (hbig : h₀.NoLimit) (hm : (d, o) ∈ news) (lo : (d == sysModules) = false) (hd : RngDict prog w o R) (hz : R.length ≤ 1000)
    (h : ∀ d' h' o', Fr h₀ L h' m → News h₀ L h' ((d', o') :: news) → (∀ p ∈ news, @LT.lt Nat _ p.1 d') → (d' == sysModules) = false → RngDict prog w o' R → Q (.ref d') { s with heap := h' }) :
    wpAny (model prog w) A (call (.type "dict") [.ref d]) Q E s := by
  refine kt_call_dict (knd := PySem.intKind prog w) lo (Heap.dictOf_iff.mpr ⟨o, News.get N hm, hd⟩) (by rw [List.length_map, sizeLine_eq]; omega) fun h' hm' hs => ?_
  obtain ⟨o', ho', hd'⟩ := Heap.dictOf_iff.mp hm'
  have N1 := News.push F N { cls := .type "dict", data := .dict #[] }
  exact h _ h' o' ((F.push _).change hs (N1 _ (.head _)).2.1 (N1.fresh (.head _))) (N1.setHead N.apart hs ho') (fun p hp => Heap.lt_size (N p hp).1) (F.notModules (modules_low hbig)) hd'
theorem dealt_keys {D : List (Int × Int)} (hh : A.handled = none) (F : Fr h₀ L s.heap m) (N : News h₀ L s.heap news) (hm : (d, o) ∈ news) (lo : (d == sysModules) = false) (hd : DL prog w o D) (hz : D.length ≤ 1000)
    (h : ∀ l c h' tk vs, Fr h₀ L h' m → News h₀ L h' ((l, listOf (List.toArray vs) c) :: news) → (∀ p ∈ news, @LT.lt Nat _ p.1 l) → IntsAre vs (keys D) → Q (.ref l) { s with heap := h', toks := tk }) :
    wpAny (model prog w) A (call (.type "list") [.ref d]) Q E s := by
  obtain ⟨kvs, hd, hf⟩ := hd
  have hl := hf.length
  rw [kdfD_length] at hl
  obtain ⟨ep, hat⟩ := (Heap.dictOf_iff.mpr ⟨o, News.get N hm, hd⟩ : s.heap.DictOf (PySem.intKind prog w) d kvs).dictAt
  have hk : kvs.map (·.1) = keys D := flat_keys hf
  refine kdl_N (kdl_dict (knd := PySem.intKind prog w) (kvs := kvs) (ep := ep) lo) hh F N hat (by rw [sizeLine_eq]; omega) fun l c h' tk vs F' N' lt hlen hv => h l c h' tk vs F' N' lt ?_
  rw [← hk]
  exact keys_ints hlen hv
end
end Mine

end
/-! L1 -/
section
open PySem PySem.W PySem.Calls PyProof.Rows PyProof.V PySem.Spec
namespace Mine
local macro_rules | `(tactic| k_all) => `(tactic| first
  | (refine List.forall_mem_append.mpr ⟨?ka, ?kb⟩; (case ka => k_all); (case kb => k_all))
  | exact below_ne (by assumption) (by omega)
  | exact OwnOff.ne (by assumption) (by k_memK))
local macro_rules | `(tactic| walk_at "subscriptTail") => `(tactic| (k_here; (with_reducible show wpAny _ _ (subscriptTail _ _ (Value.ref _) (Value.int _ _)) _ _ _); k_dflt (first
  | (refine' rng_item ?g ?o ?R ?n ?_; (case g => exact News.get (by k_asm) (by k_mem)); (case o => assumption); (case R => assumption); (case n => assumption); intro T' t' u' hT')
  | (refine' pair_item ?g ?lo ?hi ?j ?x ?_; (case g => exact News.get (by k_asm) (by k_mem)); (case lo => decide); (case hi => decide); (case j => rfl); (case x => rfl)))))
local macro_rules | `(tactic| k_mem) => `(tactic| first | assumption | (refine List.mem_append_left _ ?_; k_mem))
local macro_rules | `(tactic| walk_at "eval Name") => `(tactic| (k_here; k_inBlock; k_dflt (first
  | (refine' cname_C ?hk ?hx ?hc ?ho ?hd ?_ ?hb; (case hk => exact rfl); (case hx => exact rfl); (case hc => exact rfl); (case ho => exact News.get (by k_asm) (by k_mem)); (case hd => assumption); (case hb => decide))
  | (refine' ldVarK ?F ?v ?_; (case F => assumption); (case v => assumption)))))
local macro_rules | `(tactic| ktr_unf) => `(tactic| repeat' ((fail_if_success (with_reducible show wpAny _ _ (call (Value.ref 19) _) _ _ _)); (fail_if_success (with_reducible show wpAny _ _ (call (Value.ref 36) _) _ _ _)); (fail_if_success (with_reducible show wpAny _ _ (pyIter _) _ _ _)); (fail_if_success (with_reducible show wpAny _ _ (exec (Stmt.For _ _ _ _ _) _) _ _ _)); (fail_if_success (with_reducible show wpAny _ _ (eval (PySem.Expr.ListComp _ _ _ _) _) _ _ _)); (fail_if_success (with_reducible show CompSrcI _ _ _ _ _ _ _ _ _ _ _ _ _ _ _)); (fail_if_success (with_reducible show CompSrcA _ _ _ _ _ _ _ _ _ _ _ _ _ _ _ _)); (fail_if_success (with_reducible show wpAny _ _ (exec (Stmt.Assign _ (PySem.Expr.ListComp _ _ _ _) _) _) _ _ _)); first | (k_unfold; (try dsimp only)) | (k_end; wrow_close) | walk1 | (dsimp only; walk1) | (leave1; walk_say "STEP leave1"; try dsimp only) | fail "no step"))
-- slices walk
theorem fresh_not {x y : Int} {l : List Int} (h : x ∈ l) (hl : ∀ x ∈ l, 0 ≤ x ∧ x < y) (hy : y ≤ x) : False := by have := hl x h; omega
local macro_rules | `(tactic| walk_at "call ref") => `(tactic| (k_here; (with_reducible show wpAny _ _ (call (Value.ref 26) _) _ _ _); k_dflt (refine' draw_callU ?B ?F ?X ?N ?T ?hk ?U ?hsl ?hps ?hi ?hlen ?hk0 ?hk1 ?hm ?hm2 ?hdp ?hun ?_; (case B => k_asm); (case F => k_asm); (case X => k_asm); (case N => k_asm); (case T => k_asm); (case hk => first | exact rfl | assumption); (case U => k_updF); (case hsl => k_mem); (case hps => omega); (case hi => assumption); (case hlen => omega); (case hk0 => omega); (case hk1 => omega); (case hm => omega); (case hm2 => omega); (case hdp => first | ktr_room | omega); (case hun => first | ktr_units | omega); k_whole); intro r' t' tk' h' tt' r0 r1 F' N'; (try dsimp only at N')))
local macro_rules | `(tactic| k_all) => `(tactic| exact above_ne (by assumption) (by omega))
local macro_rules | `(tactic| walk_at "setItem ref int") => `(tactic| (k_here; (with_reducible show wpAny _ _ (setItem (Value.ref _) (Value.int _ _) (Value.ref _)) _ _ _); k_dflt (refine' rng_set ?F ?N ?U ?d ?z ?n ?_; (case F => k_asm); (case N => k_asm); (case U => k_updF); (case d => assumption); (case z => omega); (case n => exact fun h => fresh_not h (by assumption) (by omega))); intro h' o' F' N' hd'; (try dsimp only at N')))
local macro_rules | `(tactic| walk_at "newTuple") => `(tactic| (k_here; k_dflt (refine' kup_newTuple ?F ?N ?_ ?z; (case F => k_asm); (case N => k_asm); (case z => exact Nat.le_of_ble_eq_true rfl)); intro D' h' F' N' l1; (try k_lt l1)))
theorem hwp {I x : Addr} {l : List (Addr × Obj)} (h : ∀ p ∈ l, ¬p.1 ∈ [I]) (hm : x ∈ l.map (·.1)) : ¬x ∈ [I] := by
  obtain ⟨q, hq, rfl⟩ := List.mem_map.mp hm
  exact h q hq
local macro_rules | `(tactic| walk_at "call type:dict") => `(tactic| (k_here; (with_reducible show wpAny _ _ (call (Value.type _) [Value.ref _]) _ _ _); k_dflt (refine' rng_copy ?F ?N ?b ?m ?lo ?d ?z ?_; (case F => k_asm); (case N => k_asm); (case b => exact Top.nolimit (by k_asm)); (case m => k_mem); (case lo => assumption); (case d => assumption); (case z => omega)); intro d' h' o' F' N' lt' lo' hd'; (try k_lt lt')))
local macro_rules | `(tactic| walk_at "call type:list") => `(tactic| (k_here; (with_reducible show wpAny _ _ (call (Value.type _) [Value.ref _]) _ _ _); k_dflt (refine' dealt_keys ?hh ?F ?N ?m ?lo ?d ?z ?_; (case hh => exact rfl); (case F => k_asm); (case N => k_asm); (case m => k_mem); (case lo => assumption); (case d => assumption); (case z => omega)); intro l' c' h' tk' vs' F' N' lt' hi'; (try k_lt lt')))
-- stop at 19
local macro_rules | `(tactic| walk_at "compareOp NotEq ref ref") => `(tactic| (k_here; (with_reducible show wpAny _ _ (compareOp CmpOp.NotEq (Value.ref _) (Value.ref _)) _ _ _); k_dflt (first
  | (refine' ranges_ne ?N ?pa ?pb ?da ?db ?la ?lb ?hu ?_; (case N => k_asm); (case pa => k_mem); (case pb => k_mem); (case da => assumption); (case db => assumption); (case la => assumption); (case lb => assumption); (case hu => first | units_room | omega))
  | (refine' ints_ne ?N ?pa ?pb ?hi ?hj ?hu ?_; (case N => k_asm); (case pa => k_mem); (case pb => k_mem); (case hi => assumption); (case hj => assumption); (case hu => first | units_room | omega)))))
local macro_rules | `(tactic| walk_at "call builtin:sorted") => `(tactic| (k_here; (with_reducible show wpAny _ _ (call (Value.builtin _) [Value.ref _]) _ _ _); k_dflt (first
  | (refine' kso_sorted ?F ?N ?hl ?hi ?h64 ?_; (case F => k_asm); (case N => k_asm); (case hl => exact News.isList (by k_asm) (by k_mem)); (case hi => assumption); (case h64 => first | omega | (simp only [List.length_append]; omega)); intro l' vs' ns' c' h' F' N' lt' hi' _ hp' hs' _; (try k_lt lt'))
  | (refine' sorted_dict ?hh ?F ?N ?lo ?hd ?h64 ?_; (case hh => exact rfl); (case F => k_asm); (case N => k_asm); (case lo => assumption); (case hd => exact Heap.dictOf_iff.mpr ⟨_, News.get (by k_asm) (by k_mem), (by assumption)⟩); (case h64 => (rw [List.length_map]; omega)); intro l' vs' ns' c' h' tk' F' N' lt' hi' hp' hs'; (try k_lt lt')))))
local macro_rules | `(tactic| walk_at "binaryOp Add ref ref") => `(tactic| (k_here; (with_reducible show wpAny _ _ (binaryOp _ (Value.ref _) (Value.ref _)) _ _ _); k_dflt (refine' kmk_add_ints ?F ?N ?a ?b ?i ?j ?_ ?z; (case F => k_asm); (case N => k_asm); (case a => exact News.isList (by k_asm) (by k_mem)); (case b => exact News.isList (by k_asm) (by k_mem)); (case i => assumption); (case j => assumption); (case z => (rw [sizeLine_eq]; omega))); intro D' ws' h' F' N' lt' hI'; (try k_lt lt')))
theorem iter_dict1 {prog : Program} {w : World} {A : Around} {E : Value → Shared → Prop} {s : Shared} {env : Env} {h₀ : Heap} {x : Str} {body : List Stmt} {Q : Flow → Shared → Prop} {K : Type} [DecidableEq K] {knd : KeyKind prog w K} {d : Addr} {kvs : List (K × Value)} {m₀ : Str → Option Value} {led : List (Addr × Obj)} (stored : List Str)
    (hh : A.handled = none) (lo : (d == sysModules) = false) (hd : s.heap.DictOf knd d kvs) (hlL : d ≠ env.locals) (F : Fr h₀ env.locals s.heap m₀) (N : News h₀ env.locals s.heap led)
    (turn : ∀ (I : Addr) (i : Nat) (v : Value) (u : Str → Option Value) h tk own, (∃ k y, kvs[i]? = some (k, y) ∧ knd.is k v = true) → (∀ p ∈ led, p.1 ∉ [I]) → (∃ o, (I, o) ∈ own) →
      Fr h₀ env.locals h (fun y => if y = x then some v else frOf stored u m₀ [] y) → News h₀ env.locals h (led ++ own) →
      wpAny (model prog w) A (execs body env) (PostC h₀ env.locals [I] (fun _ : Unit => led) (fun _ => []) (fun z => z == x || stored.contains z) m₀ (fun _ => True) own { s with heap := h, toks := tk } Q) E { s with heap := h, toks := tk })
    (done : ∀ (u : Str → Option Value) h tk, Fr h₀ env.locals h (fun y => if y = x then u y else frOf stored u m₀ [] y) → News h₀ env.locals h led → Q .next { s with heap := h, toks := tk }) :
    wpAny (model prog w) A (pyIter (.ref d)) (fun it s₂ => LoopAtV prog w A h₀ env x body Q E it s₂) E s :=
  iter_dict (fun _ : Unit => led) (fun _ => []) stored [] (fun _ _ => True) () hh lo hd hlL F N (fun _ h => nomatch h) (fun _ h => nomatch h) trivial
    (fun I i _ v u h tk own hv _ _ hw ho _ F' N' => turn I i v u h tk own hv hw ho F' N') (fun _ u h tk _ F' N' => done u h tk F' N')
theorem col_no {Lo Hi : Int → Int} {c : Nat} {names seen : List Int} {S : SS} (I : Inv Lo Hi c names seen S) (hn : (keys S.D).Nodup) {a b : Int} (ha : a ∈ keys S.D) (hb : b ∈ keys S.D) (hne : a ≠ b) (he : look S.D a = look S.D b) (h1 : Lo a ≤ Hi b) (h2 : Lo b ≤ Hi a) : False := by
  have := I.col _ (mem_of_key hn ha) _ (mem_of_key hn hb) hne he
  dsimp only at this
  omega
local macro_rules | `(tactic| walk_at "truthy ref") => `(tactic| (k_here; (with_reducible show wpAny _ _ (truthy (Value.ref _)) _ _ _); k_dflt (refine' ints_truthy ?N ?m ?i ?z ?_ ?_; (case N => k_asm); (case m => k_mem); (case i => assumption); (case z => first | exact Nat.zero_le _ | omega)); (all_goals intros)))
local macro_rules | `(tactic| walk_at "subscriptTail") => `(tactic| (k_here; (with_reducible show wpAny _ _ (subscriptTail _ _ (Value.ref _) (Value.int _ _)) _ _ _); k_dflt (refine' dealt_item ?o ?g ?d ?k ?_; (case o => assumption); (case g => exact News.get (by k_asm) (by k_mem)); (case d => assumption); (case k => assumption); intro t')))
structure LS where
  R : List Rng
  od : Obj
  k : Int
  tk : Tok
  tps : List (Addr × Obj)
structure LInv (w : World) (dR : Addr) (i : Nat) (b : LS) : Prop where
  dict : RngDict PySem.Challenge.rw_no0223_01.row.prog w b.od b.R
  tup : RngIn b.tps b.R
  pen : b.k = 2 + 3 * (i : Int)
  len : b.R.length = i
  low : ∀ x ∈ nms b.R, 0 ≤ x ∧ x < 3 * (i : Int)
  le : ∀ r ∈ b.R, r.lo ≤ r.hi
  nd : (nms b.R).Nodup
  adr : ∀ p ∈ b.tps, @LT.lt Nat _ dR p.1
theorem law_holds : PySem.Challenge.rw_no0223_01.Holds := hd (by
  k_go0
  all_goals try k_fold
  rename_i w₀ S₀ S₁ mg mb G₀ Y₀ fa o₀ pm doc ho hg₀ KX X₀ V₀ GL T₀ B₀ TE TW wa1 wa2 M₀ cdA wa3 hcd script hs₀ hlay hLay hr₁ hl2 as1 as2 scA vsS as3 hLs ras w1s r0s hIs hrs hc63 hcT K0 hD hE tkE FE oD oC0 dD dC0 NE X0
  clear Y₀ X₀ V₀ TE TW
  ktr_unf
  rename_i s1 ws1 h10 hI1 hC1 hL1 lt1 s2 ws2 h9 hI2 hC2 hL2 lt2 h8 tk8 tt8 uu8 tkq pl h7 ltP h6 tk6 many tmany tkm h5 ttm m0 m1 h4 tk4 cnt tcnt tkc h3 ttc c0 c1 h2 oC F2 N2 dC dR hz oR loR hsR fsR hiR fiR ltR hA FA NA
  (with_unfolding_all refine For_invV S₁.heap (by rfl) (by rfl) ?_ (by intro _; with_unfolding_all rfl))
  ktr_unf
  rename_i hB tkB tr ur vr hrB FB NB kB
  obtain ⟨nm, rfl⟩ : ∃ nm : Nat, many = (nm : Int) := ⟨many.toNat, by omega⟩
  generalize Int.fmod (if (List.take 40 script).sum < 0 then -(List.take 40 script).sum else (List.take 40 script).sum) 5 = cc at NB
  have hsr := small_range (n := nm) (by omega)
  have hszB : @LT.lt Nat _ dR hB.objs.size := Heap.lt_size (News.get NB (.head _))
  refine' iter_range (σ := LS) (n := nm) (fun b => (dR, b.od) :: (pl, listOf #[.ref s1, .int b.k b.tk, .int cc (tkq + 1)] 0) :: (s2, listOf ws2.toArray 0) :: (s1, listOf ws1.toArray 0) :: (S₁.heap.objs.size + 1 + 1, oD) :: (S₁.heap.objs.size + 1, oC) :: b.tps)
    (fun _ => []) [Str.ofString "low"] [dR, pl] (LInv w₀ dR) ⟨[], oR, 0 + 1 + 1, tkc, []⟩ ?hh hrB hsr.1 hsr.2 FB NB ?hwad ?hk ?h0 ?turn ?done
  case hh => exact rfl
  case hwad =>
    intro b hb
    simp only [List.mem_cons, List.not_mem_nil, or_false] at hb
    rcases hb with rfl | rfl <;> (show @LT.lt Nat _ _ hB.objs.size; omega)
  case hk => exact fun _ h => nomatch h
  case h0 => exact ⟨hiR, fun _ h => (nomatch h), rfl, rfl, fun _ h => (nomatch h), fun _ h => (nomatch h), List.nodup_nil, fun _ h => (nomatch h)⟩
  case turn =>
    intro I i b t u hT tkT own hi hI hoff hw hown hsz FT NT
    obtain ⟨R, od, k, tkk, tps⟩ := b
    simp only [List.cons_append] at NT
    dsimp only at FT NT hw
    obtain ⟨dict, tup, pen, len, low, le, nd, adr⟩ := hI
    dsimp only at dict tup pen len low le nd adr
    clear NB FB
    k_unmd
    k_fold
    ktr_unf
    rename_i r1 ta tka ha tta a0 a1 hb Fb Nb tkb r2 tb tkc' hc ttc' b0 b1 Fc Nc T hd' Fd Nd ltT r3 td tke he tte e0 e1 Fe Ne hf oN Ff Nf dictN
    have ltT2 : AllLt T (tps ++ own) := ltT.2.2.2.2.2.2
    have hTI : T ≠ I := by
      obtain ⟨o, ho⟩ := hown
      exact Nat.ne_of_gt (allLt_mem ltT2 (I, o) (List.mem_append.mpr (.inr ho)))
    dsimp only [PostC]
    refine' EndC.intro (LS.mk (R ++ [⟨3 * (i : Int) + r3, r1, r1 + r2, T⟩]) oN (k + 1 + 1 + 1) _ ((T, pairObj r1 (r1 + r2) _ _) :: tps)) ?F ?N ?hI ?hn ?ho ?hw ?hk ?hr
    case F => k_asm
    case N => k_asm
    case hk => exact fun _ h => nomatch h
    case hn => exact (by (exact (by (try dsimp only); (repeat' (refine List.forall_mem_cons.mpr ⟨?_, ?_⟩)); (all_goals first | k_mem | (intro p hp; simp only [List.mem_cons, List.mem_append] at hp ⊢; grind)))))
    case ho => exact (by (intro p hp; simp only [List.mem_cons, List.mem_append] at hp ⊢; grind))
    case hw =>
      exact List.forall_mem_cons.mpr ⟨hwp hw (by simp), List.forall_mem_cons.mpr ⟨hwp hw (by simp), List.forall_mem_cons.mpr ⟨hwp hw (by simp), List.forall_mem_cons.mpr ⟨hwp hw (by simp),
        List.forall_mem_cons.mpr ⟨hwp hw (by simp), List.forall_mem_cons.mpr ⟨hwp hw (by simp), List.forall_mem_cons.mpr ⟨fun h => hTI (List.mem_singleton.mp h), fun p hp => hw p (.tail _ (.tail _ (.tail _ (.tail _ (.tail _ (.tail _ hp))))))⟩⟩⟩⟩⟩⟩⟩
    case hr =>
      intro z hz1 _
      have e3 : z ≠ Str.ofString "turn" := by (intro e; rw [e] at hz1; simp at hz1)
      have e4 : z ≠ Str.ofString "low" := by (intro e; rw [e] at hz1; simp at hz1)
      have e5 := (Bool.or_eq_false_iff.mp hz1).2
      simp only [frOf, kstB, if_neg e3, if_neg e4, e5, Bool.false_eq_true, if_false]
      try rfl
    case hI =>
      have hnm : nms (R ++ [⟨3 * (i : Int) + r3, r1, r1 + r2, T⟩]) = nms R ++ [3 * (i : Int) + r3] := by simp [nms]
      refine ⟨dictN _ _, fun r hr => ?_, by dsimp only; rw [pen]; push_cast; omega, by simp [len], fun x hx => ?_, fun r hr => ?_, ?_, fun p hp => ?_⟩
      · rcases List.mem_append.mp hr with hr | hr
        · obtain ⟨t, u, hm⟩ := tup r hr
          exact ⟨t, u, .tail _ hm⟩
        · rw [List.mem_singleton.mp hr]
          exact ⟨_, _, .head _⟩
      · dsimp only at hx
        rw [hnm] at hx
        rcases List.mem_append.mp hx with hx | hx
        · have := low x hx
          push_cast; omega
        · rw [List.mem_singleton.mp hx]
          push_cast; omega
      · rcases List.mem_append.mp hr with hr | hr
        · exact le r hr
        · rw [List.mem_singleton.mp hr]
          show r1 ≤ r1 + r2
          omega
      · dsimp only
        rw [hnm]
        refine List.nodup_append.mpr ⟨nd, List.pairwise_singleton _ _, fun x hx y hy => ?_⟩
        rw [List.mem_singleton.mp hy]
        have := low x hx
        omega
      · rcases List.mem_cons.mp hp with rfl | hp
        · exact ltT.1
        · exact adr p hp
  case done =>
    intro b u h11 tk11 hI F11 N11
    obtain ⟨R, od, k, tkk, tps⟩ := b
    dsimp only at F11 N11
    obtain ⟨dict, tup, pen, len, low, le, nd, adr⟩ := hI
    dsimp only at dict tup pen len low le nd adr
    obtain ⟨cn, rfl⟩ : ∃ n : Nat, cnt = (n : Int) := ⟨cnt.toNat, by omega⟩
    have hle := rng_le le
    have hnb : ∀ n ∈ nms R, 0 ≤ n ∧ n < 100 := fun n hn => by have := low n hn; omega
    clear NB FB N2 F2
    k_unmd
    ktr_unf
    (refine' scan_call ?B ?F ?X ?N ?T ?hk ?hdm ?lo ?hdo ?hR ?hlen ?hnd ?hnb ?hle ?hc ?hdp ?hun ?ret; (case B => k_asm); (case F => k_asm); (case X => k_asm); (case N => k_asm); (case T => k_asm); (case hk => first | exact rfl | assumption); (case hdm => k_mem); (case lo => assumption); (case hdo => assumption); (case hR => exact rngIn_mono (by assumption) (by (intro p hp; simp only [List.mem_cons, List.mem_append] at hp ⊢; grind))); (case hlen => omega); (case hnd => assumption); (case hnb => assumption); (case hle => assumption); (case hc => omega); (case hdp => first | ktr_room | omega); (case hun => first | ktr_units | omega))
    case ret =>
      intro ord' tA' dA' sA' od' us' k' h' tk' hp' hw' ln' lt1' lt2' F' N' lo' hd' hi'
      k_lt ln'
      ktr_unf
      refine' scan_call ?B8 ?F8 ?X8 ?N8 ?T8 ?hk8 ?hdm8 ?lo8 ?hdo8 ?hR8 ?hlen8 ?hnd8 ?hnb8 ?hle8 ?hc8 ?hdp8 ?hun8 ?ret8; (case B8 => k_asm); (case F8 => k_asm); (case X8 => k_asm); (case N8 => k_asm); (case T8 => k_asm)
      case hk8 => exact rfl
      case hdm8 => k_mem
      case lo8 => assumption
      case hdo8 => assumption
      case hR8 => exact rngIn_mono (by assumption) (by (intro p hp; simp only [List.mem_cons, List.mem_append] at hp ⊢; grind))
      case hlen8 => omega
      case hnd8 => assumption
      case hnb8 => assumption
      case hle8 => assumption
      case hc8 => omega
      case hdp8 => first | ktr_room | omega
      case hun8 => first | ktr_units | omega
      case ret8 =>
        intro ord2 tA2 dA2 sA2 od2 us2 k2 h2' tk2' hp2 hw2 ln2 lt12 lt22 F2' N2' lo2' hd2 hi2
        k_lt ln2
        have he : ord2 = ord' := order_unique hnb hp2 hp' hw2 hw'
        subst he
        clear hp2 hw2
        have hordN : ord2.Nodup := hp'.symm.nodup nd
        have hLo := key_lo hp' hnb hw'
        have SI := scan_inv (c := cn) nd hle hp' hLo
        have hfew : ∀ ns : List Int, ns.Perm (nms R) → fewestF (loOf R) (hiOf R) ns (cn : Int) (2 ^ ns.length) = ((scanF (loOf R) (hiOf R) cn ord2).spl.length : Int) := fun ns hns =>
          fewest_eq (hns.symm.nodup nd) (fun x hx => hle x (hns.subset hx)) (hp'.trans hns.symm) hLo
        generalize scanF (loOf R) (hiOf R) cn ord2 = S at hd2 hi2 hd' hi' SI hfew
        have hkN : (keys S.D).Nodup := nodup_of_perm_append SI.perm hordN
        have hkR : ∀ x ∈ keys S.D, x ∈ nms R := fun x hx => hp'.subset (SI.perm.subset (List.mem_append.mpr (.inl hx)))
        have hlenS : S.D.length + S.spl.length ≤ 7 := by
          have h1 := SI.perm.length_eq
          have h2 := hp'.length_eq
          rw [List.length_append] at h1
          simp only [keys, nms, List.length_map] at h1 h2
          omega
        have hlenK : (keys S.D).length + S.spl.length ≤ 7 := by simpa [keys] using hlenS
        ktr_unf
        refine' pairs_ne ?N9 ?p1 ?p2 ?q1 ?q2 ?r1 ?r2 hd' hd2 lo' lo2' hkN hi' hi2 ?hd9 ?hu ?hu1 ?_
        case N9 => k_asm
        case p1 => k_mem
        case p2 => k_mem
        case q1 => k_mem
        case q2 => k_mem
        case r1 => k_mem
        case r2 => k_mem
        case hd9 => k_ne
        case hu => ke_room
        case hu1 => ke_room
        ktr_unf
        · obtain ⟨kvs, hkd, hkf⟩ := id hd'
          have hkk := flat_keys hkf
          have hval : ∀ x ∈ keys S.D, 0 ≤ look S.D x ∧ look S.D x < (cn : Int) := fun x hx => SI.val _ (mem_of_key hkN hx)
          have hkl : kvs.length ≤ 7 := by
            have h1 := congrArg List.length hkk
            rw [List.length_map] at h1
            omega
          (refine' ListComp_ints (cl := ?cl) (fun _ => false) (fun x => x) ?hclos ?hcell ?hkind ?hnames ?hx ?h ?hs; (case hclos => with_unfolding_all rfl); (case hcell => decide); (case hkind => with_unfolding_all rfl); (case hnames => decide); (case hx => with_unfolding_all rfl); (case hs => intro _; with_unfolding_all rfl))
          ktr_unf
          refine' CompSrcI.dict (kvs := kvs) (src := keys S.D) ?hh6 lo' ?hd6 hkk.symm ?sz6 ?F6 ?N6 ⟨?tests6, ?elt6⟩ ?k6
          case hh6 => exact rfl
          case hd6 => exact Heap.dictOf_iff.mpr ⟨od', News.get (by k_asm) (by k_mem), hkd⟩
          case sz6 => omega
          case F6 => k_asm
          case N6 => k_asm
          case tests6 =>
            intro C n3 t3 s3 m3 E3 hC hn3 hN3 hx3 hkeep
            refine tests_one ?_
            have hv3 := hval n3 hn3
            obtain ⟨hv4, hv5⟩ := hv3
            rename Fr _ _ _ _ => F7
            rename News _ _ _ _ => N7
            have F8 := F7.keeps hkeep
            have N8 := N7.grown hkeep
            clear F7 N7
            ktr_unf
            all_goals first | exact ⟨_, _, rfl, fun _ _ e => e⟩ | (exfalso; omega) | (simp [hv5]; done)
          case elt6 =>
            intro C n3 t3 s3 m3 E3 hC hn3 hf3
            cases hf3
          case k6 =>
            intro D2 ys c6 h6 tk6 F6 N6 hne6 hD6 hys
            have hys0 : IntsAre ys [] := by
              have e0 : (List.filter (fun _ : Int => false) (keys S.D)) = [] := List.filter_eq_nil_iff.mpr fun a _ => Bool.false_ne_true
              rw [e0] at hys; exact hys
            clear hys
            k_unmd
            ktr_unf
            rename Fr _ _ _ _ => FL
            rename News _ _ _ _ => NL
            (with_unfolding_all refine For_invV S₁.heap (by rfl) (by rfl) ?_ (by intro _; with_unfolding_all rfl))
            ktr_unf
            refine' iter_dict1 (knd := PySem.intKind _ _) (kvs := kvs) [Str.ofString "other", Str.ofString "first", Str.ofString "last"] ?hh7 lo' ?hd7 ?hl7 FL NL ?turn7 ?done7
            case hh7 => exact rfl
            case hd7 => exact Heap.dictOf_iff.mpr ⟨od', News.get NL (by k_mem), hkd⟩
            case hl7 => exact (NL (dA', od') (by k_mem)).2.1
            case turn7 =>
              intro I i v u hT tkT own hv hw hown FT NT
              obtain ⟨one, y1, hone, his⟩ := hv
              obtain ⟨t1, rfl⟩ := Value.isInt_shape his
              have oneK : one ∈ keys S.D := by rw [← hkk]; exact List.mem_map.mpr ⟨_, List.mem_of_getElem? hone, rfl⟩
              have oneR := hkR one oneK
              simp only [List.cons_append] at NT
              clear FL NL
              k_unmd
              k_fold
              ktr_unf
              (with_unfolding_all refine For_invV S₁.heap (by rfl) (by rfl) ?_ (by intro _; with_unfolding_all rfl))
              ktr_unf
              rename Fr _ _ _ _ => FM
              rename News _ _ _ _ => NM
              refine' iter_dict1 (knd := PySem.intKind _ _) (kvs := kvs) [Str.ofString "first", Str.ofString "last"] ?hh8 lo' ?hd8 ?hl8 FM NM ?turn8 ?done8
              case hh8 => exact rfl
              case hd8 => exact Heap.dictOf_iff.mpr ⟨od', News.get NM (by k_mem), hkd⟩
              case hl8 => exact (NM (dA', od') (by k_mem)).2.1
              case turn8 =>
                intro I2 j v2 u2 hU tkU own2 hv2 hw2 hown2 FU NU
                obtain ⟨other, y2, hother, his2⟩ := hv2
                obtain ⟨t2, rfl⟩ := Value.isInt_shape his2
                have otherK : other ∈ keys S.D := by rw [← hkk]; exact List.mem_map.mpr ⟨_, List.mem_of_getElem? hother, rfl⟩
                have otherR := hkR other otherK
                simp only [List.cons_append] at NU
                clear FM NM
                k_unmd
                k_fold
                ktr_unf
                all_goals first
                  | (exfalso; exact col_no SI hkN oneK otherK (by omega) (by omega) (by omega) (by omega))
                  | (
                    dsimp only [PostC]
                    refine' EndC.intro () ?F ?N trivial ?hn ?ho ?hw ?hk ?hr
                    (case F => k_asm)
                    (case N => k_asm)
                    (case hn => exact fun p hp => List.mem_append_left own2 hp)
                    (case ho => exact fun p hp => by first | exact List.mem_append_right _ hp | (simp only [List.mem_cons, List.mem_append]; grind))
                    (case hw => exact hw2)
                    (case hk => exact fun _ h => nomatch h)
                    (case hr =>
                      intro z hz1 _
                      have e1 : z ≠ Str.ofString "other" := by (intro e; rw [e] at hz1; simp at hz1)
                      have e2 : z ≠ Str.ofString "first" := by (intro e; rw [e] at hz1; simp at hz1)
                      have e3 : z ≠ Str.ofString "last" := by (intro e; rw [e] at hz1; simp at hz1)
                      have e5 := (Bool.or_eq_false_iff.mp hz1).2
                      simp only [frOf, kstB, if_neg e1, if_neg e2, if_neg e3, e5, Bool.false_eq_true, if_false]
                      try rfl))
              case done8 =>
                intro u2 hU tkU FU NU
                clear FM NM
                k_unmd
                ktr_unf
                dsimp only [PostC]
                refine' EndC.intro () ?F ?N trivial ?hn ?ho ?hw ?hk ?hr
                case F => k_asm
                case N => k_asm
                case hn => exact fun p hp => List.mem_append_left own hp
                case ho => exact fun p hp => by first | exact List.mem_append_right _ hp | (simp only [List.mem_cons, List.mem_append]; grind)
                case hw => exact hw
                case hk => exact fun _ h => nomatch h
                case hr =>
                  intro z hz1 _
                  have e0 : z ≠ Str.ofString "one" := by (intro e; rw [e] at hz1; simp at hz1)
                  have e1 : z ≠ Str.ofString "other" := by (intro e; rw [e] at hz1; simp at hz1)
                  have e6 := (Bool.or_eq_false_iff.mp hz1).2
                  have e7 := e6
                  rw [List.contains_cons] at e7
                  have e5 := (Bool.or_eq_false_iff.mp e7).2
                  simp only [frOf, kstB, if_neg e0, if_neg e1, e5, e6, Bool.false_eq_true, if_false]
                  try rfl
            case done7 =>
              intro u hT tkT FT NT
              clear FL NL
              k_unmd
              ktr_unf
              refine' fewest_call ?B7 ?F7 ?X7 ?N7 ?T7 ?hk7 ?hdm7 ?lo7 ?hdo7 ?hR7 ?hlen7 ?hdp7 ?hun7 ?ret7; (case B7 => k_asm); (case F7 => k_asm); (case X7 => k_asm); (case N7 => k_asm); (case T7 => k_asm)
              case hk7 => exact rfl
              case hdm7 => k_mem
              case lo7 => assumption
              case hdo7 => assumption
              case hR7 => exact rngIn_mono (by assumption) (by (intro p hp; simp only [List.mem_cons, List.mem_append] at hp ⊢; grind))
              case hlen7 => omega
              case hdp7 => first | ktr_room | omega
              case hun7 => first | ktr_units | omega
              case ret7 =>
                intro ns t h8 tk8 hperm F8 N8
                rw [hfew ns hperm]
                ktr_unf
        · rename_i l1 v1 n1 c1' h1' F1 N1 i1 e1 p1 s1' m1' lt1 l2 v2 n2 c2' h2'' tk2'' F2 N2 i2 p2 s2' lt2 hne
          exfalso
          refine hne (sorted_same ((p1.trans (SI.perm.trans hp')).trans (List.Perm.symm ?_)) s1' s2')
          rw [List.map_map] at p2; exact p2)

end Mine

end
theorem PySem.Challenge.cw_no0223_01_holds : PySem.Challenge.rw_no0223_01.Holds := by
  exact Mine.law_holds
