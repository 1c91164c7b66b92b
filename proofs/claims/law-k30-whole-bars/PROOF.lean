import PyProof.Rows.All
import Wide.All
import OpenK.AllK
import Wide.FinOn
import HandS.ForMost
import HandS.Walk
import HandS.Zip
import KE.GoesZip
import KE.GoesMore
import HandS.TupMul
import HandS.Deep
import HandS.Gcd
import HandS.TupSets
import HandS.SortOrd
import HandS.SortRule
import KE.KMathGC
import PyProof.ReprRoads
import PyProof.Rows.TupDisplay
import HandS.IsInst
import HandS.TupAny
import HandS.TupLe
import HandS.Star
import HandS.Conv
import HandS.TupLen
import PySem.Challenge.RW_onlyhigher_k30_whole_bars
import PyProof.CallFns
set_option linter.all false
set_option maxHeartbeats 1000000
namespace Oh

abbrev El := List Int

/-- the sum of two elements -/
def addE : List Int → El → El → El
  | m :: G, a :: x, b :: y => (a + b) % m :: addE G x y
  | _, _, _ => []
/-- an element times a count -/
def repE : List Int → El → Int → El
  | m :: G, a :: x, c => (a * c) % m :: repE G x c
  | _, _, _ => []
def zeroE (G : List Int) : El := G.map fun _ => 0
/-- x is an element of G -/
def MemE : List Int → El → Prop
  | [], [] => True
  | m :: G, a :: x => (0 ≤ a ∧ a < m) ∧ MemE G x
  | _, _ => False
def memB : List Int → El → Bool
  | [], [] => true
  | m :: G, a :: x => (decide (0 ≤ a) && decide (a < m)) && memB G x
  | _, _ => false
theorem memB_iff : ∀ {G x}, memB G x = true ↔ MemE G x
  | [], [] => by simp [memB, MemE]
  | [], _ :: _ => by simp [memB, MemE]
  | _ :: _, [] => by simp [memB, MemE]
  | m :: G, a :: x => by simp [memB, MemE, memB_iff (G := G) (x := x)]
def Pos (G : List Int) : Prop := ∀ m ∈ G, 0 < m
theorem Pos.tail {m : Int} {G : List Int} (h : Pos (m :: G)) : Pos G := fun k hk => h k (List.mem_cons_of_mem _ hk)
theorem Pos.head {m : Int} {G : List Int} (h : Pos (m :: G)) : 0 < m := h m List.mem_cons_self

theorem MemE.len : ∀ {G : List Int} {x : El}, MemE G x → x.length = G.length
  | [], [], _ => rfl
  | [], _ :: _, h => h.elim
  | _ :: _, [], h => h.elim
  | m :: G, a :: x, h => by rw [List.length_cons, List.length_cons, MemE.len h.2]
theorem zeroE_len (G : List Int) : (zeroE G).length = G.length := by simp [zeroE]
theorem zeroE_mem : ∀ {G : List Int}, Pos G → MemE G (zeroE G)
  | [], _ => trivial
  | m :: G, h => ⟨⟨Int.le_refl _, h.head⟩, zeroE_mem h.tail⟩
theorem addE_mem : ∀ {G : List Int} {x y : El}, Pos G → x.length = G.length → y.length = G.length → MemE G (addE G x y)
  | [], [], [], _, _, _ => trivial
  | m :: G, a :: x, b :: y, h, hx, hy => ⟨⟨Int.emod_nonneg _ (by have := h.head; omega), Int.emod_lt_of_pos _ h.head⟩, addE_mem h.tail (by simpa using hx) (by simpa using hy)⟩
theorem repE_mem : ∀ {G : List Int} {x : El} {c : Int}, Pos G → x.length = G.length → MemE G (repE G x c)
  | [], [], _, _, _ => trivial
  | m :: G, a :: x, c, h, hx => ⟨⟨Int.emod_nonneg _ (by have := h.head; omega), Int.emod_lt_of_pos _ h.head⟩, repE_mem h.tail (by simpa using hx)⟩

/-! ### by places -/
theorem addE_ix : ∀ {G : List Int} {x y : El}, x.length = G.length → y.length = G.length → addE G x y = (List.range G.length).map fun i => (x.getD i 0 + y.getD i 0) % (G.getD i 0)
  | [], [], [], _, _ => rfl
  | m :: G, a :: x, b :: y, hx, hy => by
    rw [List.length_cons, List.range_succ_eq_map, List.map_cons, List.map_map, addE, addE_ix (G := G) (x := x) (y := y) (by simpa using hx) (by simpa using hy)]
    rfl
theorem repE_ix : ∀ {G : List Int} {x : El} {c : Int}, x.length = G.length → repE G x c = (List.range G.length).map fun i => (x.getD i 0 * c) % (G.getD i 0)
  | [], [], _, _ => rfl
  | m :: G, a :: x, c, hx => by
    rw [List.length_cons, List.range_succ_eq_map, List.map_cons, List.map_map, repE, repE_ix (G := G) (x := x) (by simpa using hx)]
    rfl

/-! ### laws of the sum -/
theorem addE_comm : ∀ (G : List Int) (x y : El), addE G x y = addE G y x
  | [], _, _ => by cases ‹List Int› <;> simp [addE]
  | m :: G, [], [] => rfl
  | m :: G, [], _ :: _ => rfl
  | m :: G, _ :: _, [] => rfl
  | m :: G, a :: x, b :: y => by rw [addE, addE, addE_comm G x y, Int.add_comm]
theorem addE_assoc : ∀ (G : List Int) (x y z : El), addE G (addE G x y) z = addE G x (addE G y z)
  | [], _, _, _ => by simp [addE]
  | m :: G, [], _, _ => by simp [addE]
  | m :: G, _ :: _, [], _ => by simp [addE]
  | m :: G, _ :: _, _ :: _, [] => by simp [addE]
  | m :: G, a :: x, b :: y, c :: z => by
    simp only [addE]
    rw [addE_assoc G x y z, Int.emod_add_emod, Int.add_emod_emod, Int.add_assoc]
theorem addE_zero : ∀ {G : List Int} {x : El}, MemE G x → addE G x (zeroE G) = x
  | [], [], _ => rfl
  | m :: G, a :: x, h => by
    show (a + 0) % m :: addE G x (zeroE G) = a :: x
    rw [addE_zero h.2, Int.add_zero, Int.emod_eq_of_lt h.1.1 h.1.2]
theorem addE_zero_any : ∀ {G : List Int} {x : El}, Pos G → x.length = G.length → addE G x (zeroE G) = repE G x 1
  | [], [], _, _ => rfl
  | m :: G, a :: x, h, hx => by
    show (a + 0) % m :: addE G x (zeroE G) = (a * 1) % m :: repE G x 1
    rw [addE_zero_any h.tail (by simpa using hx), Int.add_zero, Int.mul_one]
theorem repE_zero : ∀ {G : List Int} {x : El}, x.length = G.length → repE G x 0 = zeroE G
  | [], [], _ => rfl
  | m :: G, a :: x, hx => by
    show (a * 0) % m :: repE G x 0 = 0 :: zeroE G
    rw [repE_zero (by simpa using hx), Int.mul_zero, Int.zero_emod]
theorem repE_succ : ∀ {G : List Int} {x : El} {c : Int}, x.length = G.length → repE G x (c + 1) = addE G (repE G x c) x
  | [], [], _, _ => rfl
  | m :: G, a :: x, c, hx => by
    show (a * (c + 1)) % m :: repE G x (c + 1) = (a * c % m + a) % m :: addE G (repE G x c) x
    rw [repE_succ (by simpa using hx), Int.emod_add_emod, Int.mul_add, Int.mul_one]

/-! ### all elements, in order -/
def extE (rows : List El) (m : Int) : List El := rows.flatMap fun r => (List.range m.toNat).map fun (k : Nat) => r ++ [(k : Int)]
def membersE (G : List Int) : List El := G.foldl extE [[]]
/-- elements told from the left -/
theorem memE_snoc : ∀ {G : List Int} {m : Int} {x : El} {a : Int}, MemE (G ++ [m]) (x ++ [a]) ↔ MemE G x ∧ (0 ≤ a ∧ a < m)
  | [], m, [], a => by simp [MemE]
  | [], m, b :: x, a => by cases x <;> simp [MemE]
  | k :: G, m, [], a => by cases G <;> simp [MemE]
  | k :: G, m, b :: x, a => by
    show _ ∧ MemE (G ++ [m]) (x ++ [a]) ↔ _
    rw [memE_snoc]
    show _ ↔ (_ ∧ MemE G x) ∧ _
    simp only [and_assoc]
theorem members_gen : ∀ (G G0 : List Int) (rows : List El), Pos G → (∀ x, x ∈ rows ↔ MemE G0 x) → ∀ x, x ∈ G.foldl extE rows ↔ MemE (G0 ++ G) x
  | [], G0, rows, _, h, x => by rw [List.append_nil]; exact h x
  | m :: G, G0, rows, hp, h, x => by
    rw [List.foldl_cons, show G0 ++ m :: G = (G0 ++ [m]) ++ G by simp]
    refine members_gen G (G0 ++ [m]) (extE rows m) hp.tail (fun y => ?_) x
    unfold extE
    rw [List.mem_flatMap]
    constructor
    · rintro ⟨r, hr, hy⟩
      obtain ⟨k, hk, rfl⟩ := List.mem_map.mp hy
      have hk := List.mem_range.mp hk
      exact memE_snoc.mpr ⟨(h r).mp hr, by omega, by omega⟩
    · intro hy
      have hl := hy.len
      rw [List.length_append, List.length_singleton] at hl
      have hne : y ≠ [] := fun e => by rw [e] at hl; simp at hl
      have e := (List.dropLast_concat_getLast hne).symm
      rw [e] at hy
      obtain ⟨h1, h2, h3⟩ := memE_snoc.mp hy
      refine ⟨y.dropLast, (h _).mpr h1, List.mem_map.mpr ⟨(y.getLast hne).toNat, List.mem_range.mpr (by omega), ?_⟩⟩
      rw [Int.toNat_of_nonneg h2]
      exact e.symm
theorem mem_members {G : List Int} (hp : Pos G) (x : El) : x ∈ membersE G ↔ MemE G x := by
  have := members_gen G [] [[]] hp (fun y => by cases y <;> simp [MemE]) x
  simpa [membersE] using this
def prodE (G : List Int) : Nat := (G.map Int.toNat).foldl (· * ·) 1
theorem ext_len (rows : List El) (m : Int) : (extE rows m).length = rows.length * m.toNat := by
  unfold extE
  induction rows with
  | nil => simp
  | cons r rows ih => rw [List.flatMap_cons, List.length_append, ih, List.length_map, List.length_range, List.length_cons, Nat.succ_mul, Nat.add_comm]
theorem members_len_gen : ∀ (G : List Int) (rows : List El), (G.foldl extE rows).length = (G.map Int.toNat).foldl (· * ·) rows.length
  | [], rows => rfl
  | m :: G, rows => by rw [List.foldl_cons, members_len_gen G (extE rows m), ext_len, List.map_cons, List.foldl_cons]
theorem members_len (G : List Int) : (membersE G).length = prodE G := members_len_gen G [[]]
theorem ext_nodup {rows : List El} {m : Int} (h : rows.Nodup) : (extE rows m).Nodup := by
  unfold extE
  induction rows with
  | nil => simp
  | cons r rows ih =>
    rw [List.flatMap_cons]
    obtain ⟨h1, h2⟩ := List.nodup_cons.mp h
    refine List.nodup_append.mpr ⟨?_, ih h2, ?_⟩
    · refine List.Pairwise.map _ (fun a b hab e => hab ?_) List.nodup_range
      have := List.append_cancel_left e
      have e2 : (a : Int) = (b : Int) := by simpa using this
      omega
    · intro a ha b hb e
      subst e
      obtain ⟨k, _, rfl⟩ := List.mem_map.mp ha
      obtain ⟨r', hr', hb⟩ := List.mem_flatMap.mp hb
      obtain ⟨k', _, e⟩ := List.mem_map.mp hb
      have := List.append_inj_left' e rfl
      rw [this] at hr'
      exact h1 hr'
theorem members_nodup (G : List Int) : (membersE G).Nodup := by
  have gen : ∀ (G : List Int) (rows : List El), rows.Nodup → (G.foldl extE rows).Nodup := by
    intro G
    induction G with
    | nil => intro rows h; exact h
    | cons m G ih => intro rows h; exact ih _ (ext_nodup h)
  exact gen G [[]] (by simp)
theorem members_head_gen : ∀ (G : List Int) (r : El) (rows : List El), Pos G → ∃ t, G.foldl extE (r :: rows) = (r ++ zeroE G) :: t
  | [], r, rows, _ => ⟨rows, by simp [zeroE]⟩
  | m :: G, r, rows, h => by
    rw [List.foldl_cons]
    have hm := h.head
    obtain ⟨n, hn⟩ : ∃ n, m.toNat = n + 1 := ⟨m.toNat - 1, by omega⟩
    have e : extE (r :: rows) m = (r ++ [0]) :: ((List.range n).map (fun (k : Nat) => r ++ [((k + 1 : Nat) : Int)]) ++ extE rows m) := by
      unfold extE
      rw [List.flatMap_cons, hn, List.range_succ_eq_map, List.map_cons, List.map_map, List.cons_append]
      rfl
    rw [e]
    obtain ⟨t, ht⟩ := members_head_gen G (r ++ [0]) _ h.tail
    exact ⟨t, by rw [ht]; simp [zeroE]⟩
theorem members_head {G : List Int} (h : Pos G) : ∃ t, membersE G = zeroE G :: t := by
  obtain ⟨t, ht⟩ := members_head_gen G [] [] h
  exact ⟨t, by simpa [membersE] using ht⟩
theorem members_tail {G : List Int} (h : Pos G) {x : El} (hx : x ∈ (membersE G).drop 1) : MemE G x ∧ x ≠ zeroE G := by
  obtain ⟨t, ht⟩ := members_head h
  have nd := members_nodup G
  rw [ht] at nd hx
  obtain ⟨n1, _⟩ := List.nodup_cons.mp nd
  have hx' : x ∈ t := hx
  exact ⟨(mem_members h x).mp (by rw [ht]; exact List.mem_cons_of_mem _ hx'), fun e => n1 (e ▸ hx')⟩

/-- pigeons -/
theorem nodup_le {α : Type} [DecidableEq α] : ∀ {l D : List α}, l.Nodup → (∀ x ∈ l, x ∈ D) → l.length ≤ D.length
  | [], _, _, _ => Nat.zero_le _
  | x :: l, D, h, hs => by
    obtain ⟨h1, h2⟩ := List.nodup_cons.mp h
    have hx := hs x List.mem_cons_self
    have := nodup_le (l := l) (D := D.erase x) h2 fun y hy => (List.mem_erase_of_ne (fun (e : y = x) => h1 (e ▸ hy))).mpr (hs y (List.mem_cons_of_mem _ hy))
    have hl := List.length_erase_of_mem hx
    have hp : 0 < D.length := List.length_pos_of_mem hx
    rw [List.length_cons]
    omega
theorem members_few {G : List Int} (hp : Pos G) {l : List El} (h : l.Nodup) (hm : ∀ x ∈ l, MemE G x) : l.length ≤ prodE G := by
  rw [← members_len]
  exact nodup_le h fun x hx => (mem_members hp x).mpr (hm x hx)
end Oh

set_option linter.all false
set_option maxHeartbeats 1000000
namespace Oh

/-! ### a partial hom of Z^n to Z by W, as a set of pairs -/
abbrev ZV := Nat → Int
structure Sub (Γ : ZV → Int → Prop) : Prop where
  zero : Γ (fun _ => 0) 0
  add : ∀ {z a w b}, Γ z a → Γ w b → Γ (fun i => z i + w i) (a + b)
  neg : ∀ {z a}, Γ z a → Γ (fun i => - z i) (-a)
structure Gd (W : Int) (Γ : ZV → Int → Prop) : Prop extends Sub Γ where
  fn : ∀ {a}, Γ (fun _ => 0) a → W ∣ a
  top : ∀ z : ZV, Γ (fun i => W * z i) 0
  whole : Γ (fun _ => 0) W

section
variable {W : Int} {Γ : ZV → Int → Prop}
theorem Sub.nsmul (h : Sub Γ) {z : ZV} {a : Int} (hz : Γ z a) : ∀ t : Nat, Γ (fun i => (t : Int) * z i) ((t : Int) * a)
  | 0 => by
    have e : (fun i => ((0 : Nat) : Int) * z i) = fun _ => 0 := by funext i; simp
    rw [e]
    simpa using h.zero
  | t + 1 => by
    have e : (fun i => ((t + 1 : Nat) : Int) * z i) = fun i => (t : Int) * z i + z i := by
      funext i
      rw [Int.natCast_succ, Int.add_mul, Int.one_mul]
    rw [e, Int.natCast_succ, Int.add_mul, Int.one_mul]
    exact h.add (h.nsmul hz t) hz
theorem Sub.smul (h : Sub Γ) {z : ZV} {a : Int} (hz : Γ z a) (t : Int) : Γ (fun i => t * z i) (t * a) := by
  rcases Int.le_total 0 t with p | p
  · have q := h.nsmul hz t.toNat
    rw [Int.toNat_of_nonneg p] at q
    exact q
  · have q := h.neg (h.nsmul hz (-t).toNat)
    rw [Int.toNat_of_nonneg (by omega)] at q
    have e : (fun i => -(-t * z i)) = fun i => t * z i := by
      funext i
      rw [Int.neg_mul, Int.neg_neg]
    rw [e, Int.neg_mul, Int.neg_neg] at q
    exact q
/-- the least multiple of g that is reached divides every other one -/
theorem Gd.least (h : Gd W Γ) (hW : 0 < W) (g : ZV) : ∃ k : Int, 0 < k ∧ (∃ a, Γ (fun i => k * g i) a) ∧ ∀ j : Int, (∃ a, Γ (fun i => j * g i) a) → k ∣ j := by
  have hex : ∃ n : Nat, 0 < n ∧ ∃ a, Γ (fun i => (n : Int) * g i) a := ⟨W.toNat, by omega, 0, by
    rw [Int.toNat_of_nonneg (Int.le_of_lt hW)]
    exact h.top g⟩
  have least : ∀ n : Nat, (0 < n ∧ ∃ a, Γ (fun i => (n : Int) * g i) a) → ∃ k : Nat, (0 < k ∧ ∃ a, Γ (fun i => (k : Int) * g i) a) ∧ ∀ j : Nat, j < k → ¬ (0 < j ∧ ∃ a, Γ (fun i => (j : Int) * g i) a) := by
    intro n
    induction n using Nat.strongRecOn with
    | _ n ih =>
      intro hn
      by_cases q : ∃ j, j < n ∧ (0 < j ∧ ∃ a, Γ (fun i => (j : Int) * g i) a)
      · obtain ⟨j, hj, hq⟩ := q
        exact ih j hj hq
      · exact ⟨n, hn, fun j hj hq => q ⟨j, hj, hq⟩⟩
  obtain ⟨n, hn⟩ := hex
  obtain ⟨k, ⟨hk, a, ha⟩, hmin⟩ := least n hn
  refine ⟨(k : Int), by omega, ⟨a, ha⟩, fun j ⟨b, hb⟩ => ?_⟩
  have hk0 : (0 : Int) < k := by omega
  have r1 := Int.emod_nonneg j (show (k : Int) ≠ 0 by omega)
  have r2 := Int.emod_lt_of_pos j hk0
  have step := h.add hb (h.smul ha (-(j / k)))
  have e : (fun i => j * g i + -(j / (k : Int)) * ((k : Int) * g i)) = fun i => (j % (k : Int)) * g i := by
    funext i
    rw [← Int.mul_assoc, ← Int.add_mul, Int.emod_def, Int.neg_mul, Int.mul_comm (j / (k : Int)) (k : Int)]
    rfl
  rw [e] at step
  by_cases hr : j % (k : Int) = 0
  · exact Int.dvd_of_emod_eq_zero hr
  · refine (hmin (j % (k : Int)).toNat (by omega) ⟨by omega, b + -(j / (k : Int)) * a, ?_⟩).elim
    rw [Int.toNat_of_nonneg r1]
    exact step
/-- one more vector -/
theorem Gd.ext (h : Gd W Γ) (hW : 0 < W) (g : ZV) {k a0 : Int} (hk : 0 < k) (h0 : Γ (fun i => k * g i) a0) (hd : ∀ j : Int, (∃ a, Γ (fun i => j * g i) a) → k ∣ j) :
    ∃ Γ' : ZV → Int → Prop, Gd W Γ' ∧ (∀ z a, Γ z a → Γ' z a) ∧ Γ' g (a0 / k) := by
  have hkW : k ∣ W := hd W ⟨0, h.top g⟩
  obtain ⟨q, hq⟩ := hkW
  have hq0 : q ≠ 0 := fun e => by rw [e, Int.mul_zero] at hq; omega
  have hka : k ∣ a0 := by
    have s1 := h.add (h.smul h0 q) (h.neg (h.top g))
    have e : (fun i => q * (k * g i) + -(W * g i)) = fun _ => (0 : Int) := by
      funext i
      rw [hq, ← Int.mul_assoc, Int.mul_comm q k]
      omega
    rw [e, Int.neg_zero, Int.add_zero] at s1
    have s2 := h.fn s1
    rw [hq, Int.mul_comm k q] at s2
    exact Int.dvd_of_mul_dvd_mul_left hq0 s2
  obtain ⟨b, rfl⟩ := hka
  have hb : k * b / k = b := Int.mul_ediv_cancel_left b (by omega)
  rw [hb]
  refine ⟨fun z a => ∃ j : Int, Γ (fun i => z i - j * g i) (a - j * b), ⟨⟨⟨0, ?_⟩, ?_, ?_⟩, ?_, ?_, ?_⟩, ?_, ?_⟩
  · simpa using h.zero
  · rintro z a w c ⟨j, hj⟩ ⟨l, hl⟩
    refine ⟨j + l, ?_⟩
    have s := h.add hj hl
    have e : (fun i => z i - j * g i + (w i - l * g i)) = fun i => z i + w i - (j + l) * g i := by
      funext i
      rw [Int.add_mul]
      omega
    have e2 : a - j * b + (c - l * b) = a + c - (j + l) * b := by
      rw [Int.add_mul]
      omega
    rw [e, e2] at s
    exact s
  · rintro z a ⟨j, hj⟩
    refine ⟨-j, ?_⟩
    have s := h.neg hj
    have e : (fun i => -(z i - j * g i)) = fun i => -z i - -j * g i := by
      funext i
      rw [Int.neg_mul]
      omega
    have e2 : -(a - j * b) = -a - -j * b := by
      rw [Int.neg_mul]
      omega
    rw [e, e2] at s
    exact s
  · rintro a ⟨j, hj⟩
    have s := h.neg hj
    have e : (fun i => -(0 - j * g i)) = fun i => j * g i := by
      funext i
      omega
    rw [e] at s
    obtain ⟨t, rfl⟩ := hd j ⟨_, s⟩
    have s2 := h.add s (h.neg (h.smul h0 t))
    have e3 : (fun i => k * t * g i + -(t * (k * g i))) = fun _ => (0 : Int) := by
      funext i
      rw [← Int.mul_assoc, Int.mul_comm t k]
      omega
    rw [e3] at s2
    have s3 := h.fn s2
    have e4 : -(a - k * t * b) + -(t * (k * b)) = -a := by
      rw [← Int.mul_assoc, Int.mul_comm t k]
      omega
    rw [e4] at s3
    exact Int.dvd_neg.mp s3
  · intro z
    exact ⟨0, by simpa using h.top z⟩
  · exact ⟨0, by simpa using h.whole⟩
  · intro z a hz
    exact ⟨0, by simpa using hz⟩
  · refine ⟨1, ?_⟩
    simpa using h.zero
def unit (n : Nat) : ZV := fun i => if i = n then 1 else 0
theorem Gd.total (hW : 0 < W) : ∀ (n : Nat) {Γ : ZV → Int → Prop}, Gd W Γ → ∃ (Γ' : ZV → Int → Prop) (c : Nat → Int), Gd W Γ' ∧ (∀ z a, Γ z a → Γ' z a) ∧ ∀ i, i < n → Γ' (unit i) (c i)
  | 0, Γ, h => ⟨Γ, fun _ => 0, h, fun _ _ x => x, fun _ hi => absurd hi (Nat.not_lt_zero _)⟩
  | n + 1, Γ, h => by
    obtain ⟨Γ1, c, h1, s1, u1⟩ := Gd.total hW n h
    obtain ⟨k, hk, ⟨a0, h0⟩, hd⟩ := h1.least hW (unit n)
    obtain ⟨Γ2, h2, s2, u2⟩ := h1.ext hW (unit n) hk h0 hd
    refine ⟨Γ2, fun i => if i = n then a0 / k else c i, h2, fun z a x => s2 z a (s1 z a x), fun i hi => ?_⟩
    by_cases e : i = n
    · subst e
      simpa using u2
    · show Γ2 (unit i) (if i = n then a0 / k else c i)
      rw [if_neg e]
      exact s2 _ _ (u1 i (by omega))
/-- the sum of the first n of f -/
def sumTo : Nat → (Nat → Int) → Int
  | 0, _ => 0
  | n + 1, f => sumTo n f + f n
theorem Sub.lin (h : Sub Γ) {c : Nat → Int} (z : ZV) : ∀ n : Nat, (∀ i, i < n → Γ (unit i) (c i)) → Γ (fun i => if i < n then z i else 0) (sumTo n fun i => z i * c i)
  | 0, _ => by
    have e : (fun i => if i < 0 then z i else 0) = fun _ => (0 : Int) := by funext i; simp
    rw [e]
    exact h.zero
  | n + 1, hu => by
    have s := h.add (h.lin z n fun i hi => hu i (by omega)) (h.smul (hu n (by omega)) (z n))
    have e : (fun i => (if i < n then z i else 0) + z n * unit n i) = fun i => if i < n + 1 then z i else 0 := by
      funext i
      unfold unit
      by_cases q : i = n
      · subst q
        simp
      · by_cases r : i < n
        · simp [q, r, show i < n + 1 by omega]
        · simp [q, r, show ¬ i < n + 1 by omega]
    rw [e] at s
    exact s
end

/-! ### span -/
inductive Sp (G : List Int) (S : List El) : El → Prop
  | zero : Sp G S (zeroE G)
  | add {x s : El} : Sp G S x → s ∈ S → Sp G S (addE G x s)
section
variable {G : List Int} {S : List El}
theorem Sp.mem (hp : Pos G) (hS : ∀ s ∈ S, MemE G s) {x : El} (h : Sp G S x) : MemE G x := by
  induction h with
  | zero => exact zeroE_mem hp
  | add h hs ih => exact addE_mem hp ih.len (hS _ hs).len
theorem Sp.plus (hp : Pos G) (hS : ∀ s ∈ S, MemE G s) {x y : El} (hx : Sp G S x) (hy : Sp G S y) : Sp G S (addE G x y) := by
  induction hy with
  | zero => rw [addE_zero (hx.mem hp hS)]; exact hx
  | add h hs ih => rw [← addE_assoc]; exact .add ih hs
/-- z by the moduli -/
def redE : List Int → ZV → El
  | [], _ => []
  | m :: G, z => z 0 % m :: redE G fun i => z (i + 1)
theorem redE_add : ∀ (G : List Int) (z w : ZV), redE G (fun i => z i + w i) = addE G (redE G z) (redE G w)
  | [], _, _ => rfl
  | m :: G, z, w => by
    show (z 0 + w 0) % m :: redE G (fun i => z (i + 1) + w (i + 1)) = (z 0 % m + w 0 % m) % m :: addE G (redE G fun i => z (i + 1)) (redE G fun i => w (i + 1))
    rw [redE_add G, ← Int.add_emod]
theorem redE_zero : ∀ {G : List Int} {z : ZV}, (∀ i, i < G.length → G.getD i 1 ∣ z i) → redE G z = zeroE G
  | [], _, _ => rfl
  | m :: G, z, h => by
    show z 0 % m :: redE G (fun i => z (i + 1)) = 0 :: zeroE G
    have e : z 0 % m = 0 := Int.emod_eq_zero_of_dvd (h 0 (Nat.succ_pos _))
    rw [redE_zero (G := G) fun i hi => h (i + 1) (Nat.succ_lt_succ hi), e]
def fnE (x : El) : ZV := fun i => x.getD i 0
theorem redE_fn : ∀ {G : List Int} {x : El}, MemE G x → redE G (fnE x) = x
  | [], [], _ => rfl
  | m :: G, a :: x, h => by
    show a % m :: redE G (fnE x) = a :: x
    rw [redE_fn h.2, Int.emod_eq_of_lt h.1.1 h.1.2]
theorem redE_cut : ∀ (G : List Int) (z : ZV), redE G (fun i => if i < G.length then z i else 0) = redE G z
  | [], _ => rfl
  | m :: G, z => by
    have e : (fun i => if i + 1 < (m :: G).length then z (i + 1) else 0) = fun i => if i < G.length then z (i + 1) else 0 := by
      funext i
      simp
    show (if 0 < (m :: G).length then z 0 else 0) % m :: redE G (fun i => if i + 1 < (m :: G).length then z (i + 1) else 0) = z 0 % m :: redE G fun i => z (i + 1)
    rw [e, redE_cut G fun i => z (i + 1)]
    simp

/-! ### characters -/
/-- the sum of the parts -/
def dotE (W : Int) : List Int → El → El → Int
  | m :: G, c :: cs, x :: xs => c * x * (W / m) + dotE W G cs xs
  | _, _, _ => 0
def wholeE (G : List Int) : Int := G.foldl (· * ·) 1
/-- kills, by the product of the moduli -/
def killsE (G : List Int) (c x : El) : Bool := dotE (wholeE G) G c x % wholeE G == 0
theorem killsE_iff {c x : El} : killsE G c x = true ↔ wholeE G ∣ dotE (wholeE G) G c x := by
  unfold killsE
  rw [beq_iff_eq]
  exact ⟨Int.dvd_of_emod_eq_zero, Int.emod_eq_zero_of_dvd⟩
theorem whole_gen : ∀ (G : List Int) (a : Int), G.foldl (· * ·) a = a * wholeE G
  | [], a => by simp [wholeE]
  | m :: G, a => by
    have h1 := whole_gen G (a * m)
    have h2 := whole_gen G (1 * m)
    rw [List.foldl_cons, h1]
    unfold wholeE at *
    rw [List.foldl_cons, h2, Int.one_mul, Int.mul_assoc]
theorem whole_cons (m : Int) (G : List Int) : wholeE (m :: G) = m * wholeE G := by
  show G.foldl (· * ·) (1 * m) = _
  rw [whole_gen, Int.one_mul]
theorem whole_pos : ∀ {G : List Int}, Pos G → 0 < wholeE G
  | [], _ => by decide
  | m :: G, h => by
    rw [whole_cons]
    exact Int.mul_pos h.head (whole_pos h.tail)
theorem whole_dvd : ∀ {G : List Int} {i : Nat}, i < G.length → G.getD i 1 ∣ wholeE G
  | m :: G, 0, _ => by rw [whole_cons]; exact Int.dvd_mul_right m _
  | m :: G, i + 1, h => by
    rw [whole_cons]
    exact Int.dvd_mul_of_dvd_right (whole_dvd (G := G) (i := i) (Nat.lt_of_succ_lt_succ h))
theorem dotE_sum (W : Int) : ∀ {G : List Int} {c x : El}, c.length = G.length → x.length = G.length → dotE W G c x = sumTo G.length fun i => c.getD i 0 * x.getD i 0 * (W / G.getD i 1) := by
  have shift : ∀ (n : Nat) (f : Nat → Int), sumTo (n + 1) f = f 0 + sumTo n fun i => f (i + 1) := by
    intro n f
    induction n with
    | zero => show 0 + f 0 = f 0 + 0; omega
    | succ n ih =>
      show sumTo (n + 1) f + f (n + 1) = f 0 + (sumTo n (fun i => f (i + 1)) + f (n + 1))
      rw [ih]
      omega
  intro G
  induction G with
  | nil => intro c x hc hx; cases c <;> cases x <;> simp_all [dotE, sumTo]
  | cons m G ih =>
    intro c x hc hx
    cases c with
    | nil => simp at hc
    | cons c0 c =>
      cases x with
      | nil => simp at hx
      | cons x0 x =>
        rw [List.length_cons, shift]
        show c0 * x0 * (W / m) + dotE W G c x = _
        rw [ih (by simpa using hc) (by simpa using hx)]
        rfl
theorem dotE_add (W : Int) : ∀ {G : List Int} {c x y : El}, (∀ m ∈ G, m ∣ W) → Pos G → c.length = G.length → x.length = G.length → y.length = G.length → W ∣ dotE W G c (addE G x y) - (dotE W G c x + dotE W G c y)
  | [], [], [], [], _, _, _, _, _ => ⟨0, by simp [dotE, addE]⟩
  | m :: G, c0 :: c, x0 :: x, y0 :: y, hd, hp, hc, hx, hy => by
    obtain ⟨t, ht⟩ := dotE_add W (G := G) (c := c) (x := x) (y := y) (fun k hk => hd k (List.mem_cons_of_mem _ hk)) hp.tail (by simpa using hc) (by simpa using hx) (by simpa using hy)
    obtain ⟨w, hw⟩ := hd m List.mem_cons_self
    have hm := hp.head
    show W ∣ c0 * ((x0 + y0) % m) * (W / m) + dotE W G c (addE G x y) - (c0 * x0 * (W / m) + dotE W G c x + (c0 * y0 * (W / m) + dotE W G c y))
    have e1 : W / m = w := by rw [hw]; exact Int.mul_ediv_cancel_left w (by omega)
    have e2 : (x0 + y0) % m = x0 + y0 - m * ((x0 + y0) / m) := Int.emod_def _ _
    have e3 : c0 * ((x0 + y0) % m) * w = c0 * x0 * w + c0 * y0 * w - W * (c0 * ((x0 + y0) / m)) := by
      rw [e2, hw, Int.mul_sub, Int.mul_add, Int.sub_mul, Int.add_mul]
      have : c0 * (m * ((x0 + y0) / m)) * w = m * w * (c0 * ((x0 + y0) / m)) := by
        simp only [Int.mul_assoc, Int.mul_comm, Int.mul_left_comm]
      omega
    refine ⟨t - c0 * ((x0 + y0) / m), ?_⟩
    rw [e1, e3, Int.mul_sub, ← ht]
    omega
theorem dotE_zero (W : Int) : ∀ {G : List Int} {c : El}, dotE W G c (zeroE G) = 0
  | [], c => by cases c <;> simp [dotE, zeroE]
  | m :: G, [] => by simp [dotE]
  | m :: G, c0 :: c => by
    show c0 * 0 * (W / m) + dotE W G c (zeroE G) = 0
    rw [dotE_zero W, Int.mul_zero, Int.zero_mul, Int.zero_add]
theorem mod_dvd {G : List Int} {m : Int} (h : m ∈ G) : m ∣ wholeE G := by
  obtain ⟨i, hi, e⟩ := List.mem_iff_getElem.mp h
  have := whole_dvd (G := G) hi
  rw [List.getD_eq_getElem?_getD, List.getElem?_eq_getElem hi, Option.getD_some, e] at this
  exact this
/-- what is spanned is killed -/
theorem Sp.killed (hp : Pos G) (hS : ∀ s ∈ S, MemE G s) {c : El} (hc : c.length = G.length) (hk : ∀ s ∈ S, killsE G c s = true) {x : El} (h : Sp G S x) : killsE G c x = true := by
  induction h with
  | zero => rw [killsE_iff, dotE_zero]; exact ⟨0, by simp⟩
  | @add x s h hs ih =>
    have d := dotE_add (wholeE G) (G := G) (c := c) (x := x) (y := s) (fun m hm => mod_dvd hm) hp hc (h.mem hp hS).len (hS s hs).len
    have h1 := killsE_iff.mp ih
    have h2 := killsE_iff.mp (hk s hs)
    rw [killsE_iff]
    have h3 := Int.dvd_add d (Int.dvd_add h1 h2)
    rw [Int.sub_add_cancel] at h3
    exact h3

/-! ### what is not spanned is told apart -/
theorem redE_mul_span (hp : Pos G) (hS : ∀ s ∈ S, MemE G s) {z : ZV} (h : Sp G S (redE G z)) : ∀ t : Nat, Sp G S (redE G fun i => (t : Int) * z i)
  | 0 => by
    have e : redE G (fun i => ((0 : Nat) : Int) * z i) = zeroE G := redE_zero fun i _ => by simp
    rw [e]
    exact .zero
  | t + 1 => by
    have e : (fun i => ((t + 1 : Nat) : Int) * z i) = fun i => (t : Int) * z i + z i := by
      funext i
      rw [Int.natCast_succ, Int.add_mul, Int.one_mul]
    rw [e, redE_add]
    exact (redE_mul_span hp hS h t).plus hp hS h
theorem redE_congr : ∀ {G : List Int} {z w : ZV}, (∀ i, i < G.length → z i % G.getD i 1 = w i % G.getD i 1) → redE G z = redE G w
  | [], _, _, _ => rfl
  | m :: G, z, w, h => by
    have e : z 0 % m = w 0 % m := h 0 (Nat.succ_pos _)
    show z 0 % m :: redE G (fun i => z (i + 1)) = w 0 % m :: redE G fun i => w (i + 1)
    rw [e, redE_congr (G := G) fun i hi => h (i + 1) (Nat.succ_lt_succ hi)]
theorem redE_neg_span (hp : Pos G) (hS : ∀ s ∈ S, MemE G s) {z : ZV} (h : Sp G S (redE G z)) : Sp G S (redE G fun i => - z i) := by
  have q := redE_mul_span hp hS h (wholeE G - 1).toNat
  have hw := whole_pos hp
  rw [Int.toNat_of_nonneg (by omega)] at q
  have e : redE G (fun i => (wholeE G - 1) * z i) = redE G fun i => - z i := redE_congr fun i hi => by
    obtain ⟨t, ht⟩ := whole_dvd (G := G) hi
    have e1 : (wholeE G - 1) * z i = - z i + G.getD i 1 * (t * z i) := by
      rw [Int.sub_mul, Int.one_mul, ← Int.mul_assoc, ← ht]
      omega
    rw [e1, Int.add_mul_emod_self_left]
  rw [← e]
  exact q
theorem base_gd (hp : Pos G) (hS : ∀ s ∈ S, MemE G s) : Gd (wholeE G) (fun z a => Sp G S (redE G z) ∧ wholeE G ∣ a) where
  zero := ⟨by rw [redE_zero (G := G) (z := fun _ => 0) fun i _ => ⟨0, by simp⟩]; exact .zero, ⟨0, by simp⟩⟩
  add := fun ⟨h1, h2⟩ ⟨h3, h4⟩ => ⟨by rw [redE_add]; exact h1.plus hp hS h3, Int.dvd_add h2 h4⟩
  neg := fun ⟨h1, h2⟩ => ⟨redE_neg_span hp hS h1, Int.dvd_neg.mpr h2⟩
  fn := fun ⟨_, h⟩ => h
  top := fun z => ⟨by rw [redE_zero (G := G) (z := fun i => wholeE G * z i) fun i hi => Int.dvd_mul_of_dvd_left (whole_dvd hi)]; exact .zero, ⟨0, by simp⟩⟩
  whole := ⟨by rw [redE_zero (G := G) (z := fun _ => 0) fun i _ => ⟨0, by simp⟩]; exact .zero, Int.dvd_refl _⟩
theorem sumTo_dvd {W : Int} : ∀ (n : Nat) {f g : Nat → Int}, (∀ i, i < n → W ∣ f i - g i) → W ∣ sumTo n f - sumTo n g
  | 0, _, _, _ => ⟨0, by simp [sumTo]⟩
  | n + 1, f, g, h => by
    have := Int.dvd_add (sumTo_dvd n fun i hi => h i (by omega)) (h n (by omega))
    have e : sumTo n f - sumTo n g + (f n - g n) = sumTo (n + 1) f - sumTo (n + 1) g := by
      show _ = (sumTo n f + f n) - (sumTo n g + g n)
      omega
    rw [e] at this
    exact this
theorem mem_of_ix : ∀ {G : List Int} {x : El}, x.length = G.length → (∀ i, i < G.length → 0 ≤ x.getD i 0 ∧ x.getD i 0 < G.getD i 1) → MemE G x
  | [], [], _, _ => trivial
  | m :: G, a :: x, hl, h => ⟨h 0 (Nat.succ_pos _), mem_of_ix (by simpa using hl) fun i hi => h (i + 1) (Nat.succ_lt_succ hi)⟩
theorem getD_mem {G : List Int} {i : Nat} (hi : i < G.length) : G.getD i 1 ∈ G := by
  rw [List.getD_eq_getElem?_getD, List.getElem?_eq_getElem hi]
  exact List.getElem_mem hi
theorem apart (hp : Pos G) (hS : ∀ s ∈ S, MemE G s) {x : El} (hx : MemE G x) (hn : ¬ Sp G S x) : ∃ c : El, MemE G c ∧ (∀ s ∈ S, killsE G c s = true) ∧ killsE G c x = false := by
  have hw := whole_pos hp
  have h0 := base_gd hp hS
  obtain ⟨k, hk, ⟨a, ha, _⟩, hd⟩ := h0.least hw (fnE x)
  have hk1 : k ≠ 1 := fun e => by
    subst e
    have e1 : (fun i => 1 * fnE x i) = fnE x := by funext i; rw [Int.one_mul]
    rw [e1, redE_fn hx] at ha
    exact hn ha
  have hkW : k ∣ wholeE G := hd _ ⟨0, h0.top _⟩
  obtain ⟨Γ1, h1, s1, u1⟩ := h0.ext hw (fnE x) hk (a0 := wholeE G) ⟨ha, Int.dvd_refl _⟩ hd
  obtain ⟨Γ, c, h2, s2, u2⟩ := Gd.total hw G.length h1
  have inB : ∀ {z a}, Sp G S (redE G z) → wholeE G ∣ a → Γ z a := fun p q => s2 _ _ (s1 _ _ ⟨p, q⟩)
  obtain ⟨q, hq⟩ := hkW
  have hb : wholeE G / k = q := by rw [hq]; exact Int.mul_ediv_cancel_left q (by omega)
  have hq0 : 0 < q := by
    rcases Int.lt_or_le 0 q with p | p
    · exact p
    · have := Int.mul_nonpos_of_nonneg_of_nonpos (Int.le_of_lt hk) p
      omega
  -- W / m divides c
  have hc : ∀ i, i < G.length → wholeE G / G.getD i 1 ∣ c i := fun i hi => by
    have hm : 0 < G.getD i 1 := hp _ (getD_mem hi)
    obtain ⟨w, ew⟩ := whole_dvd (G := G) hi
    have e1 : wholeE G / G.getD i 1 = w := by rw [ew]; exact Int.mul_ediv_cancel_left w (by omega)
    have p1 := h2.smul (u2 i hi) (G.getD i 1)
    have p2 : Γ (fun j => G.getD i 1 * unit i j) 0 := inB (by
      rw [redE_zero (G := G) (z := fun j => G.getD i 1 * unit i j) fun j hj => ?_]
      · exact .zero
      · unfold unit
        by_cases e : j = i
        · rw [if_pos e, Int.mul_one, e]
          exact Int.dvd_refl _
        · rw [if_neg e, Int.mul_zero]
          exact ⟨0, by simp⟩) ⟨0, by simp⟩
    have p3 := h2.add p1 (h2.neg p2)
    have e2 : (fun j => G.getD i 1 * unit i j + -(G.getD i 1 * unit i j)) = fun _ => (0 : Int) := by funext j; omega
    rw [e2] at p3
    have p4 := h2.fn p3
    rw [Int.neg_zero, Int.add_zero, ew] at p4
    rw [e1]
    exact Int.dvd_of_mul_dvd_mul_left (by omega) p4
  let ch : El := (List.range G.length).map fun i => (c i / (wholeE G / G.getD i 1)) % G.getD i 1
  have chl : ch.length = G.length := by simp [ch]
  have chi : ∀ i, i < G.length → ch.getD i 0 = (c i / (wholeE G / G.getD i 1)) % G.getD i 1 := fun i hi => by
    simp [ch, List.getD_eq_getElem?_getD, hi]
  have chm : MemE G ch := mem_of_ix chl fun i hi => by
    have hm : 0 < G.getD i 1 := hp _ (getD_mem hi)
    rw [chi i hi]
    exact ⟨Int.emod_nonneg _ (by omega), Int.emod_lt_of_pos _ hm⟩
  -- what it says of an element
  have say : ∀ {y : El}, MemE G y → wholeE G ∣ dotE (wholeE G) G ch y - sumTo G.length fun i => fnE y i * c i := fun {y} hy => by
    rw [dotE_sum (wholeE G) chl hy.len]
    refine sumTo_dvd _ fun i hi => ?_
    have hm : 0 < G.getD i 1 := hp _ (getD_mem hi)
    obtain ⟨w, ew⟩ := whole_dvd (G := G) hi
    have e1 : wholeE G / G.getD i 1 = w := by rw [ew]; exact Int.mul_ediv_cancel_left w (by omega)
    obtain ⟨t, ht⟩ := hc i hi
    have hw0 : w ≠ 0 := fun e => by rw [e, Int.mul_zero] at ew; omega
    rw [chi i hi, ht, e1]
    have e2 : w * t / w = t := Int.mul_ediv_cancel_left t hw0
    rw [e2]
    show wholeE G ∣ t % G.getD i 1 * y.getD i 0 * w - y.getD i 0 * (w * t)
    have e3 : t % G.getD i 1 = t - G.getD i 1 * (t / G.getD i 1) := Int.emod_def _ _
    refine ⟨-(t / G.getD i 1 * y.getD i 0), ?_⟩
    rw [e3, Int.sub_mul, Int.sub_mul]
    have e4 : t * y.getD i 0 * w = y.getD i 0 * (w * t) := by simp only [Int.mul_assoc, Int.mul_comm, Int.mul_left_comm]
    have e5 : G.getD i 1 * (t / G.getD i 1) * y.getD i 0 * w = wholeE G * (t / G.getD i 1 * y.getD i 0) := by
      rw [ew]
      simp only [Int.mul_assoc, Int.mul_comm, Int.mul_left_comm]
    rw [e4, e5, Int.mul_neg]
    omega
  have lin : ∀ {y : El}, MemE G y → Γ (fun i => if i < G.length then fnE y i else 0) (sumTo G.length fun i => fnE y i * c i) := fun hy => h2.lin _ _ u2
  have cutE : ∀ {y : El}, MemE G y → (fun i => if i < G.length then fnE y i else 0) = fnE y := fun {y} hy => by
    funext i
    by_cases hi : i < G.length
    · rw [if_pos hi]
    · rw [if_neg hi]
      unfold fnE
      rw [List.getD_eq_getElem?_getD, List.getElem?_eq_none (by rw [hy.len]; omega)]
      rfl
  refine ⟨ch, chm, fun s hs => ?_, ?_⟩
  · have l := lin (hS s hs)
    rw [cutE (hS s hs)] at l
    have b : Γ (fnE s) 0 := inB (by
      rw [redE_fn (hS s hs)]
      have := Sp.add (G := G) (S := S) .zero hs
      rw [addE_comm, addE_zero (hS s hs)] at this
      exact this) ⟨0, by simp⟩
    have p := h2.add l (h2.neg b)
    have e2 : (fun j => fnE s j + -(fnE s j)) = fun _ => (0 : Int) := by funext j; omega
    rw [e2, Int.neg_zero, Int.add_zero] at p
    have p4 := h2.fn p
    rw [killsE_iff]
    have := Int.dvd_add (say (hS s hs)) p4
    rw [Int.sub_add_cancel] at this
    exact this
  · cases hkl : killsE G ch x with
    | false => rfl
    | true =>
      exfalso
      have k1 := killsE_iff.mp hkl
      have l := lin hx
      rw [cutE hx] at l
      have b : Γ (fnE x) q := by
        rw [← hb]
        exact s2 _ _ u1
      have p := h2.add l (h2.neg b)
      have e2 : (fun j => fnE x j + -(fnE x j)) = fun _ => (0 : Int) := by funext j; omega
      rw [e2] at p
      have p4 := h2.fn p
      have p5 := Int.dvd_sub k1 (say hx)
      have e6 : dotE (wholeE G) G ch x - (dotE (wholeE G) G ch x - sumTo G.length fun i => fnE x i * c i) = sumTo G.length fun i => fnE x i * c i := by omega
      rw [e6] at p5
      have p6 := Int.dvd_sub p5 p4
      have e7 : (sumTo G.length fun i => fnE x i * c i) - ((sumTo G.length fun i => fnE x i * c i) + -q) = q := by omega
      rw [e7] at p6
      have p7 := Int.le_of_dvd hq0 p6
      rw [hq] at p7
      have k2 : 2 ≤ k := by omega
      have := Int.mul_le_mul_of_nonneg_right k2 (Int.le_of_lt hq0)
      omega
end
end Oh

set_option linter.all false
set_option maxHeartbeats 1000000
namespace Oh

/-! ### kills by the least common multiple -/
def lcmI (a b : Int) : Int := ((a.natAbs.lcm b.natAbs : Nat) : Int)
def lcmE (G : List Int) : Int := G.foldl lcmI 1
def killsL (G : List Int) (c x : El) : Bool := dotE (lcmE G) G c x % lcmE G == 0
theorem lcm_gen : ∀ (G : List Int) (a : Int), 0 < a → Pos G → 0 < G.foldl lcmI a ∧ a ∣ G.foldl lcmI a ∧ (∀ m ∈ G, m ∣ G.foldl lcmI a) ∧ ∀ t, a ∣ t → (∀ m ∈ G, m ∣ t) → G.foldl lcmI a ∣ t
  | [], a, ha, _ => ⟨ha, Int.dvd_refl _, fun _ h => absurd h (by simp), fun _ h _ => h⟩
  | m :: G, a, ha, hp => by
    have hm := hp.head
    have h0 : 0 < lcmI a m := by
      have := Nat.lcm_pos (m := a.natAbs) (n := m.natAbs) (by omega) (by omega)
      unfold lcmI
      omega
    have ea : (a.natAbs : Int) = a := Int.natAbs_of_nonneg (Int.le_of_lt ha)
    have em : (m.natAbs : Int) = m := Int.natAbs_of_nonneg (Int.le_of_lt hm)
    have h1 : a ∣ lcmI a m := by
      have := Int.natCast_dvd_natCast.mpr (Nat.dvd_lcm_left a.natAbs m.natAbs)
      rw [ea] at this
      exact this
    have h2 : m ∣ lcmI a m := by
      have := Int.natCast_dvd_natCast.mpr (Nat.dvd_lcm_right a.natAbs m.natAbs)
      rw [em] at this
      exact this
    obtain ⟨p1, p2, p3, p4⟩ := lcm_gen G (lcmI a m) h0 hp.tail
    rw [List.foldl_cons]
    refine ⟨p1, Int.dvd_trans h1 p2, fun k hk => ?_, fun t ht hts => ?_⟩
    · rcases List.mem_cons.mp hk with rfl | hk
      · exact Int.dvd_trans h2 p2
      · exact p3 k hk
    · refine p4 t ?_ fun k hk => hts k (List.mem_cons_of_mem _ hk)
      have q1 : a.natAbs ∣ t.natAbs := Int.natAbs_dvd_natAbs.mpr ht
      have q2 : m.natAbs ∣ t.natAbs := Int.natAbs_dvd_natAbs.mpr (hts m List.mem_cons_self)
      have q3 := Nat.lcm_dvd q1 q2
      exact Int.natAbs_dvd_natAbs.mp (by simpa [lcmI] using q3)
theorem lcmE_facts {G : List Int} (hp : Pos G) : 0 < lcmE G ∧ (∀ m ∈ G, m ∣ lcmE G) ∧ lcmE G ∣ wholeE G := by
  obtain ⟨p1, _, p3, p4⟩ := lcm_gen G 1 (by decide) hp
  exact ⟨p1, p3, p4 _ (Int.one_dvd _) fun m hm => mod_dvd hm⟩
theorem dotE_scale {L t : Int} : ∀ {G : List Int} {c x : El}, (∀ m ∈ G, m ∣ L) → Pos G → dotE (L * t) G c x = t * dotE L G c x
  | [], c, x, _, _ => by simp [dotE]
  | m :: G, [], x, _, _ => by simp [dotE]
  | m :: G, c0 :: c, [], _, _ => by simp [dotE]
  | m :: G, c0 :: c, x0 :: x, hd, hp => by
    obtain ⟨w, hw⟩ := hd m List.mem_cons_self
    have hm := hp.head
    show c0 * x0 * (L * t / m) + dotE (L * t) G c x = t * (c0 * x0 * (L / m) + dotE L G c x)
    have e1 : L / m = w := by rw [hw]; exact Int.mul_ediv_cancel_left w (by omega)
    have e2 : L * t / m = w * t := by rw [hw, Int.mul_assoc]; exact Int.mul_ediv_cancel_left _ (by omega)
    rw [e1, e2, dotE_scale (fun k hk => hd k (List.mem_cons_of_mem _ hk)) hp.tail, Int.mul_add]
    have : c0 * x0 * (w * t) = t * (c0 * x0 * w) := by simp only [Int.mul_assoc, Int.mul_comm, Int.mul_left_comm]
    omega
theorem killsL_eq {G : List Int} (hp : Pos G) (c x : El) : killsL G c x = killsE G c x := by
  obtain ⟨h0, hd, t, ht⟩ := lcmE_facts hp
  have ht0 : t ≠ 0 := fun e => by
    have := whole_pos hp
    rw [ht, e, Int.mul_zero] at this
    omega
  unfold killsL killsE
  rw [ht, dotE_scale hd hp]
  have e : (dotE (lcmE G) G c x % lcmE G = 0) ↔ (t * dotE (lcmE G) G c x % (lcmE G * t) = 0) := by
    constructor
    · intro h
      obtain ⟨k, hk⟩ := Int.dvd_of_emod_eq_zero h
      rw [hk]
      exact Int.emod_eq_zero_of_dvd ⟨k, by rw [Int.mul_comm (lcmE G) t, Int.mul_assoc]⟩
    · intro h
      have h1 := Int.dvd_of_emod_eq_zero h
      rw [Int.mul_comm (lcmE G) t] at h1
      exact Int.emod_eq_zero_of_dvd (Int.dvd_of_mul_dvd_mul_left ht0 h1)
  by_cases q : dotE (lcmE G) G c x % lcmE G = 0
  · rw [beq_iff_eq.mpr q, beq_iff_eq.mpr (e.mp q)]
  · rw [beq_eq_false_iff_ne.mpr q, beq_eq_false_iff_ne.mpr fun z => q (e.mpr z)]

/-! ### the order of elements, ascending lists -/
def ltE : El → El → Bool
  | [], [] => false
  | [], _ :: _ => true
  | _ :: _, [] => false
  | a :: x, b :: y => decide (a < b) || (decide (a = b) && ltE x y)
theorem ltE_irr : ∀ x : El, ltE x x = false
  | [] => rfl
  | a :: x => by simp [ltE, ltE_irr x]
theorem ltE_tr : ∀ {x y z : El}, ltE x y = true → ltE y z = true → ltE x z = true
  | [], [], _, h, _ => by cases h
  | [], _ :: _, [], _, h => by cases h
  | [], _ :: _, _ :: _, _, _ => rfl
  | _ :: _, [], _, h, _ => by cases h
  | _ :: _, _ :: _, [], _, h => by cases h
  | a :: x, b :: y, c :: z, h1, h2 => by
    simp only [ltE, Bool.or_eq_true, Bool.and_eq_true, decide_eq_true_eq] at h1 h2 ⊢
    rcases h1 with h1 | ⟨rfl, h1⟩
    · rcases h2 with h2 | ⟨rfl, h2⟩
      · exact .inl (by omega)
      · exact .inl h1
    · rcases h2 with h2 | ⟨rfl, h2⟩
      · exact .inl h2
      · exact .inr ⟨rfl, ltE_tr h1 h2⟩
theorem ltE_tri : ∀ (x y : El), ltE x y = true ∨ x = y ∨ ltE y x = true
  | [], [] => .inr (.inl rfl)
  | [], _ :: _ => .inl rfl
  | _ :: _, [] => .inr (.inr rfl)
  | a :: x, b :: y => by
    simp only [ltE, Bool.or_eq_true, Bool.and_eq_true, decide_eq_true_eq]
    rcases Int.lt_trichotomy a b with h | rfl | h
    · exact .inl (.inl h)
    · rcases ltE_tri x y with h | rfl | h
      · exact .inl (.inr ⟨rfl, h⟩)
      · exact .inr (.inl rfl)
      · exact .inr (.inr (.inr ⟨rfl, h⟩))
    · exact .inr (.inr (.inl h))
theorem ltE_no {x y : El} (h : ltE x y = true) : ltE y x = false := by
  cases q : ltE y x with
  | false => rfl
  | true =>
    have := ltE_tr h q
    rw [ltE_irr] at this
    cases this
abbrev Asc (l : List El) : Prop := l.Pairwise fun x y => ltE x y = true
theorem Asc.nodup {l : List El} (h : Asc l) : l.Nodup := h.imp fun {x y} p e => by
  subst e
  rw [ltE_irr] at p
  cases p
theorem asc_uniq : ∀ {l m : List El}, Asc l → Asc m → (∀ x, x ∈ l ↔ x ∈ m) → l = m
  | [], [], _, _, _ => rfl
  | [], y :: m, _, _, h => absurd ((h y).mpr List.mem_cons_self) (by simp)
  | x :: l, [], _, _, h => absurd ((h x).mp List.mem_cons_self) (by simp)
  | x :: l, y :: m, hl, hm, h => by
    obtain ⟨h1, h2⟩ := List.pairwise_cons.mp hl
    obtain ⟨h3, h4⟩ := List.pairwise_cons.mp hm
    have e : x = y := by
      rcases List.mem_cons.mp ((h x).mp List.mem_cons_self) with e | p
      · exact e
      · rcases List.mem_cons.mp ((h y).mpr List.mem_cons_self) with e | q
        · exact e.symm
        · have a := h3 x p
          have b := ltE_no (h1 y q)
          rw [a] at b
          cases b
    subst e
    have n1 := (List.nodup_cons.mp hl.nodup).1
    have n2 := (List.nodup_cons.mp hm.nodup).1
    rw [asc_uniq h2 h4 fun z => ⟨fun hz => ?_, fun hz => ?_⟩]
    · rcases List.mem_cons.mp ((h z).mp (List.mem_cons_of_mem _ hz)) with e | q
      · exact absurd (e ▸ hz) n1
      · exact q
    · rcases List.mem_cons.mp ((h z).mpr (List.mem_cons_of_mem _ hz)) with e | q
      · exact absurd (e ▸ hz) n2
      · exact q
/-- into an ascending list -/
def insE (x : El) : List El → List El
  | [] => [x]
  | y :: l => if ltE x y = true then x :: y :: l else if x = y then y :: l else y :: insE x l
theorem mem_insE {x z : El} : ∀ {l : List El}, z ∈ insE x l ↔ z = x ∨ z ∈ l
  | [] => by simp [insE]
  | y :: l => by
    unfold insE
    by_cases h : ltE x y = true
    · rw [if_pos h, List.mem_cons]
    · rw [if_neg h]
      by_cases e : x = y
      · subst e
        simp
      · rw [if_neg e, List.mem_cons, mem_insE, List.mem_cons]
        constructor
        · rintro (h | h | h)
          · exact .inr (.inl h)
          · exact .inl h
          · exact .inr (.inr h)
        · rintro (h | h | h)
          · exact .inr (.inl h)
          · exact .inl h
          · exact .inr (.inr h)
theorem asc_insE {x : El} : ∀ {l : List El}, Asc l → Asc (insE x l)
  | [], _ => by simp [insE, Asc]
  | y :: l, h => by
    obtain ⟨h1, h2⟩ := List.pairwise_cons.mp h
    unfold insE
    by_cases q : ltE x y = true
    · rw [if_pos q]
      refine List.pairwise_cons.mpr ⟨fun z hz => ?_, h⟩
      rcases List.mem_cons.mp hz with rfl | hz
      · exact q
      · exact ltE_tr q (h1 z hz)
    · rw [if_neg q]
      by_cases e : x = y
      · rw [if_pos e]
        exact h
      · rw [if_neg e]
        refine List.pairwise_cons.mpr ⟨fun z hz => ?_, asc_insE h2⟩
        rcases mem_insE.mp hz with rfl | hz
        · rcases ltE_tri z y with r | r | r
          · exact absurd r q
          · exact absurd r e
          · exact r
        · exact h1 z hz
def sortE (l : List El) : List El := l.foldr insE []
theorem mem_sortE {x : El} : ∀ {l : List El}, x ∈ sortE l ↔ x ∈ l
  | [] => by simp [sortE]
  | y :: l => by
    show x ∈ insE y (sortE l) ↔ _
    rw [mem_insE, mem_sortE, List.mem_cons]
theorem asc_sortE : ∀ l : List El, Asc (sortE l)
  | [] => List.Pairwise.nil
  | y :: l => asc_insE (asc_sortE l)
theorem sortE_is {l m : List El} (h : Asc m) (hm : ∀ x, x ∈ m ↔ x ∈ l) : m = sortE l := asc_uniq h (asc_sortE l) fun x => (hm x).trans mem_sortE.symm

/-! ### rows of sums -/
/-- what comes of some elements by one more cell -/
def stepsE (G : List Int) (ahead : List El) (mark : El) (top : Nat) : List El := ahead.flatMap fun b => (List.range (top + 1)).map fun (k : Nat) => addE G b (repE G mark (k : Int))
def rowE (G : List Int) (ahead : List El) (mark : El) (top : Nat) : List El := sortE (stepsE G ahead mark top)
theorem mem_stepsE {G : List Int} {ahead : List El} {mark : El} {top : Nat} {x : El} : x ∈ stepsE G ahead mark top ↔ ∃ b ∈ ahead, ∃ k : Nat, k ≤ top ∧ x = addE G b (repE G mark (k : Int)) := by
  unfold stepsE
  rw [List.mem_flatMap]
  constructor
  · rintro ⟨b, hb, hx⟩
    obtain ⟨k, hk, rfl⟩ := List.mem_map.mp hx
    exact ⟨b, hb, k, by have := List.mem_range.mp hk; omega, rfl⟩
  · rintro ⟨b, hb, k, hk, rfl⟩
    exact ⟨b, hb, List.mem_map.mpr ⟨k, List.mem_range.mpr (by omega), rfl⟩⟩
theorem mem_rowE {G : List Int} {ahead : List El} {mark : El} {top : Nat} {x : El} : x ∈ rowE G ahead mark top ↔ ∃ b ∈ ahead, ∃ k : Nat, k ≤ top ∧ x = addE G b (repE G mark (k : Int)) := mem_sortE.trans mem_stepsE
def rowsE (G : List Int) : List El → List Nat → List El → List (List El)
  | mark :: marks, top :: room, ahead => rowE G ahead mark top :: rowsE G marks room (rowE G ahead mark top)
  | _, _, _ => []
/-- the last row -/
def lastE (G : List Int) : List El → List Nat → List El → List El
  | mark :: marks, top :: room, ahead => lastE G marks room (rowE G ahead mark top)
  | _, _, ahead => ahead
theorem lastE_get : ∀ {G : List Int} {marks : List El} {room : List Nat} {ahead : List El}, (rowsE G marks room ahead).getLast?.getD ahead = lastE G marks room ahead
  | G, [], _, ahead => by simp [rowsE, lastE]
  | G, _ :: _, [], ahead => by simp [rowsE, lastE]
  | G, mark :: marks, top :: room, ahead => by
    show ((rowE G ahead mark top :: rowsE G marks room (rowE G ahead mark top)).getLast?).getD ahead = lastE G marks room (rowE G ahead mark top)
    rw [← lastE_get (G := G) (marks := marks) (room := room) (ahead := rowE G ahead mark top), List.getLast?_cons]
    rfl
theorem rowsE_len : ∀ {G : List Int} {marks : List El} {room : List Nat} {ahead : List El}, marks.length = room.length → (rowsE G marks room ahead).length = room.length
  | G, [], [], _, _ => rfl
  | G, mark :: marks, top :: room, ahead, h => by
    show (rowsE G marks room _).length + 1 = room.length + 1
    rw [rowsE_len (by simpa using h)]
/-- the marks of the cells with room -/
def openE : List El → List Nat → List El
  | mark :: marks, top :: room => if 0 < top then mark :: openE marks room else openE marks room
  | _, _ => []
theorem openE_mem {G : List Int} : ∀ {marks : List El} {room : List Nat}, (∀ m ∈ marks, MemE G m) → ∀ m ∈ openE marks room, MemE G m
  | [], _, _, m, h => by simp [openE] at h
  | _ :: _, [], _, m, h => by simp [openE] at h
  | mark :: marks, top :: room, hm, m, h => by
    unfold openE at h
    split at h
    · rcases List.mem_cons.mp h with rfl | h
      · exact hm _ List.mem_cons_self
      · exact openE_mem (fun k hk => hm k (List.mem_cons_of_mem _ hk)) m h
    · exact openE_mem (fun k hk => hm k (List.mem_cons_of_mem _ hk)) m h

/-! ### bars -/
inductive Bar where
  | no
  | char (c : El)
  | sums (rows : List (List El))
  deriving DecidableEq
def charOf (G : List Int) (some : List El) (x : El) : Option El := (membersE G).find? fun c => !killsE G c x && some.all (killsE G c)
def barE (G : List Int) (marks : List El) (room : List Nat) (x : El) : Bar :=
  if x ∈ lastE G marks room [zeroE G] then .no
  else match charOf G (openE marks room) x with
    | some c => .char c
    | none => .sums (rowsE G marks room [zeroE G])
/-- there is a character exactly if the element is not spanned -/
theorem charOf_iff {G : List Int} {S : List El} {x : El} (hp : Pos G) (hS : ∀ s ∈ S, MemE G s) (hx : MemE G x) : (charOf G S x).isSome = true ↔ ¬ Sp G S x := by
  unfold charOf
  rw [List.find?_isSome]
  constructor
  · rintro ⟨c, hc, h⟩ hs
    simp only [Bool.and_eq_true, Bool.not_eq_true', List.all_eq_true] at h
    have := hs.killed hp hS ((mem_members hp c).mp hc).len h.2
    rw [h.1] at this
    cases this
  · intro hs
    obtain ⟨c, h1, h2, h3⟩ := apart hp hS hx hs
    exact ⟨c, (mem_members hp c).mpr h1, by simp only [Bool.and_eq_true, Bool.not_eq_true', List.all_eq_true]; exact ⟨h3, h2⟩⟩
theorem charOf_some {G : List Int} {S : List El} {x c : El} (hp : Pos G) (h : charOf G S x = some c) : MemE G c ∧ killsE G c x = false ∧ ∀ s ∈ S, killsE G c s = true := by
  have h1 := List.find?_some h
  have h2 := List.mem_of_find?_eq_some h
  simp only [Bool.and_eq_true, Bool.not_eq_true', List.all_eq_true] at h1
  exact ⟨(mem_members hp c).mp h2, h1.1, h1.2⟩

/-! ### what a room makes -/
/-- some of what a cell adds to what is made ahead -/
def MadeStep (G : List Int) (M : El → Prop) (mark : El) (top : Nat) (x : El) : Prop := M x ∨ ∃ b, (b = zeroE G ∨ M b) ∧ ∃ k : Nat, 1 ≤ k ∧ k ≤ top ∧ x = addE G b (repE G mark (k : Int))
def Made (G : List Int) : List El → List Nat → (El → Prop) → El → Prop
  | mark :: marks, top :: room, M => Made G marks room (MadeStep G M mark top)
  | _, _, M => M
theorem made_last {G : List Int} (hp : Pos G) : ∀ {marks : List El} {room : List Nat} {M : El → Prop} {ahead : List El}, (∀ m ∈ marks, MemE G m) → (∀ x ∈ ahead, MemE G x) → (∀ x, x ∈ ahead ↔ x = zeroE G ∨ M x) →
    ∀ x, x ∈ lastE G marks room ahead ↔ x = zeroE G ∨ Made G marks room M x
  | [], _, M, ahead, _, _, h => h
  | _ :: _, [], M, ahead, _, _, h => h
  | mark :: marks, top :: room, M, ahead, hm, ha, h => by
    have hmk := hm mark List.mem_cons_self
    refine made_last hp (M := MadeStep G M mark top) (ahead := rowE G ahead mark top) (fun m q => hm m (List.mem_cons_of_mem _ q)) (fun x hx => ?_) (fun x => ?_)
    · obtain ⟨b, hb, k, hk, rfl⟩ := mem_rowE.mp hx
      exact addE_mem hp (ha b hb).len (repE_mem hp hmk.len).len
    · rw [mem_rowE]
      constructor
      · rintro ⟨b, hb, k, hk, rfl⟩
        cases k with
        | zero =>
          have e : addE G b (repE G mark ((0 : Nat) : Int)) = b := by
            rw [show ((0 : Nat) : Int) = 0 from rfl, repE_zero hmk.len, addE_zero (ha b hb)]
          rw [e]
          rcases (h b).mp hb with q | q
          · exact .inl q
          · exact .inr (.inl q)
        | succ k => exact .inr (.inr ⟨b, (h b).mp hb, k + 1, by omega, hk, rfl⟩)
      · have z : ∀ b ∈ ahead, ∃ b' ∈ ahead, ∃ k : Nat, k ≤ top ∧ b = addE G b' (repE G mark (k : Int)) := fun b hb =>
          ⟨b, hb, 0, Nat.zero_le _, by rw [show ((0 : Nat) : Int) = 0 from rfl, repE_zero hmk.len, addE_zero (ha b hb)]⟩
        rintro (rfl | q | ⟨b, hb, k, h1, h2, rfl⟩)
        · exact z _ ((h _).mpr (.inl rfl))
        · exact z _ ((h _).mpr (.inr q))
        · exact ⟨b, (h b).mpr hb, k, h2, rfl⟩
end Oh

set_option linter.all false
set_option maxHeartbeats 1000000
namespace Oh
/-! ### a search with a heap of what waits -/
structure SI (G : List Int) (S : List El) (fl wl : List El) : Prop where
  nd : fl.Nodup
  sp : ∀ x ∈ fl, Sp G S x
  z : zeroE G ∈ fl
  w : ∀ x ∈ wl, x ∈ fl
  cl : ∀ x ∈ fl, x ∉ wl → ∀ s ∈ S, addE G x s ∈ fl
structure SJ (G : List Int) (S : List El) (m : El) (i : Nat) (fl wl : List El) (n : Nat) : Prop where
  nd : fl.Nodup
  sp : ∀ x ∈ fl, Sp G S x
  z : zeroE G ∈ fl
  w : ∀ x ∈ wl, x ∈ fl
  cl : ∀ x ∈ fl, x ∉ wl → x = m ∨ ∀ s ∈ S, addE G x s ∈ fl
  mm : m ∈ fl
  dn : ∀ s ∈ S.take i, addE G m s ∈ fl
  mu : 2 * (64 - fl.length) + wl.length ≤ n
section
variable {G : List Int} {S : List El} {m s : El} {i n : Nat} {fl wl : List El}
theorem SI.start : SI G S [zeroE G] [zeroE G] where
  nd := by simp
  sp := fun x hx => by
    have : x = zeroE G := by simpa using hx
    rw [this]
    exact .zero
  z := by simp
  w := fun _ h => h
  cl := fun x h1 h2 => absurd h1 h2
theorem SI.pop (h : SI G S fl (wl ++ [m])) : SJ G S m 0 fl wl (2 * (64 - fl.length) + wl.length) where
  nd := h.nd
  sp := h.sp
  z := h.z
  w := fun x hx => h.w x (List.mem_append_left _ hx)
  cl := fun x hx hn => by
    by_cases e : x = m
    · exact .inl e
    · exact .inr (h.cl x hx fun q => by
        rcases List.mem_append.mp q with q | q
        · exact hn q
        · exact e (by simpa using q))
  mm := h.w m (by simp)
  dn := fun s hs => by simp at hs
  mu := Nat.le_refl _
theorem mem_take_succ {α : Type} {l : List α} {i : Nat} {x y : α} (h : l[i]? = some x) (hy : y ∈ l.take (i + 1)) : y ∈ l.take i ∨ y = x := by
  rw [List.take_add_one, h] at hy
  simpa using hy
theorem SJ.same (h : SJ G S m i fl wl n) (hs : S[i]? = some s) (hin : addE G m s ∈ fl) : SJ G S m (i + 1) fl wl n :=
  ⟨h.nd, h.sp, h.z, h.w, h.cl, h.mm, fun t ht => (mem_take_succ hs ht).elim (h.dn t) fun e => e ▸ hin, h.mu⟩
theorem SJ.more (h : SJ G S m i fl wl n) (hs : S[i]? = some s) (hn : addE G m s ∉ fl) (hl : fl.length + 1 ≤ 64) : SJ G S m (i + 1) (fl ++ [addE G m s]) (wl ++ [addE G m s]) n where
  nd := List.nodup_append.mpr ⟨h.nd, by simp, fun a ha b hb e => by simp at hb; subst hb; exact hn (e ▸ ha)⟩
  sp := fun x hx => by
    rcases List.mem_append.mp hx with hx | hx
    · exact h.sp x hx
    · have e : x = addE G m s := by simpa using hx
      rw [e]
      exact .add (h.sp m h.mm) (List.mem_of_getElem? hs)
  z := List.mem_append_left _ h.z
  w := fun x hx => (List.mem_append.mp hx).elim (fun q => List.mem_append_left _ (h.w x q)) fun q => List.mem_append_right _ q
  cl := fun x hx hnw => by
    rcases List.mem_append.mp hx with hx | hx
    · rcases h.cl x hx fun q => hnw (List.mem_append_left _ q) with e | e
      · exact .inl e
      · exact .inr fun t ht => List.mem_append_left _ (e t ht)
    · exact absurd (List.mem_append_right _ hx) hnw
  mm := List.mem_append_left _ h.mm
  dn := fun t ht => (mem_take_succ hs ht).elim (fun q => List.mem_append_left _ (h.dn t q)) fun e => List.mem_append_right _ (by simp [e])
  mu := by
    have := h.mu
    rw [List.length_append, List.length_append, List.length_singleton]
    omega
theorem SJ.done (h : SJ G S m S.length fl wl n) : SI G S fl wl :=
  ⟨h.nd, h.sp, h.z, h.w, fun x hx hn => (h.cl x hx hn).elim (fun e => by
    subst e
    have := h.dn
    rw [List.take_length] at this
    exact this) id⟩
theorem SI.ended (h : SI G S fl []) (x : El) : x ∈ fl ↔ Sp G S x := by
  refine ⟨h.sp x, fun hx => ?_⟩
  induction hx with
  | zero => exact h.z
  | add _ hs ih => exact h.cl _ ih (by simp) _ hs
end

/-! ### a search by a place -/
structure LI (G : List Int) (S : List El) (fl : List El) (at_ : Nat) : Prop where
  nd : fl.Nodup
  sp : ∀ x ∈ fl, Sp G S x
  z : zeroE G ∈ fl
  le : at_ ≤ fl.length
  cl : ∀ x ∈ fl.take at_, ∀ s ∈ S, addE G x s ∈ fl
structure LJ (G : List Int) (S : List El) (m : El) (at_ i : Nat) (fl : List El) : Prop where
  nd : fl.Nodup
  sp : ∀ x ∈ fl, Sp G S x
  z : zeroE G ∈ fl
  mm : fl[at_]? = some m
  cl : ∀ x ∈ fl.take at_, ∀ s ∈ S, addE G x s ∈ fl
  dn : ∀ s ∈ S.take i, addE G m s ∈ fl
section
variable {G : List Int} {S : List El} {m s : El} {at_ i : Nat} {fl : List El}
theorem LI.start : LI G S [zeroE G] 0 := ⟨by simp, fun x hx => by
  have : x = zeroE G := by simpa using hx
  rw [this]
  exact .zero, by simp, Nat.zero_le _, fun x hx => by simp at hx⟩
theorem LI.turn (h : LI G S fl at_) (hm : fl[at_]? = some m) : LJ G S m at_ 0 fl := ⟨h.nd, h.sp, h.z, hm, h.cl, fun s hs => by simp at hs⟩
theorem LJ.same (h : LJ G S m at_ i fl) (hs : S[i]? = some s) (hin : addE G m s ∈ fl) : LJ G S m at_ (i + 1) fl :=
  ⟨h.nd, h.sp, h.z, h.mm, h.cl, fun t ht => (mem_take_succ hs ht).elim (h.dn t) fun e => e ▸ hin⟩
theorem LJ.more (h : LJ G S m at_ i fl) (hs : S[i]? = some s) (hn : addE G m s ∉ fl) : LJ G S m at_ (i + 1) (fl ++ [addE G m s]) where
  nd := List.nodup_append.mpr ⟨h.nd, by simp, fun a ha b hb e => by simp at hb; subst hb; exact hn (e ▸ ha)⟩
  sp := fun x hx => by
    rcases List.mem_append.mp hx with hx | hx
    · exact h.sp x hx
    · have e : x = addE G m s := by simpa using hx
      rw [e]
      exact .add (h.sp m (List.mem_of_getElem? h.mm)) (List.mem_of_getElem? hs)
  z := List.mem_append_left _ h.z
  mm := by
    have hl := (List.getElem?_eq_some_iff.mp h.mm).1
    rw [List.getElem?_append_left hl]
    exact h.mm
  cl := fun x hx t ht => by
    have hl := (List.getElem?_eq_some_iff.mp h.mm).1
    rw [List.take_append_of_le_length (Nat.le_of_lt hl)] at hx
    exact List.mem_append_left _ (h.cl x hx t ht)
  dn := fun t ht => (mem_take_succ hs ht).elim (fun q => List.mem_append_left _ (h.dn t q)) fun e => List.mem_append_right _ (by simp [e])
theorem LJ.done (h : LJ G S m at_ S.length fl) : LI G S fl (at_ + 1) := by
  have hl := (List.getElem?_eq_some_iff.mp h.mm).1
  refine ⟨h.nd, h.sp, h.z, hl, fun x hx s hs => ?_⟩
  rcases mem_take_succ h.mm hx with q | q
  · exact h.cl x q s hs
  · have := h.dn
    rw [List.take_length] at this
    rw [q]
    exact this s hs
theorem LI.ended (h : LI G S fl fl.length) (x : El) : x ∈ fl ↔ Sp G S x := by
  refine ⟨h.sp x, fun hx => ?_⟩
  have cl := h.cl
  rw [List.take_length] at cl
  induction hx with
  | zero => exact h.z
  | add _ hs ih => exact cl _ ih _ hs
end
theorem sp_sorted {G : List Int} {S fl l : List El} (h : ∀ x, x ∈ fl ↔ Sp G S x) (hp : l.Perm fl) (x : El) : x ∈ l ↔ Sp G S x := (hp.mem_iff).trans (h x)
end Oh

set_option linter.all false
set_option maxHeartbeats 1000000
namespace Oh
theorem made_congr {G : List Int} : ∀ {marks : List El} {room : List Nat} {M N : El → Prop}, (∀ x, M x ↔ N x) → ∀ x, Made G marks room M x ↔ Made G marks room N x
  | [], _, M, N, h => h
  | _ :: _, [], M, N, h => h
  | mark :: marks, top :: room, M, N, h => fun x => by
    refine made_congr (marks := marks) (room := room) (fun y => ?_) x
    unfold MadeStep
    simp only [h]
theorem made_drop {G : List Int} {marks : List El} {room : List Nat} {i : Nat} {mark : El} {top : Nat} {M : El → Prop} (h1 : marks[i]? = some mark) (h2 : room[i]? = some top) (x : El) :
    Made G (marks.drop i) (room.drop i) M x ↔ Made G (marks.drop (i + 1)) (room.drop (i + 1)) (MadeStep G M mark top) x := by
  obtain ⟨l1, e1⟩ := List.getElem?_eq_some_iff.mp h1
  obtain ⟨l2, e2⟩ := List.getElem?_eq_some_iff.mp h2
  rw [List.drop_eq_getElem_cons l1, List.drop_eq_getElem_cons l2, e1, e2]
  rfl
theorem made_end {G : List Int} {marks : List El} {room : List Nat} {i : Nat} {M : El → Prop} (h : marks.length ≤ i) (x : El) : Made G (marks.drop i) (room.drop i) M x ↔ M x := by
  rw [List.drop_eq_nil_of_le h]
  exact Iff.rfl
theorem rows_drop {G : List Int} {marks : List El} {room : List Nat} {i : Nat} {mark : El} {top : Nat} {a : List El} (h1 : marks[i]? = some mark) (h2 : room[i]? = some top) :
    rowsE G (marks.drop i) (room.drop i) a = rowE G a mark top :: rowsE G (marks.drop (i + 1)) (room.drop (i + 1)) (rowE G a mark top) := by
  obtain ⟨l1, e1⟩ := List.getElem?_eq_some_iff.mp h1
  obtain ⟨l2, e2⟩ := List.getElem?_eq_some_iff.mp h2
  rw [List.drop_eq_getElem_cons l1, List.drop_eq_getElem_cons l2, e1, e2]
  rfl
theorem rows_end {G : List Int} {marks : List El} {room : List Nat} {i : Nat} {a : List El} (h : marks.length ≤ i) : rowsE G (marks.drop i) (room.drop i) a = [] := by
  rw [List.drop_eq_nil_of_le h]
  rfl
theorem open_filter : ∀ {marks : List El} {room : List Nat}, marks.length = room.length → openE marks room = ((List.range marks.length).filter fun i => decide (0 < room.getD i 0)).map fun i => marks.getD i []
  | [], [], _ => rfl
  | mark :: marks, top :: room, h => by
    rw [List.length_cons, List.range_succ_eq_map, List.filter_cons]
    have ih := open_filter (marks := marks) (room := room) (by simpa using h)
    have e : ((List.range marks.length).map Nat.succ).filter (fun i => decide (0 < (top :: room).getD i 0)) = ((List.range marks.length).filter fun i => decide (0 < room.getD i 0)).map Nat.succ := by
      rw [List.filter_map]
      rfl
    unfold openE
    rw [ih, e]
    by_cases q : 0 < top
    · have q' : decide (0 < (top :: room).getD 0 0) = true := decide_eq_true q
      rw [if_pos q, if_pos q', List.map_cons, List.map_map]
      rfl
    · have q' : ¬ decide (0 < (top :: room).getD 0 0) = true := fun z => q (of_decide_eq_true z)
      rw [if_neg q, if_neg q', List.map_map]
      rfl
theorem rowE_mem {G : List Int} (hp : Pos G) {a : List El} {mark : El} {top : Nat} (ha : ∀ x ∈ a, MemE G x) (hm : MemE G mark) : ∀ x ∈ rowE G a mark top, MemE G x := fun x hx => by
  obtain ⟨b, hb, k, _, rfl⟩ := mem_rowE.mp hx
  exact addE_mem hp (ha b hb).len (repE_mem hp hm.len).len
theorem rowE_nd {G : List Int} {a : List El} {mark : El} {top : Nat} : (rowE G a mark top).Nodup := (asc_sortE _).nodup
theorem rowE_asc {G : List Int} {a : List El} {mark : El} {top : Nat} : Asc (rowE G a mark top) := asc_sortE _
theorem rowE_is {G : List Int} {a m : List El} {mark : El} {top : Nat} (h : Asc m) (hm : ∀ x, x ∈ m ↔ ∃ b ∈ a, ∃ k : Nat, k ≤ top ∧ x = addE G b (repE G mark (k : Int))) : m = rowE G a mark top :=
  sortE_is h fun x => (hm x).trans mem_stepsE.symm
end Oh

set_option Elab.async false
set_option linter.all false
set_option maxRecDepth 100000
set_option maxHeartbeats 4000000
/-! a walk over three tuples at once -/
namespace OhL
open PySem PySem.Spec PyProof.Rows L2

/-- a new triple of the i-th items -/
def It3 (K : PySem.W.Frag) (a b c : Addr) : It where
  go i H := ∃ (xs ys zs : List V) (x y z : V), (SqT K H a xs ∧ SqT K H b ys ∧ SqT K H c zs) ∧ xs[i]? = some x ∧ ys[i]? = some y ∧ zs[i]? = some z
  yld i H v H' := ∃ T x y z, v = .ref T ∧ H T = none ∧ H' = upd H T (.tup [x, y, z]) ∧ (∀ xs, SqT K H a xs → xs[i]? = some x) ∧ (∀ ys, SqT K H b ys → ys[i]? = some y) ∧ ∀ zs, SqT K H c zs → zs[i]? = some z
  stop i H := ∃ xs ys zs : List V, (SqT K H a xs ∧ SqT K H b ys ∧ SqT K H c zs) ∧ i ≤ xs.length ∧ i ≤ ys.length ∧ i ≤ zs.length ∧ (i = xs.length ∨ i = ys.length ∨ i = zs.length)

structure Far (z TI TO i1 i2 i3 a b c : Addr) : Prop where
  s : ZipSep3 z TI TO i1 i2 i3 [i1, a] [i2, b] [i3, c]
  na : a ≠ i1
  nb : b ≠ i2
  nc : c ≠ i3

theorem far_of (n a b c : Nat) (la : a < n) (lb : b < n) (lc : c < n) : Far (n + 5) (n + 3) (n + 4) n (n + 1) (n + 2) a b c := by
  refine ⟨⟨?_, ?_, ?_, ?_, ?_, ?_, ?_, ?_, ?_, ?_, ?_, ?_, ?_, ?_, ?_, ?_, ?_, ?_, ?_, ?_, ?_⟩, ?_, ?_, ?_⟩ <;>
    first
    | exact List.mem_cons_self
    | (intro q
       first
       | (have q' := List.mem_cons.mp q
          simp only [List.mem_singleton] at q'
          have q2 : ∀ x y : Nat, (x : Addr) = y → x = y := fun _ _ e => e
          rcases q' with q' | q' <;> (have q3 := q2 _ _ q'; omega))
       | (have q3 : ∀ x y : Nat, (x : Addr) = y → x = y := fun _ _ e => e
          have q4 := q3 _ _ q
          omega))

theorem turn3 {P : Program} {w : World} {K : PySem.W.Frag} {elts : List Expr} {kk : Nat} {tpos : Pos} {a b c z TI TO i1 i2 i3 : Addr} (D : Far z TI TO i1 i2 i3 a b c) :
    Turn P w K (.Tuple elts kk tpos) (It3 K a b c) [z, TI, TO, i1, i2, i3] z
      (fun i h => IsZip h z TI TO .none ∧ IsTupOf3 h TI (.ref i1) (.ref i2) (.ref i3) ∧ (∃ x y t, IsTupOf3 h TO x y t) ∧ h.IsTupleIter i1 a i ∧ h.IsTupleIter i2 b i ∧ h.IsTupleIter i3 c i) where
  mem := by simp
  obj := fun i h st d hd => by
    obtain ⟨hz, hTI, ⟨x, y, t, hTO⟩, ⟨o1, e1, _, d1⟩, ⟨o2, e2, _, d2⟩, ⟨o3, e3, _, d3⟩⟩ := st
    have e' : d = z ∨ d = TI ∨ d = TO ∨ d = i1 ∨ d = i2 ∨ d = i3 := by simpa using hd
    rcases e' with q | q | q | q | q | q
    · rw [q]; exact ⟨_, hz, fun v q => nomatch q⟩
    · rw [q]; exact ⟨_, hTI, fun v q => nomatch q⟩
    · rw [q]; exact ⟨_, hTO, fun v q => nomatch q⟩
    · rw [q]; exact ⟨o1, e1, fun v q => by rw [d1] at q; cases q⟩
    · rw [q]; exact ⟨o2, e2, fun v q => by rw [d2] at q; cases q⟩
    · rw [q]; exact ⟨o3, e3, fun v q => by rw [d3] at q; cases q⟩
  keep := fun i h h' st k => by
    obtain ⟨hz, hTI, ⟨x, y, t, hTO⟩, h1, h2, h3⟩ := st
    exact ⟨k z (by simp) _ hz, k TI (by simp) _ hTI, ⟨x, y, t, k TO (by simp) _ hTO⟩, h1.at fun o q => k i1 (by simp) o q, h2.at fun o q => k i2 (by simp) o q, h3.at fun o q => k i3 (by simp) o q⟩
  item := by
    intro X hP hw hK hc i pins s σ H E I hf st hg
    subst hP hw hK
    obtain ⟨hz, hTI, ⟨x0, y0, t0, hTO⟩, h1, h2, h3⟩ := st
    obtain ⟨xs, ys, zs, x, y, t, ⟨hqx, hqy, hqz⟩, hx, hy, hzz⟩ := hg
    obtain ⟨its, rv, p, _⟩ := I.tuple hqx
    obtain ⟨its2, rv2, p2, _⟩ := I.tuple hqy
    obtain ⟨its3, rv3, p3, _⟩ := I.tuple hqz
    obtain ⟨u, hu, ru⟩ := rv.get hx
    obtain ⟨u2, hu2, ru2⟩ := rv2.get hy
    obtain ⟨u3, hu3, ru3⟩ := rv3.get hzz
    have hh : X.A.in1.handled = none := I.ok.hd hc
    have l1 : i < its.toArray.size := by have := (List.getElem?_eq_some_iff.mp hu).1; simpa using this
    have l2 : i < its2.toArray.size := by have := (List.getElem?_eq_some_iff.mp hu2).1; simpa using this
    have l3 : i < its3.toArray.size := by have := (List.getElem?_eq_some_iff.mp hu3).1; simpa using this
    have hzl : z < s.heap.objs.size := Heap.lt_size hz
    refine wpAny_pyNext_zipD3_item D.s (Draws.tuple hh i1 a D.na its.toArray) (Draws.tuple hh i2 b D.nb its2.toArray) (Draws.tuple hh i3 c D.nc its3.toArray) hz hTI hTO
      ⟨h1, p⟩ ⟨h2, p2⟩ ⟨h3, p3⟩ l1 l2 l3 fun x1 x2 x3 h' tk g1 g2 g3 z' TO' st1 st2 st3 hT hsz hk => ?_
    have f1 : x1 = u := by
      have g1' : its.toArray[i]? = some x1 := g1
      rw [List.getElem?_toArray, hu] at g1'
      exact (Option.some.inj g1').symm
    have f2 : x2 = u2 := by
      have g2' : its2.toArray[i]? = some x2 := g2
      rw [List.getElem?_toArray, hu2] at g2'
      exact (Option.some.inj g2').symm
    have f3 : x3 = u3 := by
      have g3' : its3.toArray[i]? = some x3 := g3
      rw [List.getElem?_toArray, hu3] at g3'
      exact (Option.some.inj g3').symm
    subst f1 f2 f3
    refine ⟨_, rfl, wpAny_letOwnedTupleGo_zip (s := { s with heap := h', toks := tk }) z' fun h'' z'' sb => ?_⟩
    have hT2 : h''.get? s.heap.objs.size = some { cls := .type "tuple", data := .seq #[x1, x2, x3] } := (sb.2 _ (Nat.ne_of_gt hzl)).trans hT
    have new : ObjOk X.prog X.w (upd H s.heap.objs.size (.tup [x, y, t])) h'' s.heap.objs.size (.tup [x, y, t]) :=
      ⟨by show 3 ≤ sizeLine; decide, [x1, x2, x3], .cons ru (.cons ru2 (.cons ru3 .nil)), ⟨_, hT2, rfl, _, rfl⟩⟩
    have I1 : Inv X pins σ (upd H s.heap.objs.size (.tup [x, y, t])) { s with heap := h'', toks := tk } :=
      I.turnedNew (t' := tk) (ch := [z, TI, TO, i1, i2, i3]) (fun c o hb q => (sb.2 c (fun q' => hb (by simp [q']))).trans (hk c o (fun q' => hb (by simp [q'])) (fun q' => hb (by simp [q'])) (fun q' => hb (by simp [q'])) (fun q' => hb (by simp [q'])) (fun q' => hb (by simp [q'])) q)) hf (Nat.le_refl _) new
    have up : ∀ c o, c ≠ z → h'.get? c = some o → h''.get? c = some o := fun c o c1 e => (sb.2 c c1).trans e
    have n1 : i1 ≠ z := D.s.zi1.symm
    have n2 : i2 ≠ z := D.s.zi2.symm
    have n3 : i3 ≠ z := D.s.zi3.symm
    refine ⟨.ref s.heap.objs.size, _, I1, rfl, ⟨_, x, y, t, rfl, I.hok.fresh (Nat.le_refl _), rfl, fun l hl => by rw [I.tuple_inj hl hqx]; exact hx, fun l hl => by rw [I.tuple_inj hl hqy]; exact hy, fun l hl => by rw [I.tuple_inj hl hqz]; exact hzz⟩,
      ⟨z'', ?_, ⟨x1, x2, x3, ?_⟩, ?_, ?_, ?_⟩, fun d hdm => ?_⟩
    · exact up _ _ D.s.TIz (hk _ _ D.s.TIz D.s.TITO D.s.TIi1 D.s.TIi2 D.s.TIi3 hTI)
    · exact up _ _ D.s.TOz TO'
    · exact st1.1.at fun o q => up _ _ n1 q
    · exact st2.1.at fun o q => up _ _ n2 q
    · exact st3.1.at fun o q => up _ _ n3 q
    · have hlt : d < s.heap.objs.size := by
        have e' : d = z ∨ d = TI ∨ d = TO ∨ d = i1 ∨ d = i2 ∨ d = i3 := by simpa using hdm
        rcases e' with q | q | q | q | q | q
        · rw [q]; exact hzl
        · rw [q]; exact Heap.lt_size hTI
        · rw [q]; exact Heap.lt_size hTO
        · rw [q]; obtain ⟨_, e1, _⟩ := h1; exact Heap.lt_size e1
        · rw [q]; obtain ⟨_, e2, _⟩ := h2; exact Heap.lt_size e2
        · rw [q]; obtain ⟨_, e3, _⟩ := h3; exact Heap.lt_size e3
      rw [upd_ne (Nat.ne_of_lt hlt)]
      exact (hf d hdm).1
  done := by
    intro X hP hw hK hc i pins s σ H E I hf st hg
    subst hP hw hK
    obtain ⟨hz, hTI, ⟨x0, y0, t0, hTO⟩, h1, h2, h3⟩ := st
    obtain ⟨xs, ys, zs, ⟨hqx, hqy, hqz⟩, e1, e2, e3, hend⟩ := hg
    obtain ⟨its, rv, p, _⟩ := I.tuple hqx
    obtain ⟨its2, rv2, p2, _⟩ := I.tuple hqy
    obtain ⟨its3, rv3, p3, _⟩ := I.tuple hqz
    have l1 := rv.length
    have l2 := rv2.length
    have l3 := rv3.length
    have hh : X.A.in1.handled = none := I.ok.hd hc
    exact wpAny_pyNext_zipD3_end D.s (Draws.tuple hh i1 a D.na its.toArray) (Draws.tuple hh i2 b D.nb its2.toArray) (Draws.tuple hh i3 c D.nc its3.toArray) hz hTI hTO
      ⟨h1, p⟩ ⟨h2, p2⟩ ⟨h3, p3⟩ (by simp; omega) (by simp; omega) (by simp; omega) (by simp; omega) fun h' tk hk => ⟨rfl, I.turnedL (t' := tk) (ch := [z, TI, TO, i1, i2, i3]) (fun c o hb q =>
        hk c o (fun q' => hb (by simp [q'])) (fun q' => hb (by simp [q'])) (fun q' => hb (by simp [q'])) (fun q' => hb (by simp [q'])) (fun q' => hb (by simp [q'])) q) hf⟩
  self := fun A i s Q E st h => wpAny_pyIter_zip st.1 h

def iZip3 (K : PySem.W.Frag) (ta : TA) : TI := fun σ H R => ta σ H fun vs H1 => ∃ a b c xs ys zs, vs = [.ref a, .ref b, .ref c] ∧ SqT K H1 a xs ∧ SqT K H1 b ys ∧ SqT K H1 c zs ∧ R (It3 K a b c) H1
theorem pi_zip3 {X : Cx} {e e2 e3 : Expr} {ta : TA} {p pos tpos : Pos} {elts : List Expr} {kk : Nat} (hg : Gl X "zip") (hm : X.mg "zip" = none) (ha : PA X [e, e2, e3] ta)
    (hs : starEach [e, e2, e3] X.env = (false, eval e X.env) :: starEach [e2, e3] X.env := by rfl) (hpl : (backTo pos (starEach [e2, e3] X.env)).any (·.1) = false := by rfl) :
    PI X (.Tuple elts kk tpos) (.Call (.Name "zip" p) [e, e2, e3] [] pos) (iZip3 X.K ta) := by
  refine ⟨fun pins s σ H R I h => ?_⟩
  refine Call_ (ld_blt I hg hm PyProof.Rows.boot_zip (PyProof.Rows.callWith_type1 (thn (ha.run pos pins s σ H _ I h) fun us s1 ⟨vs, H1, I1, r1, q1⟩ => ?_) hs hpl))
  obtain ⟨a, b, c, xs, ys, zs, ex, hqx, hqy, hqz, q⟩ := q1
  subst ex
  cases r1 with
  | cons r rr =>
    cases rr with
    | cons r' rr =>
      cases rr with
      | cons r'' rr =>
        cases rr
        cases r
        cases r'
        cases r''
        obtain ⟨its, rv, p1, _⟩ := I1.tuple hqx
        obtain ⟨its2, rv2, p2, _⟩ := I1.tuple hqy
        obtain ⟨its3, rv3, p3, _⟩ := I1.tuple hqz
        obtain ⟨o1, ho1, _⟩ := id p1
        obtain ⟨o2, ho2, _⟩ := id p2
        obtain ⟨o3, ho3, _⟩ := id p3
        have la := Heap.lt_size ho1
        have lb := Heap.lt_size ho2
        have lc := Heap.lt_size ho3
        refine zip_begins3 (begins_tuple a its.toArray) (begins_tuple b its2.toArray) (begins_tuple c its3.toArray) p1 p2 p3 fun h' hz hTI hTO g1 g2 g3 hsz hk => wpAny_pyIter_zip hz ?_
        have I2 : Inv X pins σ H1 { s1 with heap := h' } := I1.kept (t' := s1.toks) hk
        refine ⟨s1.heap.objs.size + 5, [s1.heap.objs.size + 5, s1.heap.objs.size + 3, s1.heap.objs.size + 4, s1.heap.objs.size, s1.heap.objs.size + 1, s1.heap.objs.size + 2], _, _, H1, rfl, I2, turn3 (far_of _ _ _ _ la lb lc),
          ⟨hz, hTI, ⟨_, _, _, hTO⟩, ⟨_, g1, rfl, rfl⟩, ⟨_, g2, rfl, rfl⟩, ⟨_, g3, rfl, rfl⟩⟩, fun d hdm => ?_, q⟩
        have e' : d = s1.heap.objs.size + 5 ∨ d = s1.heap.objs.size + 3 ∨ d = s1.heap.objs.size + 4 ∨ d = s1.heap.objs.size ∨ d = s1.heap.objs.size + 1 ∨ d = s1.heap.objs.size + 2 := by simpa using hdm
        have hle : s1.heap.objs.size ≤ d := by
          rcases e' with z | z | z | z | z | z <;> (rw [z]; first | exact Nat.le_add_right _ _ | exact Nat.le_refl _)
        exact I1.fpOk hle (I1.hok.fresh hle)

/-- a new triple of the i-th items of three lists -/
def YTri (xs ys zs : Nat → Option V) : Nat → Hp → V → Hp → Prop := fun i H v H' => ∃ T x y z, v = .ref T ∧ H T = none ∧ H' = upd H T (.tup [x, y, z]) ∧ xs i = some x ∧ ys i = some y ∧ zs i = some z
section
variable {K : PySem.W.Frag} {a b c : Addr} {xs ys zs : List V} {n : Nat}
theorem walk_zip3 (h1 : xs.length = n) (h2 : ys.length = n) (h3 : zs.length = n) :
    Walk (It3 K a b c) n (fun H => SqT K H a xs ∧ SqT K H b ys ∧ SqT K H c zs) (YTri (fun i => xs[i]?) (fun i => ys[i]?) (fun i => zs[i]?)) := by
  refine ⟨fun i _ hi q => ⟨xs, ys, zs, xs[i]'(by omega), ys[i]'(by omega), zs[i]'(by omega), q, ?_, ?_, ?_⟩, fun _ q => ⟨xs, ys, zs, q, by omega, by omega, by omega, .inl h1.symm⟩, fun i H v H' _ q y => ?_⟩
  · exact List.getElem?_eq_getElem _
  · exact List.getElem?_eq_getElem _
  · exact List.getElem?_eq_getElem _
  · obtain ⟨T, x, z, t, e1, e2, e3, f1, f2, f3⟩ := y
    exact ⟨T, x, z, t, e1, e2, e3, f1 xs q.1, f2 ys q.2.1, f3 zs q.2.2⟩
theorem walk_zipT (h1 : xs.length = n) (h2 : ys.length = n) :
    Walk (RZ.ItzT K a b) n (fun H => SqT K H a xs ∧ SqT K H b ys) (YPair (fun i => xs[i]?) (fun i => ys[i]?)) := by
  refine ⟨fun i _ hi q => ⟨xs, ys, xs[i]'(by omega), ys[i]'(by omega), q.1, q.2, List.getElem?_eq_getElem _, List.getElem?_eq_getElem _⟩, fun _ q => ⟨xs, ys, q.1, q.2, .inl (by omega)⟩, fun i H v H' _ q y => ?_⟩
  obtain ⟨T, x, z, e1, e2, e3, f1, f2⟩ := y
  exact ⟨T, x, z, e1, e2, e3, f1 xs q.1, f2 ys q.2⟩
/-- .. of unlike lengths: as long as the shorter one is -/
theorem walk_zipTm (hn : n = min xs.length ys.length) :
    Walk (RZ.ItzT K a b) n (fun H => SqT K H a xs ∧ SqT K H b ys) (YPair (fun i => xs[i]?) (fun i => ys[i]?)) := by
  subst hn
  refine ⟨fun i _ hi q => ⟨xs, ys, xs[i]'(by omega), ys[i]'(by omega), q.1, q.2, List.getElem?_eq_getElem _, List.getElem?_eq_getElem _⟩, fun _ q => ⟨xs, ys, q.1, q.2, by omega⟩, fun i H v H' _ q y => ?_⟩
  obtain ⟨T, x, z, e1, e2, e3, f1, f2⟩ := y
  exact ⟨T, x, z, e1, e2, e3, f1 xs q.1, f2 ys q.2⟩
end
end OhL

set_option Elab.async false
set_option linter.all false
set_option maxRecDepth 100000
set_option maxHeartbeats 4000000
/-! rules that the layer lacks -/
namespace OhL
open PySem PySem.Spec PyProof.Rows L2

/-! ### t * 1, t a tuple: the same tuple -/
theorem tuple_mul_one (l : Addr) (items : Array Value) (n : Nat) (dd : Option Addr) (sl : Array (Option Value)) (u : Tok) :
    Meets (Builtin.«tuple.__mul__» ⟨[.ref l, .int 1 u], []⟩) (fun _ R s => s.heap.get? l = some { cls := .type "tuple", dict := dd, data := .seq items n, slots := sl } ∧ R (.ok (.ret (Value.ref l))) s) :=
  .of_wp fun prog w A R s h => by
    obtain ⟨hp, g, d, tk, os⟩ := s
    obtain ⟨hl, h⟩ := h
    have f1 := AutoSeq1.idx_int
    have c1 : (items.isEmpty || (1 : Int) == 1) = true := by rw [Bool.or_eq_true]; exact .inr rfl
    wp_walk using wpAny_loadPart' hl
    exact ⟨_, rfl, h⟩
def rMulOne (K : PySem.W.Frag) : R2 := fun x y H Q => ∃ l xs, x = .ref l ∧ y = .int 1 ∧ SqT K H l xs ∧ Q (.ref l) H
section
variable {X : Cx}
theorem op_mulOne : OpR X (binaryOp .Mult) (rMulOne X.K) := by
  intro pins s σ H x y v u Q I rx ry h
  obtain ⟨l, xs, rfl, rfl, hT, q⟩ := h
  cases rx
  obtain ⟨t, rfl⟩ := ry
  obtain ⟨its, r, ⟨⟨cls, dd, data, sl⟩, ho, hc, n, hd⟩, hs⟩ := I.tuple hT
  simp only at hc hd
  subst hc hd
  refine wpAny_binaryOp_repeat_ref (T := "tuple") (U := "int") (by decide) ⟨_, ho, rfl⟩ (fun s' => typeIs_int s' 1 t) noFill_tuple_mul F.fills_int_mul F.slot_int_rmul repeat_tuple F.slot_int_index.lookup
    (call_meets F.slot_int_rmul (typeIs_int s 1 t) F.entry_int_rmul (F.args_int_rmul_2 _ _) (int_rmul_tuple 1 t l its.toArray n dd sl)
      ⟨ho, rfl, ⟨_, ho, rfl⟩, call_meets F.slot_tuple_mul ⟨_, ho, rfl⟩ F.entry_tuple_mul (F.args_tuple_mul_2 _ _) (tuple_mul_one l its.toArray n dd sl t) ⟨ho, ?_⟩⟩)
  exact ⟨.ref l, H, I, rfl, q⟩

/-! ### x in t, t a tuple of data -/
def rInU (K : PySem.W.Frag) : R2 := fun x y H Q => ∃ d ds, Dp K H x d ∧ Dp K H y (.tuple ds) ∧ SeqAt.shaped d = true ∧ SeqAt.shaped (.tuple ds) = true ∧ Q (.bl (ds.any fun z => PyData.eqv z d)) H
def rNotInU (K : PySem.W.Frag) : R2 := fun x y H Q => ∃ d ds, Dp K H x d ∧ Dp K H y (.tuple ds) ∧ SeqAt.shaped d = true ∧ SeqAt.shaped (.tuple ds) = true ∧ Q (.bl (!ds.any fun z => PyData.eqv z d)) H
theorem op_inU (hu : X.A.units + 65 < cLine) : OpR X (compareOp .In) (rInU X.K) := by
  intro pins s σ H x y v u Q I rx ry ⟨d, ds, hd, he, sd, se, q⟩
  obtain ⟨as, r1⟩ := Dp.reads I d x v hd rx
  obtain ⟨bs, r2⟩ := Dp.reads I (.tuple ds) y u he ry
  exact SeqAt.in_tuple_reads r2 r1 (SeqAt.canLay_of_shaped se) (SeqAt.canLay_of_shaped sd) (room_in_shaped sd hu) ⟨.bl _, H, I, rfl, q⟩
theorem op_notInU (hu : X.A.units + 65 < cLine) : OpR X (compareOp .NotIn) (rNotInU X.K) := by
  intro pins s σ H x y v u Q I rx ry ⟨d, ds, hd, he, sd, se, q⟩
  obtain ⟨as, r1⟩ := Dp.reads I d x v hd rx
  obtain ⟨bs, r2⟩ := Dp.reads I (.tuple ds) y u he ry
  exact SeqAt.notIn_tuple_reads r2 r1 (SeqAt.canLay_of_shaped se) (SeqAt.canLay_of_shaped sd) (room_in_shaped sd hu) ⟨.bl _, H, I, rfl, q⟩

/-! ### math.lcm -/
def rLcm : List V → Hp → VK → Prop := fun vs H Q => ∃ a b : Int, vs = [.int a, .int b] ∧ a.natAbs < 2 ^ 64 ∧ b.natAbs < 2 ^ 64 ∧ Q (.int (Oh.lcmI a b)) H
theorem cr_lcm : CallR X (.builtin "math.lcm") rLcm := by
  intro pins s σ H vs us Q I r h
  obtain ⟨a, b, rfl, h1, h2, q⟩ := h
  obtain ⟨t, u, rfl⟩ := Vals.int2 r
  exact PySem.W.mc_lcm h1 h2 fun _ => ⟨.int _, H, I.tok _, ⟨_, rfl⟩, q⟩
end

/-! ### sorted of tuples of as many ints each, any number of them -/
section
variable {prog : Program} {w : World} {A : Around} {s : Shared}
theorem lex_ints {Q : Bool → Shared → Prop} : ∀ {us ws : List Value} {ns ms : List Int} (i : Nat), IntsAre us ns → IntsAre ws ms → ns.length = ms.length → Q (Oh.ltE ns ms) s → PySem.W.KatLex prog w A true false Q (us.zip ws) i s
  | [], [], _, _, i, .nil, .nil, _, q => PySem.W.kat_nil q
  | _, _, _, _, i, .cons n t a, .nil, hl, _ => by simp at hl
  | _, _, _, _, i, .nil, .cons n t a, hl, _ => by simp at hl
  | _, _, _, _, i, .cons n t a, .cons m u b, hl, q => by
    refine PySem.W.kat_cons (SeqAt.EqAt.int_int n t m u prog w _ _ ?_)
    refine PySem.W.kat_go (fun e => ?_) (fun e => ?_)
    · have e' : n = m := by simpa using e
      subst e'
      refine PySem.W.kat_yes (lex_ints (i + 1) a b (by simpa using hl) ?_)
      simpa [Oh.ltE] using q
    · have e' : ¬ n = m := by simpa using e
      refine PySem.W.kat_no (TS.oneLt_ints _ ?_)
      simpa [Oh.ltE, e'] using q
theorem firsts_ints {h : Heap} : ∀ {vs : List Value}, (∀ v ∈ vs, ∃ ns, TS.TupInts h v ns ∧ 1 ≤ ns.length) → ∃ fs, PySem.W.KatTups h vs fs ∧ fs.length = vs.length ∧ ∀ f ∈ fs, ∃ x t, f = Value.int x t
  | [], _ => ⟨[], PySem.W.KatTups.nil, rfl, fun _ hm => by simp at hm⟩
  | v :: vs, hp => by
    obtain ⟨fs, h1, h2, h3⟩ := firsts_ints (vs := vs) fun v' hm => hp v' (List.mem_cons_of_mem _ hm)
    obtain ⟨ns, ⟨a, xs, rfl, ⟨o, ho, hc, n, hd⟩, hi⟩, hl⟩ := hp v List.mem_cons_self
    obtain ⟨x, t, us, e⟩ : ∃ x t us, xs.toList = Value.int x t :: us := by
      generalize hx : xs.toList = us at hi
      cases hi with
      | nil => simp at hl
      | cons n t a => exact ⟨n, t, _, rfl⟩
    have e0 : xs[0]? = some (Value.int x t) := by
      rw [← Array.getElem?_toList, e]
      rfl
    refine ⟨.int x t :: fs, PySem.W.KatTups.cons ho hc hd e0 h1, by rw [List.length_cons, List.length_cons, h2], fun f hm => ?_⟩
    rcases List.mem_cons.mp hm with rfl | hm
    · exact ⟨x, t, rfl⟩
    · exact h3 f hm
theorem swoE : SrtO.Swo (Oh.ltE) := by
  refine ⟨fun x y h => Oh.ltE_no h, fun x y z h1 h2 => ?_⟩
  cases q : Oh.ltE z x with
  | false => rfl
  | true =>
    rcases Oh.ltE_tri x y with p | rfl | p
    · have := Oh.ltE_tr q p
      rw [h2] at this
      cases this
    · rw [q] at h2
      cases h2
    · rw [h1] at p
      cases p
/-- the order by the ints as they stand in h -/
abbrev ltH (h : Heap) (u v : Value) : Bool := Oh.ltE (TS.intsOf h u) (TS.intsOf h v)
theorem swoH (h : Heap) : SrtO.Swo (ltH h) := ⟨fun x y => swoE.asym _ _, fun x y z => swoE.tr _ _ _⟩
theorem sorted_elems {l : Addr} {vs : List Value} {d : Nat} {E : Value → Shared → Prop} {Q : Value → Shared → Prop} (hl : s.heap.IsList l vs.toArray) (hz : vs.length ≤ sizeLine) (hd : 1 ≤ d)
    (hp : ∀ v ∈ vs, ∃ ns, TS.TupInts s.heap v ns ∧ ns.length = d)
    (h : ∀ out : List Value, SrtO.Srtd (ltH s.heap) out → out.Perm vs → Q (.ref (s.heap.objs.size + 1)) { s with heap := sortedAll s.heap vs out.toArray }) :
    wpAny (model prog w) A (call (.builtin "sorted") [.ref l]) Q E s := by
  refine SrtO.sorted_ord (swoH s.heap) hl hz (fun h2 h₁ a ha kk h' keep => ?_) fun out hs hb => h out hs hb.perm
  have hp' : ∀ v ∈ vs, ∃ ns, TS.TupInts h' v ns ∧ ns.length = d ∧ TS.intsOf s.heap v = ns := fun v hv => by
    obtain ⟨ns, t, e⟩ := hp v hv
    exact ⟨ns, t.keeps fun b o q c => keep b o (kk b o q).1 (kk b o q).2, e, t.ints⟩
  obtain ⟨fs, f1, f2, f3⟩ := firsts_ints (h := h') (vs := vs) fun v hv => by
    obtain ⟨ns, t, e, _⟩ := hp' v hv
    exact ⟨ns, t, by omega⟩
  refine ⟨tuples' true, fun Q E hq => ?_, fun p q hm hm' => ?_⟩
  · refine PySem.W.kat_kind (T := .type "int") f1 (by omega) (fun f hm => ?_) (by rfl) ?_
    · obtain ⟨x, t, rfl⟩ := f3 f hm
      exact PySem.W.Looks.now
    · have e : (Value.type "int" != Value.type "tuple") = true := by first | decide +kernel | rfl | decide
      rw [e]
      exact hq
  · obtain ⟨ns, ⟨a1, xs, e1, ⟨o1, ho1, _, n1, hd1⟩, i1⟩, l1, z1⟩ := hp' _ hm
    obtain ⟨ms, ⟨a2, ys, e2, ⟨o2, ho2, _, n2, hd2⟩, i2⟩, l2, z2⟩ := hp' _ hm'
    have len1 := i1.length
    have len2 := i2.length
    show wpAny (model prog w) A.in1.in1 (keyLt' (tuples' true) p.1 q.1) (fun r s' => s' = { s with heap := h' } ∧ r = Oh.ltE (TS.intsOf s.heap p.1) (TS.intsOf s.heap q.1)) (fun _ _ => False) { s with heap := h' }
    rw [z1, z2, e1, e2]
    refine PySem.W.kat_lt ho1 hd1 ho2 hd2 ?_
    have e3 : decide (xs.size < ys.size) = false := decide_eq_false (by
      rw [← Array.length_toList, ← Array.length_toList]
      omega)
    rw [e3]
    exact lex_ints 0 i1 i2 (by omega) ⟨rfl, rfl⟩
end

/-- the value v is a tuple of the ints ns -/
def EV (H : Hp) (v : V) (ns : List Int) : Prop := ∃ t, v = .ref t ∧ H t = some (.tup (ns.map V.int))
/-- sorted(l), l a list of tuples of d ints -/
def rSortE (K : PySem.W.Frag) : List V → Hp → VK → Prop := fun vs H Q => ∃ (a : Addr) (xs : List V) (nss : List (List Int)) (d : Nat), vs = [.ref a] ∧ SqL K H a xs ∧ Paired (EV H) xs nss ∧ 1 ≤ d ∧ (∀ n ∈ nss, n.length = d) ∧
  ∀ (ys : List V) (mss : List (List Int)) (p : Addr), Paired (EV H) ys mss → mss.Perm nss → mss.Pairwise (fun x y => Oh.ltE y x = false) → H p = none → Q (.ref p) (upd H p (.lst ys))
theorem paired_mem {α β : Type} {F : α → β → Prop} : ∀ {xs : List α} {ys : List β}, Paired F xs ys → ∀ x ∈ xs, ∃ y ∈ ys, F x y
  | _, _, .nil, x, h => by simp at h
  | _, _, .cons r t, x, h => by
    rcases List.mem_cons.mp h with rfl | h
    · exact ⟨_, List.mem_cons_self, r⟩
    · obtain ⟨y, hy, f⟩ := paired_mem t x h
      exact ⟨y, List.mem_cons_of_mem _ hy, f⟩
theorem paired_map {α β : Type} {F : α → β → Prop} {f : α → β} : ∀ {xs : List α}, (∀ x ∈ xs, F x (f x)) → Paired F xs (xs.map f)
  | [], _ => .nil
  | x :: xs, h => .cons (h x List.mem_cons_self) (paired_map fun y hy => h y (List.mem_cons_of_mem _ hy))
theorem ev_inj {H : Hp} {v : V} {ns ms : List Int} (h1 : EV H v ns) (h2 : EV H v ms) : ns = ms := by
  obtain ⟨t, rfl, e⟩ := h1
  obtain ⟨t', e', f⟩ := h2
  cases e'
  rw [e] at f
  have f' : ns.map V.int = ms.map V.int := by
    injection f with f
    injection f
  exact (List.map_inj_right (fun a b h => by injection h)).mp f'
section
variable {X : Cx}
theorem cr_sortE : CallR X (.builtin "sorted") (rSortE X.K) := by
  intro pins s σ H vs us Q I r h
  obtain ⟨a, xs, nss, d, rfl, hs, hx, hd, hl, q⟩ := h
  obtain ⟨its, rv, pl, hz⟩ := I.list hs
  obtain ⟨u, rfl, ru⟩ := vals1 r
  obtain rfl : u = Value.ref a := ru
  have hx' := paired_mem hx
  obtain ⟨e1, e2⟩ := refs_back rv fun x m => by
    obtain ⟨ns, _, t, e, _⟩ := hx' x m
    exact ⟨t, e⟩
  -- the ints of a value, said both ways
  have both : ∀ v ∈ its, ∃ ns ∈ nss, EV H (backV v) ns ∧ TS.TupInts s.heap v ns := fun v hv => by
    obtain ⟨t, rfl⟩ := e2 v hv
    have hm : V.ref t ∈ xs := by rw [e1]; exact List.mem_map.mpr ⟨_, hv, rfl⟩
    obtain ⟨ns, hn, t', e, ht⟩ := hx' _ hm
    cases e
    refine ⟨ns, hn, ⟨t, rfl, ht⟩, ?_⟩
    obtain ⟨_, its2, r2, p2⟩ := I.hok _ _ ht
    exact ⟨t, its2.toArray, rfl, p2, by simpa using r2.ints⟩
  refine sorted_elems (d := d) pl.isList (by rw [← rv.length]; exact hz) hd (fun v hv => ?_) fun out h1 h2 => ?_
  · obtain ⟨ns, hn, _, t⟩ := both v hv
    exact ⟨ns, t, hl ns hn⟩
  · obtain ⟨ep, he'⟩ := sortedAll_at s.heap its out.toArray
    have h3 : ∀ u ∈ out, ∃ a, u = Value.ref a := fun u hu => e2 u (h2.mem_iff.mp hu)
    have pm : ∀ (l : List Value), (∀ v ∈ l, v ∈ its) → Paired (EV H) (l.map backV) (l.map (TS.intsOf s.heap)) := by
      intro l
      induction l with
      | nil => intro _; exact .nil
      | cons v l ih =>
        intro hm
        obtain ⟨ns, _, e, t⟩ := both v (hm v List.mem_cons_self)
        refine .cons ?_ (ih fun y hy => hm y (List.mem_cons_of_mem _ hy))
        rw [t.ints]
        exact e
    have en : nss = its.map (TS.intsOf s.heap) := by
      have p1 := pm its fun _ h => h
      rw [← e1] at p1
      have gen : ∀ {xs : List V} {n m : List (List Int)}, Paired (EV H) xs n → Paired (EV H) xs m → n = m := by
        intro xs
        induction xs with
        | nil => intro n m h1 h2; cases h1; cases h2; rfl
        | cons x xs ih =>
          intro n m h1 h2
          cases h1 with
          | cons a b =>
            cases h2 with
            | cons c d => rw [ev_inj a c, ih b d]
      exact gen hx p1
    have hb : (out.map backV).Perm xs := by rw [e1]; exact h2.map backV
    have hlen : (out.map backV).length ≤ sizeLine := by rw [hb.length_eq]; exact hz
    refine ⟨.ref _, upd H (s.heap.objs.size + 1) (.lst (out.map backV)), I.laid (t' := s.toks) (fun _ _ => sortedAll_old) (Nat.le_succ _) ⟨hlen, out, ep, vals_back h3, he'⟩, rfl,
      q _ (out.map (TS.intsOf s.heap)) _ (pm out fun v hv => h2.mem_iff.mp hv) (by rw [en]; exact h2.map _) ?_ (I.hok.fresh (Nat.le_succ _))⟩
    exact List.pairwise_map.mpr h1

/-! ### repr of data, where no text is being made around -/
def rRepr (K : PySem.W.Frag) : List V → Hp → VK → Prop := fun vs H Q => ∃ (a : Addr) (d : PyData), vs = [.ref a] ∧ Dp K H (.ref a) d ∧ d.showable = true ∧ d.hasDict = false ∧ d.depth ≤ 60 ∧ d.shown.length ≤ sizeLine ∧ Q (.str d.shown) H
theorem cr_repr (hg : X.A.guards = some []) (hu : X.A.units + 64 < cLine) : CallR X (.builtin "repr") (rRepr X.K) := by
  intro pins s σ H vs us Q I r h
  obtain ⟨a, d, rfl, hd, h1, h2, h3, h4, q⟩ := h
  obtain ⟨u, rfl, ru⟩ := vals1 r
  obtain ⟨as, rd⟩ := Dp.reads I d (.ref a) u hd ru
  obtain rfl : u = Value.ref a := ru
  exact repr_of_reads' rd h1 (fun z => by rw [h2] at z; cases z) hg (by omega) (fun b o e => e) (fun h' u tk hk => ⟨.str d.shown, H, I.kept (t' := tk) hk, ⟨u, rfl⟩, q⟩) h4
end
end OhL

set_option Elab.async false
set_option linter.all false
set_option maxRecDepth 100000
set_option maxHeartbeats 4000000
/-! {t: e}, t a tuple -/
namespace OhL
open PySem PySem.Spec PyProof.Rows L2
def tDispT1 (tk tv : TE) : TE := fun σ H Q => ∀ p, H p = none → tPairs [(tk, tv)] σ (upd H p (.dT [])) fun ps H2 => H2 p = some (.dT []) ∧
  ∃ (b : Addr) (k : List Key) (y : V), ps = [(.ref b, y)] ∧ H2 b = some (.tup (k.map kV)) ∧ Q (.ref p) (upd H2 p (.dT [(k, y)]))
theorem pe_dispT1 {X : Cx} {pos : Pos} {k v : Expr} {tk tv : TE} (hu : X.A.units < cLine) (hk : PE X k tk) (hv : PE X v tv) : PE X (.Dict [some k] [v] pos) (tDispT1 tk tv) := by
  refine ⟨fun pins s σ H Q I q => ?_⟩
  have hn := I.hok.fresh (Nat.le_refl s.heap.objs.size)
  have I1 := I.laid (a := s.heap.objs.size) (o := .dT []) (h' := s.heap.push { cls := .type "dict", data := .dict #[] }) (t' := s.toks) (fun _ _ q => Heap.get?_push_of_some _ q) (Nat.le_refl _) (dt_empty s.heap I.big)
  have pp : PPs X pos [some k] [v] [(tk, tv)] := pps_cons hk hv pps_nil
  have few : ([some k] : List (Option Expr)).length ≤ 15 := by show 1 ≤ 15; decide
  refine wpAny_Dict_any (by rfl) (by rfl) (by simp) few (thn (pp.run pins _ σ _ _ I1 (q _ hn)) fun ws s2 ⟨ps, H2, I2, rel, e, b, ks, y, ep, hb, q2⟩ => ?_)
  subst ep
  obtain ⟨⟨z, hd, xs, r0, dd⟩⟩ : _ ∧ True := ⟨dt_of I2.hok e, trivial⟩
  cases r0
  cases rel with
  | @cons p q ps qs r rr =>
    cases rr
    obtain ⟨u1, u2⟩ := q
    obtain ⟨ru, rv⟩ := r
    cases (show u1 = Value.ref b from ru)
    unfold storeAll
    rw [List.forIn_cons]
    refine wpAny_bind (wpAny_bind (wpAny_dictSet_heap (hsz := Nat.zero_le _) (knd := tupleKind (mixKind X.prog X.w)) hu (key_of I2.hok hb) dd fun h' dd' hs => wpAny_pure ?_))
    show wpAny _ _ (forIn [] _ _) _ _ _
    rw [List.forIn_nil]
    refine wpAny_pure ?_
    obtain ⟨ob, es, ep, hq, h2, h3, h4, _, h5⟩ := dd'
    have r1 : KT H2 (putK [] ks y) (storedH [] ks b u2) := KT.put (by exact .nil) ks hb rv
    refine ⟨.ref s.heap.objs.size, _, d_write (ob := .dT [(ks, y)]) I2 (by rw [e]; exact True.intro) hs ⟨ob, hq⟩ ⟨by show 1 ≤ sizeLine; decide, hd, _, r1.keeps fun c ys ec => ?_, ob, es, ep, hq, h2, h3, h4, h5⟩, rfl, q2⟩
    rw [upd_ne (ne_of ec e (fun z => nomatch z))]
    exact ec
end OhL

set_option Elab.async false
set_option linter.all false
set_option maxRecDepth 100000
set_option maxHeartbeats 4000000
/-! defs that are called where no text is being made: their promise may use that -/
namespace OhL
open PySem PySem.Spec PyProof.Rows L2

/-- FnOk, told of the callers without guards alone -/
structure FnG (P : Program) (w : World) (K : PySem.W.Frag) (mg : Str → Option Value) (base : Heap) (k : Nat) (f : Addr) (fd : FuncData) (ps : List Str) (sp : Sp) : Prop where
  len : ∀ vs H Q E, sp vs H Q E → vs.length = ps.length
  go : ∀ (A : Around) (outer : List Env) (s : Shared) (H : Hp) (args : Args) (us : List Value) (vs : List V) (Q : VK) (E : XK), A.guards = some [] →
    Room k A → Env0 P w K mg base A outer s H → BindsTo s fd args (ps.zip us) → Vals vs us → sp vs H Q E → codeAny (model P w) A (.call (.ref f) args) (CR CX0 outer P w H s Q E) s

section
variable {P : Program} {w : World} {K : PySem.W.Frag} {mg : Str → Option Value} {base : Heap}
/-- by its body -/
theorem fng_body {x qual : Str} {st : Stmt} {f : Addr} {fd : FuncData} {N ps : List Str} {k : Nat} {sp : Sp} (F : Fun K x qual st f fd) (S : FnScope N ps (defScope st))
    (hlen : ∀ vs H Q E, sp vs H Q E → vs.length = ps.length)
    (body : ∀ (cdv : Value) (A : Around) (outer : List Env) (s : Shared) (H : Hp) (vs : List V) (Q : VK) (E : XK), A.guards = some [] →
      Room k (A.deeper (envOfC qual (defScope st) s.heap.objs.size f cdv)) → sp vs H Q E →
      ∃ t, PSs (cxOf CX0 P w K mg base N qual (defScope st) f cdv A outer s H E).nox (defBody st) t ∧ t { nx := fun _ H' => Q .non H', rt := Q } (start N vs) H) :
    FnG P w K mg base (k + 1) f fd ps sp := by
  obtain ⟨oc, od, kV, doc, pm, an, cdv, ct, osl, rfl, lk, hcd⟩ := F.ex
  refine ⟨hlen, fun A outer s H args us vs Q E hg hr e0 hb r hsp => ?_⟩
  have nl := hlen _ _ _ _ hsp
  have inK : K.In s.heap := e0.mod.kin.keeps fun b o e => (e0.bs b o e).1
  have big : s.heap.NoLimit := e0.mod.nolimit.keeps fun b o e => (e0.bs b o e).1
  have kinds : ∀ y ∈ ps.zip us, (defScope st).names.lookup y.1 = some .local ∨ ((defScope st).names.lookup y.1 = some .cell ∧ ((cellsFrom (s.heap.objs.size + 1) (defScope st).names []).lookup y.1).isSome = true) := by
    rintro ⟨n, v⟩ hy
    exact (S.par n (List.of_mem_zip hy).1).imp id fun q => ⟨q, PySem.W.cellsFrom_some _ _ _ (.inl q)⟩
  refine codeAny_call_function hr.depth (inK _ _ lk) rfl S.co S.gen rfl (PySem.W.codeRec_of inK hcd) (hb _ _ _ _ ?_)
  refine wpAny_newFunctionEnv_cells S.kind kinds fun env he s1 y => ?_
  subst he
  obtain ⟨t, ht, hq⟩ := body cdv A outer s H vs Q E hg (hr.deeper _) hsp
  have J : Inv (cxOf CX0 P w K mg base N qual (defScope st) f cdv A outer s H E) [] (start N vs) H s1 := inv_start S hr.hd e0 nl r y
  refine ⟨big.keeps y.toInCall.keep, codeAny_func (wpAny_mono (ht.nox.run [] s1 _ H _ J hq) (fun fl s' z => ?_) fun _ _ z => z)⟩
  cases fl with
  | ret u => obtain ⟨v, τ, H', J', rv, q⟩ := z; exact ⟨v, H', J'.os, J'.bare, J'.base, J'.hok, rv, q⟩
  | next => obtain ⟨τ, H', J', q⟩ := z; exact ⟨V.non, H', J'.os, J'.bare, J'.base, J'.hok, rfl, q⟩
  | brk => obtain ⟨_, _, _, q⟩ := z; exact q.elim
  | cont => obtain ⟨_, _, _, q⟩ := z; exact q.elim
end

/-- f(..), f such a def -/
theorem pe_callG {X : Cx} {k : Nat} {f : Addr} {fd : FuncData} {ps : List Str} {sp : Sp} {x : Str} {p pos : Pos} {e : Expr} {es : List Expr} {t : TA} (F : FnG X.prog X.w X.K X.mg X.base k f fd ps sp) (hq : X.A.guards = some []) (hr : Room k X.A) (hg : Gl X x)
    (hm : X.mg x = some (.ref f)) (hk : PySem.W.keepIn X.K (.ref f) = true) (hb : Binds X.K fd ps []) (ha : PA X (e :: es) t) (hdb : (x == ("__debug__" : Str)) = false := by decide)
    (he : starEach (e :: es) X.env = (false, eval e X.env) :: starEach es X.env := by rfl) (hpl : (backTo pos (starEach es X.env)).any (·.1) = false := by rfl) : PE X (.Call (.Name x p) (e :: es) [] pos) (tCall sp [] E0 t) := by
  refine ⟨fun pins s σ H Q I h => wpAny_Call_Name_kw (ld_glob I hg hm ?_ hdb)⟩
  refine PySem.W.callWith_K (h₀ := X.base) I.ok.mod.kin hk (thn (ha.run pos pins s σ H _ I h) fun us s1 ⟨vs, H1, I1, r, q⟩ => ⟨I1.kIn, ?_⟩) he hpl
  have q' : sp vs H1 Q E0 := by simpa using q
  have hb' : BindsTo s1 fd ⟨us, []⟩ (ps.zip us) := by
    have := hb s1 us I1.kIn (by rw [List.append_nil, ← r.length]; exact F.len _ _ _ _ q')
    rwa [List.append_nil] at this
  refine wpAny_call (codeAny_mono (F.go X.A X.stack s1 H1 ⟨us, []⟩ us vs Q E0 hq hr I1.env0 hb' r q') fun r s' z => ?_)
  match r, z with
  | .ok (.ret u), z => exact I1.after z
  | .ok .next, z => exact False.elim z
  | .ok .brk, z => exact False.elim z
  | .ok .cont, z => exact False.elim z
  | .error e, z => exact False.elim z

/-! ### the law's call -/
section
variable {P : Program} {w : World} {K : PySem.W.Frag} {mg mb : Str → Option Value} {k : Nat} {fa a : Addr} {fd : FuncData} {x : Str} {sp : Sp} {s : Shared} {vs : List Value} {ns : List Int}
/-- from an abstract heap that tells of the script at most -/
theorem begin_at (inK : K.In s.heap) (gl : s.heap.Ns mainGlobals mg) (bl : s.heap.Ns builtinsNs mb) (bb : ∀ x : Str, x ≠ "__name__" → mb x = bootBuiltins x) (big : s.heap.NoLimit) (noG : s.gens = #[])
    (ha : s.heap.get? a = some { cls := .type "list", data := .seq vs.toArray }) (hr : Room k callerA) (F : ∀ base : Heap, K.In base → base.Ns mainGlobals mg → FnG P w K mg base k fa fd [x] sp)
    (hbind : ∀ (s : Shared) (u : Value), BindsTo s fd ⟨[u], []⟩ [(x, u)]) (H : Hp) (hO : Only H) (hk : HOk P w H s.heap) (hA : ∀ b, H b ≠ none → b = a) (hK : H a ≠ none → K.lookup a = none)
    (hsp : sp [.ref a] H (fun v _ => v = .bl true) fun _ _ _ => False) :
    codeAny (model P w) callerA (.call (.ref fa) ⟨[.ref a], []⟩) (fun r s' => r = .ok (.ret (.bool true)) ∧ OldK s.heap s'.heap ∧ s'.os = s.os ∧ AllBare s'.gens) s := by
  have only : ∀ {b u}, H b = some u → b = a := fun {b u} e => hA b (by rw [e]; exact fun z => nomatch z)
  have dict : ∀ {b : Addr} {o : Obj} {es : Array DictEntry} {ep : Nat}, s.heap.get? b = some o → o.data = .dict es ep → H b = none := by
    intro b o es ep e d
    cases q : H b with
    | none => rfl
    | some u =>
      rw [only q, ha] at e
      cases e
      exact nomatch d
  have ns : ∀ {b : Addr} {m : Str → Option Value}, s.heap.Ns b m → (hidT s.heap H).Ns b m := by
    rintro b m ⟨o, es, ep, e, d, r⟩
    exact ⟨o, es, ep, hidT_get e (dict e d), d, r⟩
  have inB : K.In (hidT s.heap H) := by
    intro b o e
    refine hidT_get (inK b o e) ?_
    cases q : H b with
    | none => rfl
    | some u =>
      have z := hK (by rw [← only q, q]; exact fun z => nomatch z)
      rw [only q, z] at e
      exact nomatch e
  have lim : (hidT s.heap H).NoLimit := by obtain ⟨mc, h1, h2⟩ := big; exact ⟨mc, ns h1, h2⟩
  have none_in : ∀ b, b ∉ frs ([] : List Env) := fun b z => by simp [frs] at z
  have e0 : Env0 P w K mg (hidT s.heap H) callerA [] s H := ⟨rfl, ⟨inB, ns gl, ⟨mb, ns bl, bb⟩, lim⟩, fun b o e => of_hidT e, Nat.le_of_eq (hidT_size _ _), trivial, fun b z => (none_in b z).elim, hk, .of_eq noG⟩
  refine codeAny_mono ((F _ inB (ns gl)).go callerA [] s H _ [.ref a] [.ref a] _ _ rfl hr e0 (hbind s (.ref a)) (.cons rfl .nil) hsp) fun r s' z => ?_
  match r, z with
  | .ok .next, z => exact False.elim z
  | .ok .brk, z => exact False.elim z
  | .ok .cont, z => exact False.elim z
  | .error e, z => exact False.elim z
  | .ok (.ret u), ⟨v, H', os, bare, un, hk', rv, q⟩ =>
    cases (show v = .bl true from q)
    cases (show u = Value.bool true from rv)
    refine ⟨rfl, OldK.of_keep fun b o e => ?_, os, bare⟩
    cases q : H b with
    | none => exact un.keep b o e q (none_in b) (by simp)
    | some u =>
      rcases hO b with n | ⟨ob, xs, n⟩
      · rw [q] at n
        exact nomatch n
      · have e1 := (hk b _ n).1
        have e2 := (hk' b _ (un.frzs b ob _ n)).1
        rw [e] at e1
        cases e1
        exact e2
theorem begin_call (inK : K.In s.heap) (gl : s.heap.Ns mainGlobals mg) (bl : s.heap.Ns builtinsNs mb) (bb : ∀ x : Str, x ≠ "__name__" → mb x = bootBuiltins x) (big : s.heap.NoLimit) (noG : s.gens = #[])
    (ha : s.heap.get? a = some { cls := .type "list", data := .seq vs.toArray }) (hi : IntsAre vs ns) (hl : ns.length ≤ sizeLine) (hr : Room k callerA) (F : ∀ base : Heap, K.In base → base.Ns mainGlobals mg → FnG P w K mg base k fa fd [x] sp)
    (hbind : ∀ (s : Shared) (u : Value), BindsTo s fd ⟨[u], []⟩ [(x, u)]) (hsp : ∀ H : Hp, Only H → SqL K H a (ns.map V.int) → sp [.ref a] H (fun v _ => v = .bl true) fun _ _ _ => False) :
    codeAny (model P w) callerA (.call (.ref fa) ⟨[.ref a], []⟩) (fun r s' => r = .ok (.ret (.bool true)) ∧ OldK s.heap s'.heap ∧ s'.os = s.os ∧ AllBare s'.gens) s := by
  have rv := vals_ints hi
  have lv := hi.length
  have run := begin_at inK gl bl bb big noG ha hr F hbind
  cases hka : K.lookup a with
  | some o =>
    have e := inK a o hka
    rw [ha] at e
    cases e
    have hO : Only fun _ => none := fun _ => .inl rfl
    exact run _ hO (fun b u z => nomatch z) (fun b z => absurd rfl z) (fun z => absurd rfl z) (hsp _ hO (.inr ⟨_, vs.toArray, _, hka, rfl, rfl, rfl, by rw [List.size_toArray, lv]; exact hl, by simpa using rv⟩))
  | none =>
    let ob : Obj := { cls := .type "list", data := .seq vs.toArray }
    let H : Hp := fun b => if b = a then some (.frz ob (.lst (ns.map V.int))) else none
    have at_ : H a = some (.frz ob (.lst (ns.map V.int))) := if_pos rfl
    have off : ∀ b, b ≠ a → H b = none := fun b n => if_neg n
    have hO : Only H := fun b => by
      by_cases n : b = a
      · rw [n]
        exact .inr ⟨ob, _, at_⟩
      · exact .inl (off b n)
    refine run H hO (fun b u z => ?_) (fun b z => Classical.byContradiction fun n => z (off b n)) (fun _ => hka) (hsp H hO (.inl (.inr ⟨ob, at_⟩)))
    by_cases n : b = a
    · subst n
      rw [at_] at z
      cases z
      exact ⟨ha, by rw [List.length_map]; exact hl, vs, _, rv, ha⟩
    · rw [off b n] at z
      exact nomatch z
end
/-- the goal that the head leaves, from the law's promise -/
theorem walk_ofG {l : PySem.W.OpenLaw} {n k : Nat} {q : Program} {loose : List Str} {XP : (Str → Option Value) → Heap → Prop} {YP : World → Heap → Prop} {d : DefRec} {K : Params → PySem.W.Frag} {sp : World → Sp} {x : Str}
    (hn : l.most = some n) (hn2 : n ≤ sizeLine) (hdf : d.params.defaults = []) (hr : Room k callerA) (hY : ∀ (w : World) (h : Heap), YP w h → (K w.params).In h)
    (F : ∀ (w : World) (mg : Str → Option Value) (fa : Addr) (h : Heap), (K w.params).In h → h.Ns mainGlobals mg → mg d.name = some (.ref fa) →
      ∃ fd : FuncData, (∀ (s : Shared) (u : Value), BindsTo s fd ⟨[u], []⟩ [(x, u)]) ∧ ∀ base : Heap, (K w.params).In base → base.Ns mainGlobals mg → FnG l.prog w (K w.params) mg base k fa fd [x] (sp w))
    (hsp : ∀ (w : World) (H : Hp) (a : Addr) (ns : List Int), ns.length ≤ n → Only H → SqL (K w.params) H a (ns.map V.int) → sp w [.ref a] H (fun v _ => v = .bl true) fun _ _ _ => False) :
    PySem.W.WalkO q loose XP YP l.row.toRowW d [] (fun f vs => PySem.call f vs) := by
  refine Att.attach_call hn hdf fun w s₀ s₁ mg mb fa o pm cd doc a vs ns G Y ho hd hcd hmg hobj hints hlen hg => ?_
  have KX := hY w _ Y
  obtain ⟨fd, hb, hF⟩ := F w mg fa _ KX G.T.g hmg
  exact begin_call KX G.T.g G.T.b G.T.builtins G.T.nolimit hg hobj hints (Nat.le_trans hlen hn2) hr hF hb fun H hO hS => hsp w H a ns hlen hO hS
end OhL

set_option Elab.async false
set_option linter.all false
set_option maxRecDepth 100000
set_option maxHeartbeats 4000000
/-! short words of our own -/
namespace OhL
open PySem PySem.Spec PyProof.Rows L2

/-! ### a def as it stands, a def that keeps its promise -/
structure Here (K : PySem.W.Frag) (mg : Str → Option Value) (x : Str) (st : Stmt) (ps : List Str) : Prop where
  ex : ∃ (f : Addr) (fd : FuncData), Fun K x x st f fd ∧ mg x = some (.ref f) ∧ Binds K fd ps []
structure Kept (P : Program) (w : World) (K : PySem.W.Frag) (mg : Str → Option Value) (base : Heap) (k : Nat) (x : Str) (ps : List Str) (sp : Sp) : Prop where
  ex : ∃ (f : Addr) (fd : FuncData), FnOk P w K mg base CX0 k f fd ps sp ∧ mg x = some (.ref f) ∧ PySem.W.keepIn K (.ref f) = true ∧ Binds K fd ps [] ∧ ∃ oc od osl, K.lookup f = some ⟨oc, od, .func fd, osl⟩
theorem kept_of {P : Program} {w : World} {K : PySem.W.Frag} {mg : Str → Option Value} {base : Heap} {x : Str} {st : Stmt} {N ps : List Str} {k : Nat} {sp : Sp} (h : Here K mg x st ps) (S : FnScope N ps (defScope st)) (len : ∀ vs H Q E, sp vs H Q E → vs.length = ps.length)
    (body : ∀ (f : Addr) (cdv : Value) (A : Around) (outer : List Env) (s : Shared) (H : Hp) (vs : List V) (Q : VK) (E : XK), Room k (A.deeper (envOfC x (defScope st) s.heap.objs.size f cdv)) → sp vs H Q E →
      ∃ t, PSs (cxOf CX0 P w K mg base N x (defScope st) f cdv A outer s H E).nox (defBody st) t ∧ t { nx := fun _ H' => Q .non H', rt := Q } (start N vs) H) : Kept P w K mg base (k + 1) x ps sp := by
  obtain ⟨f, fd, F, hm, hb⟩ := h.ex
  refine ⟨f, fd, F.ok S len (body f), hm, F.kp, hb, ?_⟩
  obtain ⟨oc, od, kV, doc, pm, an, cdv, ct, osl, e, lk, hcd⟩ := F.ex
  exact ⟨oc, od, osl, lk⟩
theorem pe_k {X : Cx} {k j : Nat} {ps : List Str} {sp : Sp} {x : Str} {p pos : Pos} {e : Expr} {es : List Expr} {t : TA} (c : Kept X.prog X.w X.K X.mg X.base k x ps sp) (hr : Room j X.A) (hk : k ≤ j) (hg : Gl X x) (ha : PA X (e :: es) t)
    (hdb : (x == ("__debug__" : Str)) = false := by decide) (he : starEach (e :: es) X.env = (false, eval e X.env) :: starEach es X.env := by rfl) (hpl : (backTo pos (starEach es X.env)).any (·.1) = false := by rfl) :
    PE X (.Call (.Name x p) (e :: es) [] pos) (tCall sp [] E0 t) := by
  obtain ⟨f, fd, F, hm, kp, b, _⟩ := c.ex
  exact pe_call F (hr.mono hk) hg hm kp b .nil pass0 ha hdb he hpl

/-! ### heaps -/
/-- the tuples stand as they stood -/
def Tk (H H' : Hp) : Prop := ∀ a xs, H a = some (.tup xs) → H' a = some (.tup xs)
theorem Tk.refl (H : Hp) : Tk H H := fun _ _ h => h
theorem Tk.trans {H H1 H2 : Hp} (a : Tk H H1) (b : Tk H1 H2) : Tk H H2 := fun x xs h => b x xs (a x xs h)
theorem tk {H H' : Hp} (s : Same H H') : Tk H H' := fun a xs h => s a _ h
theorem Tk.upd {H H' : Hp} {p : Addr} {o : HO} (t : Tk H H') (n : ∀ xs, H' p ≠ some (.tup xs)) : Tk H (upd H' p o) := fun a xs h => by
  have e := t a xs h
  have ne : a ≠ p := fun z => n xs (by rw [← z]; exact e)
  rw [upd_ne ne]
  exact e
theorem sm_new {H : Hp} {p : Addr} {o : HO} (h : H p = none) : Same H (upd H p o) := fun a u e => by
  rw [upd_ne (ne_of_none e h)]
  exact e
/-- what was not known may change -/
theorem sm_upd {H H' : Hp} {p : Addr} {o : HO} (s : Same H H') (h : H p = none) : Same H (upd H' p o) := fun a u e => by
  rw [upd_ne (ne_of_none e h)]
  exact s a u e
theorem not_tup {H : Hp} {p : Addr} {xs : List V} (h : H p = some (.lst xs)) : ∀ ys, H p ≠ some (.tup ys) := fun ys e => by
  rw [h] at e
  cases e

theorem EV.mono {H H' : Hp} {v : V} {ns : List Int} (t : Tk H H') (h : EV H v ns) : EV H' v ns := by
  obtain ⟨a, rfl, e⟩ := h
  exact ⟨a, rfl, t _ _ e⟩
/-- the items xs stand for the elements nss -/
abbrev Els (H : Hp) (xs : List V) (nss : List Oh.El) : Prop := Paired (EV H) xs nss
theorem Els.mono {H H' : Hp} (t : Tk H H') : ∀ {xs : List V} {nss : List Oh.El}, Els H xs nss → Els H' xs nss
  | _, _, .nil => .nil
  | _, _, .cons r h => .cons (r.mono t) (Els.mono t h)
/-- a tuple, a list of elements -/
def ET (H : Hp) (v : V) (nss : List Oh.El) : Prop := ∃ a xs, v = .ref a ∧ H a = some (.tup xs) ∧ Els H xs nss
def EL (H : Hp) (v : V) (nss : List Oh.El) : Prop := ∃ a xs, v = .ref a ∧ H a = some (.lst xs) ∧ Els H xs nss
theorem ET.mono {H H' : Hp} {v : V} {nss : List Oh.El} (t : Tk H H') (h : ET H v nss) : ET H' v nss := by
  obtain ⟨a, xs, rfl, e, p⟩ := h
  exact ⟨a, xs, rfl, t _ _ e, Els.mono t p⟩
theorem EL.mono {H H' : Hp} {v : V} {nss : List Oh.El} (t : Same H H') (h : EL H v nss) : EL H' v nss := by
  obtain ⟨a, xs, rfl, e, p⟩ := h
  exact ⟨a, xs, rfl, t _ _ e, Els.mono (tk t) p⟩
/-- a list of ints -/
def IL (H : Hp) (v : V) (ns : List Int) : Prop := ∃ a, v = .ref a ∧ H a = some (.lst (ns.map V.int))
theorem Paired.get {α β : Type} {F : α → β → Prop} : ∀ {xs : List α} {ys : List β} {i : Nat} {x : α}, Paired F xs ys → xs[i]? = some x → ∃ y, ys[i]? = some y ∧ F x y
  | _, _, _, _, .nil, e => by simp at e
  | _, _, 0, _, .cons r _, e => by
    simp at e
    subst e
    exact ⟨_, rfl, r⟩
  | _, _, i + 1, x, .cons _ t, e => by
    obtain ⟨y, h1, h2⟩ := Paired.get (i := i) (x := x) t (by simpa using e)
    exact ⟨y, by simpa using h1, h2⟩
theorem Paired.get' {α β : Type} {F : α → β → Prop} : ∀ {xs : List α} {ys : List β} {i : Nat} {y : β}, Paired F xs ys → ys[i]? = some y → ∃ x, xs[i]? = some x ∧ F x y
  | _, _, _, _, .nil, e => by simp at e
  | _, _, 0, _, .cons r _, e => by
    simp at e
    subst e
    exact ⟨_, rfl, r⟩
  | _, _, i + 1, y, .cons _ t, e => by
    obtain ⟨x, h1, h2⟩ := Paired.get' (i := i) (y := y) t (by simpa using e)
    exact ⟨x, by simpa using h1, h2⟩
theorem Paired.append {α β : Type} {F : α → β → Prop} : ∀ {xs xs' : List α} {ys ys' : List β}, Paired F xs ys → Paired F xs' ys' → Paired F (xs ++ xs') (ys ++ ys')
  | _, _, _, _, .nil, s => s
  | _, _, _, _, .cons r t, s => .cons r (Paired.append t s)

/-! ### comprehensions whose turns make things only -/
theorem lc_pure {J : It} {n : Nat} {G : Hp → Prop} {Y : Nat → Hp → V → Hp → Prop} (w : Walk J n G Y) {g : TG} {tt : TT} {te : TE} {vs : List Nat} {σ : L2.St} {H1 : Hp} {D : Addr} {Qd : Hp → Prop} (hn : n ≤ 100000) (hD : H1 D = none)
    (keep : Nat → Bool) (R : Nat → V → Hp → Prop) (hR : ∀ i y H H', Tk H H' → R i y H → R i y H') (hG : ∀ H, Same H1 H → G H)
    (hs : ∀ i x H H', i < n → Same H1 H → Y i H x H' → ∀ (Q1 : V → Hp → Prop) (Q0 : Hp → Prop), (∀ y H4, Same H H4 → keep i = true → R i y H4 → Q1 y H4) → (∀ H3, Same H H3 → keep i = false → Q0 H3) →
      g x (wipe σ vs) H' fun σ2 H2 => wipe σ2 vs = wipe σ vs ∧ tt σ2 H2 fun b H3 => if b = true then te σ2 H3 Q1 else Q0 H3)
    (hd : ∀ ys H, Same H1 H → H D = some (.lst ys) → Paired (fun y i => R i y H) ys ((List.range n).filter keep) → Qd H) :
    ∃ W : Nat → Nat → Hp → Prop, (∃ m, W 0 m (upd H1 D (.lst []))) ∧ ∀ i m H, W i m H →
      (J.stop i H ∧ Qd H) ∨ (J.go i H ∧ ∃ Nx : Hp → Prop, (∀ H', Nx H' → ∃ m', m' < m ∧ W (i + 1) m' H') ∧ ∀ x H', J.yld i H x H' → g x (wipe σ vs) H' fun σ2 H2 => wipe σ2 vs = wipe σ vs ∧ tt σ2 H2 fun b H3 =>
        if b = true then te σ2 H3 fun y H4 => ∃ acc, H4 D = some (.lst acc) ∧ acc.length < sizeLine ∧ Nx (upd H4 D (.lst (acc ++ [y]))) else Nx H3) := by
  have mono : ∀ {H H' : Hp} {ys : List V} {l : List Nat}, Tk H H' → Paired (fun y i => R i y H) ys l → Paired (fun y i => R i y H') ys l := by
    intro H H' ys l t p
    exact L2.Paired.mapP p fun y i r => hR i y H H' t r
  have step : ∀ i, (List.range (i + 1)).filter keep = if keep i = true then (List.range i).filter keep ++ [i] else (List.range i).filter keep := fun i => by
    rw [List.range_succ, List.filter_append]
    by_cases q : keep i = true
    · rw [if_pos q]
      simp [q]
    · rw [if_neg q]
      simp [q]
  refine lc_it w (fun i H => i ≤ n ∧ Same H1 H ∧ ∃ ys, H D = some (.lst ys) ∧ Paired (fun y i => R i y H) ys ((List.range i).filter keep)) ⟨Nat.zero_le _, sm_new hD, [], upd_same, .nil⟩ (fun i H _ ⟨_, s, _⟩ => hG H s) ?_ (fun H ⟨_, s, ys, e, p⟩ => hd ys H s e p)
  rintro i x H H' hi ⟨_, s, ys, e, p⟩ y
  refine hs i x H H' hi s y _ _ (fun z H4 s4 k r => ?_) (fun H3 s3 k => ?_)
  · refine ⟨ys, s4 _ _ e, ?_, hi, sm_upd (L2.Same.trans s s4) hD, ys ++ [z], upd_same, ?_⟩
    · have h1 := Paired.length p
      have h2 : ((List.range i).filter keep).length ≤ i := by
        have := List.length_filter_le keep (List.range i)
        rw [List.length_range] at this
        exact this
      have h3 : 100000 < sizeLine := by decide
      omega
    · have t4 : Tk H4 (upd H4 D (.lst (ys ++ [z]))) := (Tk.refl H4).upd (not_tup (s4 _ _ e))
      rw [step, if_pos k]
      exact Paired.append (mono ((tk s4).trans t4) p) (.cons (hR i z _ _ t4 r) .nil)
  · refine ⟨hi, L2.Same.trans s s3, ys, s3 _ _ e, ?_⟩
    rw [step, if_neg (by rw [k]; exact Bool.false_ne_true)]
    exact mono (tk s3) p
theorem range_all (n : Nat) : (List.range n).filter (fun _ => true) = List.range n := by simp
/-- ints, as a function of the turn -/
theorem paired_fn {α β : Type} {f : α → β} : ∀ {ys : List β} {l : List α}, Paired (fun y i => y = f i) ys l → ys = l.map f
  | _, _, .nil => rfl
  | _, _, .cons r t => by rw [List.map_cons, ← paired_fn t, r]
end OhL

set_option Elab.async false
set_option linter.all false
set_option maxRecDepth 100000
set_option maxHeartbeats 4000000
/-! the text by places; data in the heap; small lemmas -/
namespace OhL
open PySem PySem.Spec PyProof.Rows L2
def top (i : Nat) : Stmt := PySem.Challenge.pw_onlyhigher_k30_whole_bars.main.body.getD i (.Pass ⟨0, 0, 0, 0⟩)
/-- the built-in names that the defs use -/
structure Glob (mg : Str → Option Value) : Prop where
  isinstance : mg "isinstance" = none
  int : mg "int" = none
  bool : mg "bool" = none
  str : mg "str" = none
  len : mg "len" = none
  tuple : mg "tuple" = none
  list : mg "list" = none
  all : mg "all" = none
  zip : mg "zip" = none
  range : mg "range" = none
  sorted : mg "sorted" = none
  sum : mg "sum" = none
  repr : mg "repr" = none
  enumerate : mg "enumerate" = none
  lcm : mg "lcm" = some (.builtin "math.lcm")

theorem at_int {l : List Int} {i : Nat} {z : V} (h : (l.map V.int)[i]? = some z) : z = V.int (l.getD i 0) := by
  rw [List.getElem?_map] at h
  cases e : l[i]? with
  | none => rw [e] at h; cases h
  | some u =>
    rw [e] at h
    rw [List.getD_eq_getElem?_getD, e]
    exact (Option.some.inj h).symm
theorem getD_01 {l : List Int} {i : Nat} (h : i < l.length) : l.getD i 0 = l.getD i 1 := by
  rw [List.getD_eq_getElem?_getD, List.getD_eq_getElem?_getD, List.getElem?_eq_getElem h]
  rfl
theorem vmod {a m : Int} (h : 0 < m) : V.int (a.fmod m) = V.int (a % m) := by rw [Int.fmod_eq_emod_of_nonneg _ (Int.le_of_lt h)]
theorem line_big {n : Nat} (h : n ≤ 1000000) : n < sizeLine := by
  have e : 1000000 < sizeLine := by decide
  omega

/-- the groups that are drawn: one to three moduli from 2 to 64, their product at most 64 -/
structure OkG (G : List Int) : Prop where
  each : ∀ m ∈ G, 2 ≤ m ∧ m ≤ 64
  one : 1 ≤ G.length
  few : G.length ≤ 3
  prod : Oh.prodE G ≤ 64
theorem OkG.pos {G : List Int} (h : OkG G) : Oh.Pos G := fun m hm => by have := (h.each m hm).1; omega
theorem OkG.le {G : List Int} (h : OkG G) {i : Nat} (hi : i < G.length) : 2 ≤ G.getD i 0 ∧ G.getD i 0 ≤ 64 := by
  rw [getD_01 hi]
  exact h.each _ (Oh.getD_mem hi)

/-! ### data -/
/-- a tuple of tuples of elements -/
def ETT (H : Hp) (v : V) (rows : List (List Oh.El)) : Prop := ∃ a xs, v = .ref a ∧ H a = some (.tup xs) ∧ Paired (ET H) xs rows
/-- a list of tuples of elements -/
def ELT (H : Hp) (v : V) (rows : List (List Oh.El)) : Prop := ∃ a xs, v = .ref a ∧ H a = some (.lst xs) ∧ Paired (ET H) xs rows
theorem ets_mono {H H' : Hp} (t : Tk H H') {xs : List V} {rows : List (List Oh.El)} (h : Paired (ET H) xs rows) : Paired (ET H') xs rows := L2.Paired.mapP h fun _ _ r => r.mono t
theorem ETT.mono {H H' : Hp} {v : V} {rows : List (List Oh.El)} (t : Tk H H') (h : ETT H v rows) : ETT H' v rows := by
  obtain ⟨a, xs, rfl, e, p⟩ := h
  exact ⟨a, xs, rfl, t _ _ e, ets_mono t p⟩
theorem ELT.mono {H H' : Hp} {v : V} {rows : List (List Oh.El)} (t : Same H H') (h : ELT H v rows) : ELT H' v rows := by
  obtain ⟨a, xs, rfl, e, p⟩ := h
  exact ⟨a, xs, rfl, t _ _ e, ets_mono (tk t) p⟩
/-- a bar -/
def BV (H : Hp) (v : V) : Oh.Bar → Prop
  | .no => v = .non
  | .char c => ∃ a u, v = .ref a ∧ H a = some (.tup [.str "character", u]) ∧ EV H u c
  | .sums rows => ∃ a u, v = .ref a ∧ H a = some (.tup [.str "sums", u]) ∧ ETT H u rows
theorem BV.mono {H H' : Hp} {v : V} : ∀ {b : Oh.Bar}, Tk H H' → BV H v b → BV H' v b
  | .no, _, h => h
  | .char c, t, ⟨a, u, e, h, p⟩ => ⟨a, u, e, t _ _ h, p.mono t⟩
  | .sums rows, t, ⟨a, u, e, h, p⟩ => ⟨a, u, e, t _ _ h, p.mono t⟩

/-! ### data as the operators see it -/
def dE (x : Oh.El) : PyData := .tuple (x.map PyData.int)
theorem dpInts {K : PySem.W.Frag} {H : Hp} : ∀ x : List Int, DpAll K H (x.map V.int) (x.map PyData.int)
  | [] => .nil
  | n :: x => .cons (.int n) (dpInts x)
theorem EV.dp {K : PySem.W.Frag} {H : Hp} {v : V} {x : Oh.El} (h : EV H v x) : Dp K H v (dE x) := by
  obtain ⟨a, rfl, e⟩ := h
  exact .tup (SqT.of e) (dpInts x)
theorem Els.dp {K : PySem.W.Frag} {H : Hp} : ∀ {xs : List V} {nss : List Oh.El}, Els H xs nss → DpAll K H xs (nss.map dE)
  | _, _, .nil => .nil
  | _, _, .cons r t => .cons r.dp (Els.dp t)
def dT (nss : List Oh.El) : PyData := .tuple (nss.map dE)
theorem ET.dp {K : PySem.W.Frag} {H : Hp} {v : V} {nss : List Oh.El} (h : ET H v nss) : Dp K H v (dT nss) := by
  obtain ⟨a, xs, rfl, e, p⟩ := h
  exact .tup (SqT.of e) (Els.dp p)
theorem ets_dp {K : PySem.W.Frag} {H : Hp} : ∀ {xs : List V} {rows : List (List Oh.El)}, Paired (ET H) xs rows → DpAll K H xs (rows.map dT)
  | _, _, .nil => .nil
  | _, _, .cons r t => .cons r.dp (ets_dp t)
def dB : Oh.Bar → PyData
  | .no => .none
  | .char c => .tuple [.str "character", dE c]
  | .sums rows => .tuple [.str "sums", .tuple (rows.map dT)]
theorem BV.dp {K : PySem.W.Frag} {H : Hp} {v : V} : ∀ {b : Oh.Bar}, BV H v b → Dp K H v (dB b)
  | .no, h => by cases h; exact .non
  | .char c, ⟨a, u, e, h, p⟩ => by subst e; exact .tup (SqT.of h) (.cons (.str _) (.cons p.dp .nil))
  | .sums rows, ⟨a, u, e, h, b, xs, e2, h2, p⟩ => by subst e; subst e2; exact .tup (SqT.of h) (.cons (.str _) (.cons (.tup (SqT.of h2) (ets_dp p)) .nil))

/-! ### shapes, equality -/
theorem lay_ints : ∀ x : List Int, PyData.canLayAll0 (x.map PyData.int) = true
  | [] => rfl
  | n :: x => by
    simp only [List.map_cons, PyData.canLayAll0, PyData.canLay0, lay_ints x, Bool.true_and]
theorem depth_ints : ∀ x : List Int, PyData.depthAll (x.map PyData.int) ≤ 0
  | [] => by simp [PyData.depthAll]
  | n :: x => by
    have := depth_ints x
    simp only [List.map_cons, PyData.depthAll, PyData.depth]
    omega
theorem dE_lay (x : Oh.El) : (dE x).canLay0 = true := by simp only [dE, PyData.canLay0]; exact lay_ints x
theorem dE_depth (x : Oh.El) : (dE x).depth ≤ 1 := by
  have := depth_ints x
  simp only [dE, PyData.depth]
  omega
theorem lay_dEs : ∀ l : List Oh.El, PyData.canLayAll0 (l.map dE) = true
  | [] => rfl
  | x :: l => by simp only [List.map_cons, PyData.canLayAll0, dE_lay x, lay_dEs l, Bool.true_and]
theorem depth_dEs : ∀ l : List Oh.El, PyData.depthAll (l.map dE) ≤ 1
  | [] => by simp [PyData.depthAll]
  | x :: l => by
    have h1 := dE_depth x
    have h2 := depth_dEs l
    simp only [List.map_cons, PyData.depthAll]
    omega
theorem sh_of {d : PyData} (h1 : d.canLay0 = true) (h2 : d.depth ≤ 64) : SeqAt.shaped d = true := by
  show (d.canLay0 && decide (d.depth ≤ 64)) = true
  rw [h1, decide_eq_true h2]
  rfl
theorem sh_E (x : Oh.El) : SeqAt.shaped (dE x) = true := sh_of (dE_lay x) (by have := dE_depth x; omega)
theorem sh_T (l : List Oh.El) : SeqAt.shaped (.tuple (l.map dE)) = true := sh_of (by simp only [PyData.canLay0]; exact lay_dEs l) (by have := depth_dEs l; simp only [PyData.depth]; omega)
theorem sh_L (l : List Oh.El) : SeqAt.shaped (.list (l.map dE)) = true := sh_of (by simp only [PyData.canLay0]; exact lay_dEs l) (by have := depth_dEs l; simp only [PyData.depth]; omega)
theorem eqv_ints : ∀ x y : List Int, PyData.eqvAll (x.map PyData.int) (y.map PyData.int) = decide (x = y)
  | [], [] => rfl
  | [], _ :: _ => by simp [PyData.eqvAll]
  | _ :: _, [] => by simp [PyData.eqvAll]
  | n :: x, m :: y => by
    simp only [List.map_cons, PyData.eqvAll, PyData.eqv, eqv_ints x y]
    by_cases h : n = m
    · by_cases h2 : x = y
      · simp [h, h2]
      · simp [h, h2]
    · simp [h]
theorem eqv_dE (x y : Oh.El) : PyData.eqv (dE x) (dE y) = decide (x = y) := by
  simp only [dE, PyData.eqv]
  exact eqv_ints x y
theorem any_dE (x : Oh.El) : ∀ l : List Oh.El, ((l.map dE).any fun z => PyData.eqv z (dE x)) = decide (x ∈ l)
  | [] => by simp
  | y :: l => by
    rw [List.map_cons, List.any_cons, eqv_dE, any_dE x l]
    by_cases h : y = x
    · simp [h]
    · have h' : ¬ x = y := fun e => h e.symm
      simp [h, h']

/-! ### a dict whose keys are elements, its values True -/
def kE (x : Oh.El) : List Key := x.map Sum.inl
theorem kE_map (x : Oh.El) : (kE x).map kV = x.map V.int := by simp [kE, kV]
theorem kE_inj {x y : Oh.El} (h : kE x = kE y) : x = y := (List.map_inj_right (fun a b h => by injection h)).mp h
def kT (l : List Oh.El) : List (List Key × V) := l.map fun x => (kE x, V.bl true)
theorem any_kT (x : Oh.El) : ∀ l : List Oh.El, ((kT l).any fun kv => decide (kv.1 = kE x)) = decide (x ∈ l)
  | [] => by simp [kT]
  | y :: l => by
    show (decide (kE y = kE x) || (kT l).any _) = _
    rw [any_kT x l]
    by_cases h : y = x
    · simp [h]
    · have h' : ¬ x = y := fun e => h e.symm
      have h2 : ¬ kE y = kE x := fun e => h (kE_inj e)
      simp [h2, h']
theorem get_kT (x : Oh.El) (l : List Oh.El) : (valV (kT l) (kE x)).isSome = decide (x ∈ l) := by rw [← valV_any, any_kT]
def putE (l : List Oh.El) (x : Oh.El) : List Oh.El := if x ∈ l then l else l ++ [x]
theorem put_kT (x : Oh.El) (l : List Oh.El) : putK (kT l) (kE x) (.bl true) = kT (putE l x) := by
  unfold putK putE
  rw [any_kT]
  by_cases h : x ∈ l
  · rw [if_pos (decide_eq_true h), if_pos h]
    unfold kT
    rw [List.map_map]
    refine List.map_congr_left fun y _ => ?_
    show (if kE y = kE x then (kE y, V.bl true) else (kE y, V.bl true)) = (kE y, V.bl true)
    split <;> rfl
  · rw [if_neg (by simpa using h), if_neg h]
    simp [kT]
theorem mem_putE {l : List Oh.El} {x y : Oh.El} : y ∈ putE l x ↔ y ∈ l ∨ y = x := by
  unfold putE
  by_cases h : x ∈ l
  · rw [if_pos h]
    exact ⟨.inl, fun z => z.elim id fun e => e ▸ h⟩
  · rw [if_neg h]
    simp
theorem nodup_putE {l : List Oh.El} {x : Oh.El} (h : l.Nodup) : (putE l x).Nodup := by
  unfold putE
  by_cases q : x ∈ l
  · rw [if_pos q]
    exact h
  · rw [if_neg q]
    exact List.nodup_append.mpr ⟨h, by simp, fun a ha b hb e => by simp at hb; subst hb; exact q (e ▸ ha)⟩
/-- what list(d) gives -/
theorem keys_els {H : Hp} : ∀ {l : List Oh.El} {bs : List Addr}, IsKeys H (kT l) bs → Els H (bs.map V.ref) l
  | [], _, h => by cases h; exact .nil
  | x :: l, _, h => by
    cases h with
    | cons r t =>
      refine .cons ⟨_, rfl, ?_⟩ (keys_els t)
      rw [r, kE_map]
theorem EV.key {H : Hp} {v : V} {x : Oh.El} (h : EV H v x) : ∃ b, v = .ref b ∧ H b = some (.tup ((kE x).map kV)) := by
  obtain ⟨b, e, h⟩ := h
  exact ⟨b, e, by rw [kE_map]; exact h⟩
/-- sorted without twins: ascending -/
theorem asc_of {l m : List Oh.El} (hp : l.Perm m) (hn : m.Nodup) (hs : l.Pairwise fun x y => Oh.ltE y x = false) : Oh.Asc l := by
  have hn' : l.Nodup := hp.nodup_iff.mpr hn
  refine List.Pairwise.imp₂ (fun {x y} (h1 : Oh.ltE y x = false) (h2 : x ≠ y) => ?_) hs hn'
  rcases Oh.ltE_tri x y with h | h | h
  · exact h
  · exact absurd h h2
  · rw [h1] at h
    cases h
/-- elements of one group, without twins: few -/
theorem few_of {G : List Int} (h : OkG G) {l : List Oh.El} (hn : l.Nodup) (hm : ∀ x ∈ l, Oh.MemE G x) : l.length ≤ 64 := Nat.le_trans (Oh.members_few h.pos hn hm) h.prod
end OhL

set_option Elab.async false
set_option linter.all false
set_option maxRecDepth 100000
set_option maxHeartbeats 4000000
/-! groups: is_integer, zero_of, is_member, lengthened, group_members, added, repeated, kills -/
namespace OhL
open PySem PySem.Spec PyProof.Rows L2
section
variable {P : Program} {w : World} {K : PySem.W.Frag} {mg : Str → Option Value} {base : Heap}

/-! ### is_integer -/
abbrev sIsInt : Stmt := top 2
abbrev nIsInt : List Str := ["value"]
theorem scIsInt : FnScope nIsInt ["value"] (defScope sIsInt) := ⟨rfl, rfl, rfl, by decide +kernel, rfl, by decide +kernel, by decide +kernel⟩
def spIsInt : Sp := fun vs H Q _ => ∃ i : Int, vs = [.int i] ∧ Q (.bl true) H
theorem ok_isInt (T : Glob mg) (h : Here K mg "is_integer" sIsInt ["value"]) : Kept P w K mg base 1 "is_integer" ["value"] spIsInt := by
  refine kept_of h scIsInt (fun vs H Q E h => ?_) (fun f cdv A outer s H vs Q E hr h => ?_)
  · obtain ⟨i, rfl, _⟩ := h
    rfl
  · obtain ⟨i, rfl, q⟩ := h
    refine ⟨_, pss_one (ps_ret (pe_and (pe_callB call_isi (by rfl) T.isinstance (by decide +kernel) (pa_cons (pv 0) (pa_cons (pe_bltn (v := .ty "int") (by rfl) T.int (by decide +kernel) rfl) pa_nil)))
      (pe_one (pe_not (pe_callB call_isi (by rfl) T.isinstance (by decide +kernel) (pa_cons (pv 0) (pa_cons (pe_bltn (v := .ty "bool") (by rfl) T.bool (by decide +kernel) rfl) pa_nil))))))), ?_⟩
    refine ⟨_, rfl, _, _, _, _, true, rfl, .ty _, .base (.int i), kit_ty (by decide +kernel), true, rfl, ?_⟩
    exact ⟨_, rfl, _, _, _, _, false, rfl, .ty _, .base (.int i), kit_ty (by decide +kernel), false, rfl, q⟩

/-! ### zero_of -/
abbrev sZero : Stmt := top 4
abbrev nZero : List Str := ["group"]
theorem scZero : FnScope nZero ["group"] (defScope sZero) := ⟨rfl, rfl, rfl, by decide +kernel, rfl, by decide +kernel, by decide +kernel⟩
def spZero : Sp := fun vs H Q _ => ∃ (G : List Int) (g : V), vs = [g] ∧ EV H g G ∧ 1 ≤ G.length ∧ G.length ≤ 1000 ∧ ∀ v H', Same H H' → EV H' v (Oh.zeroE G) → Q v H'
theorem zero_rep (G : List Int) : (List.replicate (((G.map V.int).length : Nat) : Int).toNat [V.int 0]).flatten = (Oh.zeroE G).map V.int := by
  rw [Int.toNat_natCast, List.length_map]
  unfold Oh.zeroE
  induction G with
  | nil => rfl
  | cons m G ih =>
    rw [List.length_cons, List.replicate_succ, List.flatten_cons, ih]
    rfl
theorem ok_zero (T : Glob mg) (h : Here K mg "zero_of" sZero ["group"]) : Kept P w K mg base 1 "zero_of" ["group"] spZero := by
  refine kept_of h scZero (fun vs H Q E h => ?_) (fun f cdv A outer s H vs Q E hr h => ?_)
  · obtain ⟨G, g, rfl, _⟩ := h
    rfl
  · obtain ⟨G, g, rfl, ⟨gA, rfl, hg⟩, h1, h2, q⟩ := h
    refine ⟨_, pss_one (ps_ret (pe_op (op_mulOne.or op_repT) (pe_tup (pa_cons pe_int pa_nil)) (pe_callB call_len_seq (by rfl) T.len PySem.boot_len (pa_cons (pv 0) pa_nil)))), ?_⟩
    refine ⟨by show 1 ≤ sizeLine; decide, fun p hp => ⟨_, rfl, gA, _, rfl, .inr (SqT.of (sm_new hp _ _ hg)), ?_⟩⟩
    by_cases e : G.length = 1
    · refine .inl ⟨p, _, rfl, by rw [List.length_map, e]; rfl, SqT.of upd_same, q _ _ (sm_new hp) ⟨p, rfl, ?_⟩⟩
      rw [upd_same, ← zero_rep, List.length_map, e]
      rfl
    · refine .inr ⟨p, _, _, rfl, rfl, SqT.of upd_same, by simp, by rw [List.length_map]; omega, by rw [List.length_map]; omega, by simp, fun p2 hp2 => q _ _ (L2.Same.trans (sm_new hp) (sm_new hp2)) ⟨p2, rfl, ?_⟩⟩
      rw [upd_same, zero_rep]

/-! ### added -/
abbrev sAdded : Stmt := top 8
abbrev nAdded : List Str := ["group", "member", "other", "one", "two", "modulus"]
theorem scAdded : FnScope nAdded ["group", "member", "other"] (defScope sAdded) := ⟨rfl, rfl, rfl, by decide +kernel, rfl, by decide +kernel, by decide +kernel⟩
def spAdded : Sp := fun vs H Q _ => ∃ (G : List Int) (x y : Oh.El) (g a b : V), vs = [g, a, b] ∧ Oh.Pos G ∧ EV H g G ∧ EV H a x ∧ EV H b y ∧ x.length = G.length ∧ y.length = G.length ∧ G.length ≤ 1000 ∧
  ∀ v H', Same H H' → EV H' v (Oh.addE G x y) → Q v H'
theorem ok_added (T : Glob mg) (h : Here K mg "added" sAdded ["group", "member", "other"]) : Kept P w K mg base 1 "added" ["group", "member", "other"] spAdded := by
  refine kept_of h scAdded (fun vs H Q E h => ?_) (fun f cdv A outer s H vs Q E hr h => ?_)
  · obtain ⟨G, x, y, g, a, b, rfl, _⟩ := h
    rfl
  · obtain ⟨G, x, y, g, a, b, rfl, hp, ⟨gA, rfl, hg⟩, ⟨aA, rfl, ha⟩, ⟨bA, rfl, hb⟩, lx, ly, lG, q⟩ := h
    refine ⟨_, pss_one (ps_ret (pe_callTy call_tuple_of (by rfl) T.tuple (by decide +kernel) (pa_cons (pe_lc (own := [("one", 3), ("two", 4), ("modulus", 5)]) (g := gTup K 3 (gCons (gName 3) (gCons (gName 4) (gCons (gName 5) gNil)))) (tt := tYes) rfl scAdded.nd
      (pi_zip3 (by rfl) T.zip (pa_cons (pv 1) (pa_cons (pv 2) (pa_cons (pv 0) pa_nil)))) (blkOk_by (N := nAdded) (sc := defScope sAdded) (by decide +kernel))
      (fun _ _ _ _ _ => pg_tup rfl (pgs_cons (pg_name (i := 3) scAdded.nd rfl (Or.inl rfl)) (pgs_cons (pg_name (i := 4) scAdded.nd rfl (Or.inl rfl)) (pgs_cons (pg_name (i := 5) scAdded.nd rfl (Or.inl rfl)) pgs_nil))))
      (fun _ _ _ _ _ => pts_nil) (fun _ _ _ _ _ => pe_op op_modN (pe_op op_add (pv 3) (pv 4)) (pv 5))) pa_nil))), ?_⟩
    refine ⟨_, rfl, _, rfl, _, rfl, _, _, _, _, _, _, rfl, SqT.of ha, SqT.of hb, SqT.of hg, fun D hD => ?_⟩
    refine lc_pure (walk_zip3 (n := G.length) (by simp [lx]) (by simp [ly]) (by simp)) (by omega) hD (fun _ => true) (fun i y' _ => y' = V.int ((x.getD i 0 + y.getD i 0) % G.getD i 0)) (fun _ _ _ _ _ r => r)
      (fun H1 s => ⟨SqT.of (s _ _ ha), SqT.of (s _ _ hb), SqT.of (s _ _ hg)⟩) (fun i t H1 H2 hi s1 hy Q1 Q0 k1 k0 => ?_) (fun ys H1 s1 hD1 hp1 => ?_)
    · obtain ⟨t, u, v, z, rfl, ht, rfl, h1, h2, h3⟩ := hy
      obtain rfl := at_int h1
      obtain rfl := at_int h2
      obtain rfl := at_int h3
      have m0 := hp _ (Oh.getD_mem hi)
      refine ⟨t, _, rfl, SqT.of upd_same, rfl, _, _, rfl, _, _, rfl, _, _, rfl, rfl, rfl, _, rfl, _, rfl, _, _, rfl, rfl, _, rfl, _, _, rfl, rfl, ?_, k1 _ _ (sm_new ht) rfl ?_⟩
      · rw [getD_01 hi]
        omega
      · rw [getD_01 hi]
        exact vmod m0
    · rw [range_all] at hp1
      have e := paired_fn hp1
      refine ⟨D, ys, rfl, .inl ⟨SqL.of hD1, fun l hl => q _ _ (L2.Same.trans s1 (sm_new hl)) ⟨l, rfl, ?_⟩⟩⟩
      rw [upd_same, e, Oh.addE_ix lx ly, List.map_map]
      rfl

/-! ### repeated -/
abbrev sRep : Stmt := top 9
abbrev nRep : List Str := ["group", "member", "count", "item", "modulus"]
theorem scRep : FnScope nRep ["group", "member", "count"] (defScope sRep) := ⟨rfl, rfl, rfl, by decide +kernel, rfl, by decide +kernel, by decide +kernel⟩
def spRep : Sp := fun vs H Q _ => ∃ (G : List Int) (x : Oh.El) (c : Int) (g a : V), vs = [g, a, .int c] ∧ Oh.Pos G ∧ EV H g G ∧ EV H a x ∧ x.length = G.length ∧ G.length ≤ 1000 ∧ 0 ≤ c ∧ c ≤ 1000000 ∧
  ∀ v H', Same H H' → EV H' v (Oh.repE G x c) → Q v H'
theorem ok_rep (T : Glob mg) (h : Here K mg "repeated" sRep ["group", "member", "count"]) : Kept P w K mg base 1 "repeated" ["group", "member", "count"] spRep := by
  refine kept_of h scRep (fun vs H Q E h => ?_) (fun f cdv A outer s H vs Q E hr h => ?_)
  · obtain ⟨G, x, c, g, a, rfl, _⟩ := h
    rfl
  · obtain ⟨G, x, c, g, a, rfl, hp, ⟨gA, rfl, hg⟩, ⟨aA, rfl, ha⟩, lx, lG, c0, c1, q⟩ := h
    refine ⟨_, pss_one (ps_ret (pe_callTy call_tuple_of (by rfl) T.tuple (by decide +kernel) (pa_cons (pe_lc (own := [("item", 3), ("modulus", 4)]) (g := gTup K 2 (gCons (gName 3) (gCons (gName 4) gNil))) (tt := tYes) rfl scRep.nd
      (RZ.pi_zipA (by rfl) T.zip (pa_cons (pv 1) (pa_cons (pv 0) pa_nil))) (blkOk_by (N := nRep) (sc := defScope sRep) (by decide +kernel))
      (fun _ _ _ _ _ => pg_tup rfl (pgs_cons (pg_name (i := 3) scRep.nd rfl (Or.inl rfl)) (pgs_cons (pg_name (i := 4) scRep.nd rfl (Or.inl rfl)) pgs_nil)))
      (fun _ _ _ _ _ => pts_nil) (fun _ _ _ _ _ => pe_op op_modN (pe_op op_mul (pv 3) (pv 2)) (pv 4))) pa_nil))), ?_⟩
    refine ⟨_, rfl, _, rfl, _, _, _, _, rfl, .inr ⟨SqT.of ha, SqT.of hg, fun D hD => ?_⟩⟩
    refine lc_pure (walk_zipT (n := G.length) (by simp [lx]) (by simp)) (by omega) hD (fun _ => true) (fun i y' _ => y' = V.int ((x.getD i 0 * c) % G.getD i 0)) (fun _ _ _ _ _ r => r)
      (fun H1 s => ⟨SqT.of (s _ _ ha), SqT.of (s _ _ hg)⟩) (fun i t H1 H2 hi s1 hy Q1 Q0 k1 k0 => ?_) (fun ys H1 s1 hD1 hp1 => ?_)
    · obtain ⟨t, u, v, rfl, ht, rfl, h1, h2⟩ := hy
      obtain rfl := at_int h1
      obtain rfl := at_int h2
      have m0 := hp _ (Oh.getD_mem hi)
      refine ⟨t, _, rfl, SqT.of upd_same, rfl, _, _, rfl, _, _, rfl, rfl, rfl, _, rfl, _, rfl, _, _, rfl, rfl, .inr ⟨by omega, by omega⟩, _, rfl, _, _, rfl, rfl, ?_, k1 _ _ (sm_new ht) rfl ?_⟩
      · rw [getD_01 hi]
        omega
      · rw [getD_01 hi]
        exact vmod m0
    · rw [range_all] at hp1
      have e := paired_fn hp1
      refine ⟨D, ys, rfl, .inl ⟨SqL.of hD1, fun l hl => q _ _ (L2.Same.trans s1 (sm_new hl)) ⟨l, rfl, ?_⟩⟩⟩
      rw [upd_same, e, Oh.repE_ix lx, List.map_map]
      rfl
end
end OhL

set_option Elab.async false
set_option linter.all false
set_option maxRecDepth 100000
set_option maxHeartbeats 4000000
/-! groups: lengthened, group_members, kills, is_member -/
namespace OhL
open PySem PySem.Spec PyProof.Rows L2
theorem map_get {α : Type} {l : List α} {f : α → V} {i : Nat} {z : V} (h : (l.map f)[i]? = some z) : ∃ y, l[i]? = some y ∧ z = f y := by
  rw [List.getElem?_map] at h
  cases e : l[i]? with
  | none => rw [e] at h; cases h
  | some u => rw [e] at h; exact ⟨u, rfl, (Option.some.inj h).symm⟩
theorem take_succ_get {α : Type} {l : List α} {i : Nat} {x : α} (h : l[i]? = some x) : l.take (i + 1) = l.take i ++ [x] := by rw [List.take_add_one, h]; rfl
theorem Oh_ix : ∀ {G : List Int} {x : Oh.El} {i : Nat}, Oh.MemE G x → i < G.length → 0 ≤ x.getD i 0 ∧ x.getD i 0 < G.getD i 0
  | m :: G, [], i, h, _ => h.elim
  | m :: G, a :: x, 0, h, _ => h.1
  | m :: G, a :: x, i + 1, h, hi => Oh_ix (G := G) (x := x) (i := i) h.2 (Nat.lt_of_succ_lt_succ hi)
theorem ext_snoc (rows : List Oh.El) (r : Oh.El) (m : Int) : Oh.extE (rows ++ [r]) m = Oh.extE rows m ++ (List.range m.toNat).map fun (k : Nat) => r ++ [(k : Int)] := by simp [Oh.extE]
theorem foldl_le : ∀ (l : List Nat) (a : Nat), (∀ m ∈ l, m ≤ 64) → l.foldl (· * ·) a ≤ a * 64 ^ l.length
  | [], a, _ => by simp
  | m :: l, a, h => by
    have h1 := foldl_le l (a * m) fun k hk => h k (List.mem_cons_of_mem _ hk)
    have h2 := h m List.mem_cons_self
    rw [List.foldl_cons, List.length_cons, Nat.pow_succ]
    have h3 : a * m * 64 ^ l.length ≤ a * 64 * 64 ^ l.length := Nat.mul_le_mul_right _ (Nat.mul_le_mul_left _ h2)
    have h4 : a * 64 * 64 ^ l.length = a * (64 ^ l.length * 64) := by rw [Nat.mul_assoc, Nat.mul_comm 64]
    omega
theorem part_len {G : List Int} (h : OkG G) {i : Nat} (hi : i ≤ G.length) : ((G.take i).foldl Oh.extE [[]]).length ≤ 64 ^ i := by
  rw [Oh.members_len_gen]
  have := foldl_le ((G.take i).map Int.toNat) 1 fun m hm => by
    obtain ⟨k, hk, rfl⟩ := List.mem_map.mp hm
    have := (h.each k (List.mem_of_mem_take hk)).2
    omega
  rw [List.length_map, List.length_take, Nat.min_eq_left hi, Nat.one_mul] at this
  exact this
section
variable {P : Program} {w : World} {K : PySem.W.Frag} {mg : Str → Option Value} {base : Heap}

/-! ### lengthened -/
abbrev sLen : Stmt := top 6
abbrev nLen : List Str := ["rows", "many", "found", "row", "item"]
theorem scLen : FnScope nLen ["rows", "many"] (defScope sLen) := ⟨rfl, rfl, rfl, by decide +kernel, rfl, by decide +kernel, by decide +kernel⟩
def spLen : Sp := fun vs H Q _ => ∃ (nss : List Oh.El) (m : Int) (r : V), vs = [r, .int m] ∧ EL H r nss ∧ 0 ≤ m ∧ m ≤ 64 ∧ nss.length ≤ 5000 ∧ (∀ x ∈ nss, x.length ≤ 1000) ∧ ∀ v H', Same H H' → EL H' v (Oh.extE nss m) → Q v H'
theorem ok_len (T : Glob mg) (h : Here K mg "lengthened" sLen ["rows", "many"]) : Kept P w K mg base 1 "lengthened" ["rows", "many"] spLen := by
  refine kept_of h scLen (fun vs H Q E h => ?_) (fun f cdv A outer s H vs Q E hr h => ?_)
  · obtain ⟨nss, m, r, rfl, _⟩ := h
    rfl
  · obtain ⟨nss, m, r, rfl, ⟨rA, xs, rfl, hr0, hx⟩, m0, m1, lN, lX, q⟩ := h
    refine ⟨_, pss_cons (ps_set (i := 2) scLen.nd rfl (Or.inl rfl) (pe_lst pa_nil)) (pss_cons (ps_for PassesOwn.never rfl (pi_list (pv 0)) (pg_name (i := 3) scLen.nd rfl (Or.inr rfl))
      (pss_one (ps_expr (pe_bm PySem.F.plainAttrs_list PySem.F.slot_list_extend PySem.F.type_list_extend mt_extend (pv 2) (pa_cons (pe_lc (own := [("item", 4)]) (g := gName 4) (tt := tYes) (te := tTup (StX.tStar K (tVar 3) (tCons (tVar 4) tNil))) rfl scLen.nd
        (pi_range1 (by rfl) T.range (pa_cons (pv 1) pa_nil)) (blkOk_by (N := nLen) (sc := defScope sLen) (by decide +kernel)) (fun _ _ _ _ _ => pg_name (i := 4) scLen.nd rfl (Or.inl rfl)) (fun _ _ _ _ _ => pts_nil)
        (fun _ _ _ _ _ => pe_tup (StX.pa_star (pv 3) (pa_cons (pv 4) pa_nil)))) pa_nil)))))
      (pss_one (ps_ret (pv 2)))), ?_⟩
    refine ⟨Nat.zero_le _, fun l hl => ?_⟩
    refine ⟨_, rfl, rA, rfl, ⟨_, SqL.of (sm_new hl _ _ hr0)⟩, for_list (K := K) (a := rA) (xs := xs) (fun i σ H' => ∃ (v3 v4 : Option V) (ys : List V), σ = [some (.ref rA), some (.int m), some (.ref l), v3, v4] ∧ Same H H' ∧ H' l = some (.lst ys) ∧ Els H' ys (Oh.extE (nss.take i) m))
      ⟨none, none, [], rfl, sm_new hl, upd_same, by exact .nil⟩ (fun i σ H' _ ⟨_, _, _, _, s, _⟩ => SqL.of (s _ _ hr0)) ?_ ?_⟩
    · rintro i x σ H1 hi ⟨v3, v4, ys, rfl, s1, hl1, hy⟩
      obtain ⟨n, hn, hx1⟩ := Paired.get hx hi
      obtain ⟨xA, rfl, hxA⟩ := hx1.mono (tk s1)
      have ln : n.length ≤ 1000 := lX n (List.mem_of_getElem? hn)
      refine ⟨_, rfl, .inl ⟨rfl, _, SqL.of hl1⟩, _, rfl, m, rfl, by omega, by omega, fun D hD => ?_⟩
      refine lc_pure walk_range (by omega) hD (fun _ => true) (fun k y H' => EV H' y (n ++ [(k : Int)])) (fun _ _ _ _ t r => r.mono t) (fun _ _ => trivial) (fun k z H2 H3 hk s2 hz Q1 Q0 k1 k0 => ?_) (fun zs H2 s2 hD2 hz => ?_)
      · obtain ⟨rfl, rfl⟩ := hz
        refine ⟨rfl, _, rfl, xA, _, rfl, .inl (SqT.of (s2 _ _ hxA)), _, rfl, ?_, fun p hp => k1 _ _ (sm_new hp) rfl ⟨p, rfl, ?_⟩⟩
        · have := line_big (n := n.length + 1) (by omega)
          rw [List.length_append, List.length_map]
          exact Nat.le_of_lt this
        · have e0 : V.int (0 + (k : Int)) = V.int (k : Int) := by rw [Int.zero_add]
          rw [upd_same, List.map_append]
          show some (HO.tup (List.map V.int n ++ [V.int (0 + (k : Int))])) = _
          rw [e0]
          rfl
      · rw [range_all] at hz
        have lys := Paired.length hy
        have lzs := Paired.length hz
        rw [List.length_range] at lzs
        have lt : (Oh.extE (nss.take i) m).length ≤ 5000 * 64 := by
          rw [Oh.ext_len]
          have h1 : (nss.take i).length ≤ 5000 := by rw [List.length_take]; omega
          exact Nat.mul_le_mul h1 (by omega)
        refine ⟨l, D, ys, zs, rfl, rfl, s2 _ _ hl1, hD2, Nat.le_of_lt (line_big (by omega)), ?_⟩
        have nt : Tk H2 (upd H2 l (.lst (ys ++ zs))) := (Tk.refl H2).upd (not_tup (s2 _ _ hl1))
        refine ⟨_, v4, ys ++ zs, rfl, sm_upd (L2.Same.trans s1 s2) hl, upd_same, ?_⟩
        rw [take_succ_get hn, ext_snoc]
        refine Paired.append (Els.mono ((tk s2).trans nt) hy) ?_
        have conv : ∀ {zs' : List V} {l' : List Nat}, Paired (fun y (k : Nat) => EV H2 y (n ++ [(k : Int)])) zs' l' → Els (upd H2 l (.lst (ys ++ zs))) zs' (l'.map fun (k : Nat) => n ++ [(k : Int)]) := by
          intro zs' l' p
          induction p with
          | nil => exact .nil
          | cons r _ ih => exact .cons (r.mono nt) ih
        exact conv hz
    · rintro σ H1 ⟨v3, v4, ys, rfl, s1, hl1, hy⟩
      refine ⟨_, rfl, q _ _ s1 ⟨l, ys, rfl, hl1, ?_⟩⟩
      have e : xs.length = nss.length := Paired.length hx
      rw [e, List.take_length] at hy
      exact hy

/-! ### group_members -/
abbrev sMem : Stmt := top 7
abbrev nMem : List Str := ["group", "found", "modulus"]
theorem scMem : FnScope nMem ["group"] (defScope sMem) := ⟨rfl, rfl, rfl, by decide +kernel, rfl, by decide +kernel, by decide +kernel⟩
def spMem : Sp := fun vs H Q _ => ∃ (G : List Int) (g : V), vs = [g] ∧ OkG G ∧ EV H g G ∧ ∀ v H', Same H H' → ET H' v (Oh.membersE G) → Q v H'
theorem part_lens {G : List Int} (h : OkG G) (i : Nat) : ∀ x ∈ (G.take i).foldl Oh.extE [[]], x.length ≤ 3 := fun x hx => by
  have hp : Oh.Pos (G.take i) := fun m hm => h.pos m (List.mem_of_mem_take hm)
  have := ((Oh.mem_members hp x).mp hx).len
  rw [List.length_take] at this
  have := h.few
  omega
theorem ok_mem (T : Glob mg) (cL : Kept P w K mg base 1 "lengthened" ["rows", "many"] spLen) (h : Here K mg "group_members" sMem ["group"]) : Kept P w K mg base 2 "group_members" ["group"] spMem := by
  refine kept_of h scMem (fun vs H Q E h => ?_) (fun f cdv A outer s H vs Q E hr h => ?_)
  · obtain ⟨G, g, rfl, _⟩ := h
    rfl
  · obtain ⟨G, g, rfl, ok, ⟨gA, rfl, hg⟩, q⟩ := h
    refine ⟨_, pss_cons (ps_set (i := 1) scMem.nd rfl (Or.inl rfl) (pe_lst (pa_cons (pe_tup pa_nil) pa_nil))) (pss_cons (ps_for PassesOwn.never rfl (pi_tup (pv 0)) (pg_name (i := 2) scMem.nd rfl (Or.inl rfl))
      (pss_one (ps_set (i := 1) scMem.nd rfl (Or.inl rfl) (pe_k cL hr (by decide) (by rfl) (pa_cons (pv 1) (pa_cons (pv 2) pa_nil))))))
      (pss_one (ps_ret (pe_callTy call_tuple_of (by rfl) T.tuple (by decide +kernel) (pa_cons (pv 1) pa_nil))))), ?_⟩
    refine ⟨Nat.zero_le _, fun p hp => ⟨by show 1 ≤ sizeLine; decide, fun l hl => ?_⟩⟩
    have s0 : Same H (upd (upd H p (.tup [])) l (.lst [.ref p])) := L2.Same.trans (sm_new hp) (sm_new hl)
    refine ⟨_, rfl, gA, rfl, ⟨_, SqT.of (s0 _ _ hg)⟩, for_tup (K := K) (a := gA) (xs := G.map V.int) (fun i σ H' => ∃ (v : V) (v2 : Option V), σ = [some (.ref gA), some v, v2] ∧ Same H H' ∧ EL H' v ((G.take i).foldl Oh.extE [[]]))
      ⟨.ref l, none, rfl, s0, l, _, rfl, upd_same, .cons ⟨p, rfl, by rw [upd_ne (ne_of_none upd_same hl), upd_same]; rfl⟩ .nil⟩ (fun i σ H' _ ⟨_, _, _, s, _⟩ => SqT.of (s _ _ hg)) ?_ ?_⟩
    · rintro i x σ H1 hi ⟨v, v2, rfl, s1, hv⟩
      obtain ⟨m, hm, rfl⟩ := map_get hi
      have mm := ok.each m (List.mem_of_getElem? hm)
      have hlt := (List.getElem?_eq_some_iff.mp hm).1
      have f := ok.few
      have pl : ((G.take i).foldl Oh.extE [[]]).length ≤ 5000 := by
        refine Nat.le_trans (part_len ok (by omega)) (Nat.le_trans (Nat.pow_le_pow_right (by decide) (show i ≤ 2 by omega)) (by decide))
      refine ⟨_, rfl, _, rfl, _, m, v, rfl, hv, by omega, by omega, pl, fun x hx => by have := part_lens ok i x hx; omega, fun r H2 s2 h2 => ?_⟩
      refine ⟨r, _, rfl, L2.Same.trans s1 s2, ?_⟩
      rw [take_succ_get hm, List.foldl_append]
      exact h2
    · rintro σ H1 ⟨v, v2, rfl, s1, ⟨a, xs, rfl, hx, he⟩⟩
      rw [List.length_map, List.take_length] at he
      refine ⟨_, rfl, a, xs, rfl, .inl ⟨SqL.of hx, fun t ht => q _ _ (L2.Same.trans s1 (sm_new ht)) ⟨t, xs, rfl, upd_same, Els.mono (tk (sm_new ht)) he⟩⟩⟩

/-! ### kills -/
abbrev sKills : Stmt := top 11
abbrev nKills : List Str := ["group", "character", "member", "whole", "modulus", "parts", "one", "two"]
theorem scKills : FnScope nKills ["group", "character", "member"] (defScope sKills) := ⟨rfl, rfl, rfl, by decide +kernel, rfl, by decide +kernel, by decide +kernel⟩
def spKills : Sp := fun vs H Q _ => ∃ (G : List Int) (c x : Oh.El) (g a b : V), vs = [g, a, b] ∧ OkG G ∧ EV H g G ∧ EV H a c ∧ EV H b x ∧ Oh.MemE G c ∧ Oh.MemE G x ∧ ∀ H', Same H H' → Q (.bl (Oh.killsE G c x)) H'
theorem lcm_le : ∀ (G : List Int) (a : Int), 0 < a → (∀ m ∈ G, 2 ≤ m ∧ m ≤ 64) → 0 < G.foldl Oh.lcmI a ∧ G.foldl Oh.lcmI a ≤ a * 64 ^ G.length
  | [], a, h, _ => by simp; omega
  | m :: G, a, h, hm => by
    have h2 := hm m List.mem_cons_self
    have l0 : 0 < a.natAbs.lcm m.natAbs := Nat.lcm_pos (by omega) (by omega)
    have l1 : a.natAbs.lcm m.natAbs ≤ a.natAbs * m.natAbs := PySem.W.mc_lcm_le _ _
    have l2 : Oh.lcmI a m ≤ a * m := by
      unfold Oh.lcmI
      have : ((a.natAbs.lcm m.natAbs : Nat) : Int) ≤ ((a.natAbs * m.natAbs : Nat) : Int) := by omega
      rw [Int.natCast_mul, Int.natAbs_of_nonneg (by omega), Int.natAbs_of_nonneg (by omega)] at this
      exact this
    have l3 : 0 < Oh.lcmI a m := by unfold Oh.lcmI; omega
    obtain ⟨p1, p2⟩ := lcm_le G (Oh.lcmI a m) l3 fun k hk => hm k (List.mem_cons_of_mem _ hk)
    rw [List.foldl_cons]
    refine ⟨p1, Int.le_trans p2 ?_⟩
    rw [List.length_cons, Int.pow_succ]
    have p0 : (0 : Int) ≤ 64 ^ G.length := Int.le_of_lt (Int.pow_pos (by decide))
    have q1 : Oh.lcmI a m * 64 ^ G.length ≤ a * m * 64 ^ G.length := Int.mul_le_mul_of_nonneg_right l2 p0
    have q2 : a * m ≤ a * 64 := Int.mul_le_mul_of_nonneg_left h2.2 (by omega)
    have q3 : a * m * 64 ^ G.length ≤ a * 64 * 64 ^ G.length := Int.mul_le_mul_of_nonneg_right q2 p0
    have q4 : a * 64 * 64 ^ G.length = a * (64 ^ G.length * 64) := by rw [Int.mul_assoc, Int.mul_comm 64]
    omega
theorem dot_ix (W : Int) : ∀ {G : List Int} {c x : Oh.El}, c.length = G.length → x.length = G.length → Oh.dotE W G c x = ((List.range G.length).map fun i => c.getD i 0 * x.getD i 0 * (W / G.getD i 0)).sum
  | [], [], [], _, _ => rfl
  | m :: G, c0 :: c, x0 :: x, hc, hx => by
    rw [List.length_cons, List.range_succ_eq_map, List.map_cons, List.map_map, List.sum_cons]
    show c0 * x0 * (W / m) + Oh.dotE W G c x = _
    rw [dot_ix W (G := G) (c := c) (x := x) (by simpa using hc) (by simpa using hx)]
    rfl
theorem mem_le {G : List Int} {x : Oh.El} (ok : OkG G) (h : Oh.MemE G x) {i : Nat} (hi : i < G.length) : 0 ≤ x.getD i 0 ∧ x.getD i 0 < 64 := by
  have h1 := Oh_ix h hi
  have h2 := ok.le hi
  omega
theorem vfdiv {a m : Int} (h : 0 < m) : V.int (a.fdiv m) = V.int (a / m) := by rw [Int.fdiv_eq_ediv_of_nonneg _ (Int.le_of_lt h)]
theorem ok_kills (T : Glob mg) (h : Here K mg "kills" sKills ["group", "character", "member"]) : Kept P w K mg base 1 "kills" ["group", "character", "member"] spKills := by
  refine kept_of h scKills (fun vs H Q E h => ?_) (fun f cdv A outer s H vs Q E hr h => ?_)
  · obtain ⟨G, c, x, g, a, b, rfl, _⟩ := h
    rfl
  · obtain ⟨G, c, x, g, a, b, rfl, ok, ⟨gA, rfl, hg⟩, ⟨aA, rfl, ha⟩, ⟨bA, rfl, hb⟩, mc, mx, q⟩ := h
    have lc := mc.len
    have lx := mx.len
    refine ⟨_, pss_cons (ps_set (i := 3) scKills.nd rfl (Or.inr rfl) pe_int) (pss_cons (ps_for PassesOwn.never rfl (pi_tup (pv 0)) (pg_name (i := 4) scKills.nd rfl (Or.inl rfl))
      (pss_one (ps_set (i := 3) scKills.nd rfl (Or.inr rfl) (pe_callBfun cr_lcm (by rfl) T.lcm (pa_cons (pv 3) (pa_cons (pv 4) pa_nil))))))
      (pss_cons (ps_setLc (i := 5) (own := [("one", 6), ("two", 7), ("modulus", 4)]) (g := gTup K 3 (gCons (gName 6) (gCons (gName 7) (gCons (gName 4) gNil)))) (tt := tYes) rfl scKills.nd rfl rfl (sw_true rfl rfl rfl (by decide +kernel))
        (pi_zip3 (by rfl) T.zip (pa_cons (pv 1) (pa_cons (pv 2) (pa_cons (pv 0) pa_nil)))) (blkOk_by (N := nKills) (sc := defScope sKills) (by decide +kernel))
        (fun _ _ _ _ _ => pg_tup rfl (pgs_cons (pg_name (i := 6) scKills.nd rfl (Or.inl rfl)) (pgs_cons (pg_name (i := 7) scKills.nd rfl (Or.inl rfl)) (pgs_cons (pg_name (i := 4) scKills.nd rfl (Or.inl rfl)) pgs_nil))))
        (fun _ _ _ _ _ => pts_nil) (fun _ _ _ _ _ => pe_op op_mul (pe_op op_mul (pv 6) (pv 7)) (pe_op op_fdivN (pv 3) (pv 4))))
      (pss_one (ps_ret (pe_cmpR op_eq (pe_op op_modN (pe_callB (cr_sum rfl) (by rfl) T.sum (by decide +kernel) (pa_cons (pv 5) pa_nil)) (pv 3)) pe_int (nomark _)))))), ?_⟩
    refine ⟨_, rfl, gA, rfl, ⟨_, SqT.of hg⟩, for_tup (K := K) (a := gA) (xs := G.map V.int) (fun i σ H' => ∃ (v4 : Option V), σ = [some (.ref gA), some (.ref aA), some (.ref bA), some (.int ((G.take i).foldl Oh.lcmI 1)), v4, none, none, none] ∧ Same H H')
      ⟨none, rfl, L2.Same.refl H⟩ (fun i σ H' _ ⟨_, _, s⟩ => SqT.of (s _ _ hg)) ?_ ?_⟩
    · rintro i x σ H1 hi ⟨v4, rfl, s1⟩
      obtain ⟨m, hm, rfl⟩ := map_get hi
      have mm := ok.each m (List.mem_of_getElem? hm)
      have b1 := lcm_le (G.take i) 1 (by decide) fun k hk => ok.each k (List.mem_of_mem_take hk)
      have b2 : (64 : Int) ^ (G.take i).length ≤ 64 ^ 3 := by
        have : (G.take i).length ≤ 3 := by have := ok.few; rw [List.length_take]; omega
        exact_mod_cast Nat.pow_le_pow_right (by decide : 0 < 64) this
      refine ⟨_, rfl, _, rfl, _, _, rfl, by omega, by omega, some (.int m), ?_, s1⟩
      rw [take_succ_get hm, List.foldl_append]
      rfl
    · rintro σ H1 ⟨v4, rfl, s1⟩
      rw [List.length_map, List.take_length]
      show tSeq _ _ _ [some (V.ref gA), some (V.ref aA), some (V.ref bA), some (V.int (Oh.lcmE G)), v4, none, none, none] H1
      obtain ⟨w0, wd, _⟩ := Oh.lcmE_facts ok.pos
      refine ⟨_, rfl, _, rfl, _, rfl, _, _, _, _, _, _, rfl, SqT.of (s1 _ _ ha), SqT.of (s1 _ _ hb), SqT.of (s1 _ _ hg), fun D hD => ?_⟩
      refine lc_pure (walk_zip3 (n := G.length) (by simp [lc]) (by simp [lx]) (by simp)) (by have := ok.few; omega) hD (fun _ => true) (fun i y' _ => y' = V.int (c.getD i 0 * x.getD i 0 * (Oh.lcmE G / G.getD i 0))) (fun _ _ _ _ _ r => r)
        (fun H2 s => ⟨SqT.of (s _ _ (s1 _ _ ha)), SqT.of (s _ _ (s1 _ _ hb)), SqT.of (s _ _ (s1 _ _ hg))⟩) (fun i t H2 H3 hi s2 hy Q1 Q0 k1 k0 => ?_) (fun ys H2 s2 hD2 hp2 => ?_)
      · obtain ⟨t, u, v, z, rfl, ht, rfl, h1, h2, h3⟩ := hy
        obtain rfl := at_int h1
        obtain rfl := at_int h2
        obtain rfl := at_int h3
        have m0 := ok.le hi
        have c0 := mem_le ok mc hi
        have x0 := mem_le ok mx hi
        have cx0 : 0 ≤ c.getD i 0 * x.getD i 0 := Int.mul_nonneg c0.1 x0.1
        have cx1 : c.getD i 0 * x.getD i 0 ≤ 64 * 64 := Int.mul_le_mul (by omega) (by omega) x0.1 (by decide)
        refine ⟨t, _, rfl, SqT.of upd_same, rfl, _, _, rfl, _, _, rfl, _, _, rfl, rfl, rfl, _, rfl, _, rfl, _, _, rfl, rfl, .inl ⟨by omega, by omega⟩, _, rfl, _, rfl, _, _, rfl, rfl, ⟨by omega, by omega⟩, _, _, rfl, rfl, .inl ⟨by omega, by omega⟩, k1 _ _ (sm_new ht) rfl ?_⟩
        show V.int (c.getD i 0 * x.getD i 0 * (Oh.lcmE G).fdiv (G.getD i 0)) = _
        rw [Int.fdiv_eq_ediv_of_nonneg _ (by omega)]
      · rw [range_all] at hp2
        have e := paired_fn hp2
        have e2 : ys = ((List.range G.length).map fun i => c.getD i 0 * x.getD i 0 * (Oh.lcmE G / G.getD i 0)).map V.int := by rw [e, List.map_map]; rfl
        rw [e2] at hD2
        refine ⟨_, rfl, D, _, rfl, SqL.of hD2, _, rfl, _, _, rfl, rfl, by omega, ?_⟩
        refine ⟨rfl, ?_⟩
        rw [← dot_ix (Oh.lcmE G) lc lx]
        have e3 : decide (V.int ((Oh.dotE (Oh.lcmE G) G c x).fmod (Oh.lcmE G)) = V.int 0) = Oh.killsE G c x := by
          rw [← Oh.killsL_eq ok.pos]
          unfold Oh.killsL
          rw [Int.fmod_eq_emod_of_nonneg _ (by omega)]
          by_cases z : Oh.dotE (Oh.lcmE G) G c x % Oh.lcmE G = 0
          · rw [z]
            rfl
          · rw [beq_eq_false_iff_ne.mpr z]
            exact decide_eq_false fun e => z (by injection e)
        show Q (.bl (decide (V.int ((Oh.dotE (Oh.lcmE G) G c x).fmod (Oh.lcmE G)) = V.int 0))) _
        rw [e3]
        exact q _ (L2.Same.trans s1 s2)

/-! ### is_member -/
abbrev sIsMem : Stmt := top 5
abbrev nIsMem : List Str := ["group", "value", "item", "modulus"]
theorem scIsMem : FnScope nIsMem ["group", "value"] (defScope sIsMem) := ⟨rfl, rfl, rfl, by decide +kernel, rfl, by decide +kernel, by decide +kernel⟩
def spIsMem : Sp := fun vs H Q _ => ∃ (G : List Int) (x : Oh.El) (g a : V), vs = [g, a] ∧ OkG G ∧ EV H g G ∧ EV H a x ∧ Oh.MemE G x ∧ ∀ H', Same H H' → Q (.bl true) H'
theorem ok_isMem (T : Glob mg) (cI : Kept P w K mg base 1 "is_integer" ["value"] spIsInt) (h : Here K mg "is_member" sIsMem ["group", "value"]) : Kept P w K mg base 2 "is_member" ["group", "value"] spIsMem := by
  refine kept_of h scIsMem (fun vs H Q E h => ?_) (fun f cdv A outer s H vs Q E hr h => ?_)
  · obtain ⟨G, x, g, a, rfl, _⟩ := h
    rfl
  · obtain ⟨G, x, g, a, rfl, ok, ⟨gA, rfl, hg⟩, ⟨aA, rfl, ha⟩, mx, q⟩ := h
    have lx := mx.len
    refine ⟨_, pss_cons (ps_if (PW.pt (pw_or (pt_not (pt_val (pe_callB call_isi (by rfl) T.isinstance (by decide +kernel) (pa_cons (pv 1) (pa_cons (pe_bltn (v := .ty "tuple") (by rfl) T.tuple (by decide +kernel) rfl) pa_nil)))))
      (pw_or1 (pt_cmpR op_ne (pe_callB call_len_seq (by rfl) T.len PySem.boot_len (pa_cons (pv 1) pa_nil)) (pe_callB call_len_seq (by rfl) T.len PySem.boot_len (pa_cons (pv 0) pa_nil)) (nomark _))))) (pss_one (ps_ret pe_bl)) pss_nil)
      (pss_one (ps_ret (pe_callB (cr_all rfl) (by rfl) T.all (by decide +kernel) (pa_cons (pe_lc (own := [("item", 2), ("modulus", 3)]) (g := gTup K 2 (gCons (gName 2) (gCons (gName 3) gNil))) (tt := tYes) rfl scIsMem.nd
        (RZ.pi_zipA (by rfl) T.zip (pa_cons (pv 1) (pa_cons (pv 0) pa_nil))) (blkOk_by (N := nIsMem) (sc := defScope sIsMem) (by decide +kernel))
        (fun _ _ _ _ _ => pg_tup rfl (pgs_cons (pg_name (i := 2) scIsMem.nd rfl (Or.inl rfl)) (pgs_cons (pg_name (i := 3) scIsMem.nd rfl (Or.inl rfl)) pgs_nil)))
        (fun _ _ _ _ _ => pts_nil) (fun _ _ _ _ _ => pe_and (pe_k cI hr (by decide) (by rfl) (pa_cons (pv 2) pa_nil)) (pe_one (pe_chain op_le op_lt pe_int (pv 2) (pv 3))))) pa_nil)))), ?_⟩
    refine ⟨_, rfl, _, _, _, _, true, rfl, .ty _, .base (.tup ha), kit_ty (by decide +kernel), true, rfl, ?_⟩
    refine ⟨_, rfl, aA, _, rfl, .inr (SqT.of ha), _, rfl, gA, _, rfl, .inr (SqT.of hg), rfl, _, rfl, ?_⟩
    have e1 : (!decide (V.int (((x.map V.int).length : Nat) : Int) = V.int (((G.map V.int).length : Nat) : Int))) = false := by
      rw [List.length_map, List.length_map, lx]
      simp
    refine ite2 (fun z => ?_) (fun _ => ?_)
    · have z' : (!decide (V.int (((x.map V.int).length : Nat) : Int) = V.int (((G.map V.int).length : Nat) : Int))) = true := z
      rw [e1] at z'
      cases z'
    · refine ⟨_, rfl, _, rfl, _, _, _, _, rfl, .inr ⟨SqT.of ha, SqT.of hg, fun D hD => ?_⟩⟩
      refine lc_pure (walk_zipT (n := G.length) (by simp [lx]) (by simp)) (by have := ok.few; omega) hD (fun _ => true) (fun i y' _ => y' = V.bl true) (fun _ _ _ _ _ r => r)
        (fun H1 s => ⟨SqT.of (s _ _ ha), SqT.of (s _ _ hg)⟩) (fun i t H1 H2 hi s1 hy Q1 Q0 k1 k0 => ?_) (fun ys H1 s1 hD1 hp1 => ?_)
      · obtain ⟨t, u, v, rfl, ht, rfl, h1, h2⟩ := hy
        obtain rfl := at_int h1
        obtain rfl := at_int h2
        have b1 : 0 ≤ x.getD i 0 ∧ x.getD i 0 < G.getD i 0 := Oh_ix mx hi
        refine ⟨t, _, rfl, SqT.of upd_same, rfl, _, _, rfl, _, _, rfl, rfl, rfl, _, rfl, _, rfl, true, rfl, ?_⟩
        refine ⟨_, rfl, _, _, rfl, rfl, _, rfl, ?_⟩
        refine ite2 (fun _ => ?_) (fun z => absurd (decide_eq_true b1.1) z)
        refine ⟨_, rfl, _, _, rfl, rfl, k1 _ _ (sm_new ht) rfl ?_⟩
        show V.bl (decide (x.getD i 0 < G.getD i 0)) = V.bl true
        rw [decide_eq_true b1.2]
      · rw [range_all] at hp1
        have e := paired_fn hp1
        have e2 : ys = ((List.range G.length).map fun _ => true).map V.bl := by rw [e, List.map_map]; rfl
        rw [e2] at hD1
        refine ⟨D, _, rfl, SqL.of hD1, ?_⟩
        have e3 : (((List.range G.length).map fun _ => true).all id) = true := by simp
        rw [e3]
        exact q _ s1
end
end OhL

set_option Elab.async false
set_option linter.all false
set_option maxRecDepth 100000
set_option maxHeartbeats 4000000
/-! groups: span, characters -/
namespace OhL
open PySem PySem.Spec PyProof.Rows L2
theorem map_range {β : Type} (f : Oh.El → β) : ∀ S : List Oh.El, ((List.range S.length).map fun k => f (S.getD k [])) = S.map f
  | [] => rfl
  | x :: S => by
    rw [List.length_cons, List.range_succ_eq_map, List.map_cons, List.map_map, List.map_cons, ← map_range f S]
    rfl
theorem filter_one {α : Type} (p : α → Bool) (c : α) : [c].filter p = if p c = true then [c] else [] := by
  by_cases h : p c = true <;> simp [h]
theorem eqv_nil (nss : List Oh.El) : (!PyData.eqv (.list (nss.map dE)) (.list [])) = !nss.isEmpty := by
  cases nss with
  | nil => simp [PyData.eqv, PyData.eqvAll]
  | cons x l => simp [PyData.eqv, PyData.eqvAll]
theorem sh_nil : SeqAt.shaped (.list []) = true := sh_L []
theorem els_last {H : Hp} {xs : List V} {l : List Oh.El} (h : Els H xs l) (hn : l ≠ []) : ∃ (m : Oh.El) (v : V), l = l.dropLast ++ [m] ∧ xs[xs.length - 1]? = some v ∧ EV H v m ∧ Els H xs.dropLast l.dropLast := by
  have hl := Paired.length h
  have e := (List.dropLast_concat_getLast hn).symm
  have hpos : 0 < l.length := List.length_pos_iff.mpr hn
  have hg : l[l.length - 1]? = some (l.getLast hn) := by rw [List.getLast_eq_getElem, List.getElem?_eq_getElem]
  obtain ⟨v, hv, r⟩ := Paired.get' h hg
  refine ⟨l.getLast hn, v, e, by rw [hl]; exact hv, r, ?_⟩
  have gen : ∀ {xs : List V} {l : List Oh.El}, Els H xs l → Els H xs.dropLast l.dropLast := by
    intro xs l h
    induction h with
    | nil => exact .nil
    | @cons a b as bs r t ih =>
      cases t with
      | nil => exact .nil
      | cons r2 t2 => exact .cons r ih
  exact gen h
theorem emp_false {l : List Oh.El} (h : (!l.isEmpty) = false) : l = [] := by
  cases l with
  | nil => rfl
  | cons x l => cases h
section
variable {P : Program} {w : World} {K : PySem.W.Frag} {mg : Str → Option Value} {base : Heap}

/-! ### span -/
abbrev sSpan : Stmt := top 10
abbrev nSpan : List Str := ["group", "some", "found", "waiting", "member", "other", "further"]
theorem scSpan : FnScope nSpan ["group", "some"] (defScope sSpan) := ⟨rfl, rfl, rfl, by decide +kernel, rfl, by decide +kernel, by decide +kernel⟩
def spSpan : Sp := fun vs H Q _ => ∃ (G : List Int) (S : List Oh.El) (g a : V), vs = [g, a] ∧ OkG G ∧ EV H g G ∧ ET H a S ∧ (∀ s ∈ S, Oh.MemE G s) ∧ ∀ v H' l, Same H H' → ET H' v l → (∀ x, x ∈ l ↔ Oh.Sp G S x) → Q v H'
theorem ok_span (T : Glob mg) (cZ : Kept P w K mg base 1 "zero_of" ["group"] spZero) (cA : Kept P w K mg base 1 "added" ["group", "member", "other"] spAdded) (h : Here K mg "span" sSpan ["group", "some"]) : Kept P w K mg base 2 "span" ["group", "some"] spSpan := by
  refine kept_of h scSpan (fun vs H Q E h => ?_) (fun f cdv A outer s H vs Q E hr h => ?_)
  · obtain ⟨G, S, g, a, rfl, _⟩ := h
    rfl
  · obtain ⟨G, S, g, a, rfl, ok, ⟨gA, rfl, hg⟩, ⟨aA, ss, rfl, ha, hS⟩, mS, q⟩ := h
    have hu := hu_of hr
    have fw := ok.few
    refine ⟨_, pss_cons (ps_par (i := 2) (j := 3) rfl scSpan.nd rfl rfl (by decide) rfl rfl (pa_cons (pe_dispT1 hr.units0 (pe_k cZ hr (by decide) (by rfl) (pa_cons (pv 0) pa_nil)) pe_bl) (pa_cons (pe_lst (pa_cons (pe_k cZ hr (by decide) (by rfl) (pa_cons (pv 0) pa_nil)) pa_nil)) pa_nil)) (by rfl))
      (pss_cons (ps_while PassesOwn.never (pt_cmpR (op_neD hr.units) (pv 3) (pe_lst pa_nil) (nomark _))
        (pss_cons (ps_set (i := 4) scSpan.nd rfl (Or.inl rfl) (pe_bm0 PySem.F.plainAttrs_list PySem.F.slot_list_pop PySem.F.type_list_pop mt_pop (pv 3)))
        (pss_one (ps_for PassesOwn.never rfl (pi_tup (pv 1)) (pg_name (i := 5) scSpan.nd rfl (Or.inl rfl))
          (pss_cons (ps_set (i := 6) scSpan.nd rfl (Or.inl rfl) (pe_k cA hr (by decide) (by rfl) (pa_cons (pv 0) (pa_cons (pv 4) (pa_cons (pv 5) pa_nil)))))
          (pss_one (ps_if (pt_cmp (pc_dnotin hu (pv 6) (pv 2))) (pss_cons (ps_dput hu (pv 2) (pv 6) pe_bl rfl) (pss_one (ps_expr (pe_bm PySem.F.plainAttrs_list PySem.F.slot_list_append PySem.F.type_list_append mt_append (pv 3) (pa_cons (pv 6) pa_nil))))) pss_nil)))))))
      (pss_one (ps_ret (pe_callTy call_tuple_of (by rfl) T.tuple (by decide +kernel) (pa_cons (pe_callB cr_sortE (by rfl) T.sorted (by decide +kernel) (pa_cons (pe_callTy (call_list_dT rfl) (by rfl) T.list (by decide +kernel) (pa_cons (pv 2) pa_nil)) pa_nil)) pa_nil))))), ?_⟩
    intro d hd
    have s0 : Same H (upd H d (.dT [])) := sm_new hd
    refine ⟨_, rfl, G, _, rfl, ⟨gA, rfl, s0 _ _ hg⟩, ok.one, by omega, fun v1 H1 s1 hv1 => ?_⟩
    have hd1 : H1 d = some (.dT []) := s1 _ _ upd_same
    obtain ⟨b, rfl, hb⟩ := hv1.key
    refine ⟨hd1, b, _, _, rfl, hb, ?_⟩
    have nt1 : ∀ xs, H1 d ≠ some (.tup xs) := fun xs z => by rw [hd1] at z; cases z
    have t1 : Tk H (upd H1 d (.dT [(kE (Oh.zeroE G), .bl true)])) := (tk (L2.Same.trans s0 s1)).upd nt1
    have s2 : Same H (upd H1 d (.dT [(kE (Oh.zeroE G), .bl true)])) := sm_upd (L2.Same.trans s0 s1) hd
    refine ⟨_, rfl, G, _, rfl, ⟨gA, rfl, t1 _ _ hg⟩, ok.one, by omega, fun v2 H2 s3 hv2 => ⟨by show 1 ≤ sizeLine; decide, fun l hl => ?_⟩⟩
    have s4 : Same (upd H1 d (.dT [(kE (Oh.zeroE G), .bl true)])) (upd H2 l (.lst [v2])) := L2.Same.trans s3 (sm_new hl)
    have hdl : d ≠ l := ne_of_none (s3 _ _ upd_same) hl
    have hl0 : H l = none := L2.Same.free (L2.Same.trans s2 s3) hl
    refine ⟨_, _, rfl, ?_⟩
    -- the while
    let W : Nat → L2.St → Hp → Prop := fun n σ H' => ∃ (v4 v5 v6 : Option V) (fl wl : List Oh.El) (xs : List V), σ = [some (.ref gA), some (.ref aA), some (.ref d), some (.ref l), v4, v5, v6] ∧ Same H H' ∧ H' d = some (.dT (kT fl)) ∧ H' l = some (.lst xs) ∧ Els H' xs wl ∧
      Oh.SI G S fl wl ∧ n = 2 * (64 - fl.length) + wl.length ∧ n ≤ 127
    refine ⟨W, ⟨_, none, none, none, [Oh.zeroE G], [Oh.zeroE G], [v2], rfl, L2.Same.trans s2 s4, ?_, upd_same, .cons (hv2.mono (tk (sm_new hl))) .nil, Oh.SI.start, rfl, by show 2 * (64 - 1) + 1 ≤ 127; decide⟩, ?_⟩
    · rw [upd_ne hdl]
      exact s3 _ _ upd_same
    · rintro n σ H3 ⟨v4, v5, v6, fl, wl, xs, rfl, s5, hd3, hl3, hx, si, rfl, n127⟩
      refine ⟨_, rfl, Nat.zero_le _, fun p hp => ?_⟩
      have s6 := sm_new (o := HO.lst []) hp
      refine ⟨_, _, .lst (SqL.of (s6 _ _ hl3)) (Els.dp (Els.mono (tk s6) hx)), .lst (SqL.of upd_same) .nil, sh_L wl, sh_nil, _, rfl, ?_⟩
      rw [eqv_nil]
      cases hw : !wl.isEmpty with
      | false =>
        have e := emp_false hw
        subst e
        -- behind the loop
        have hd4 := s6 _ _ hd3
        refine ⟨_, rfl, d, _, rfl, .inl hd4, fun r bs hr1 hbs => ?_⟩
        have ke := keys_els hbs
        have s7 := sm_new (o := HO.lst (bs.map V.ref)) hr1
        refine ⟨r, _, fl, G.length, rfl, SqL.of upd_same, Els.mono (tk s7) ke, ok.one, fun x hx => ((si.sp x hx).mem ok.pos mS).len, fun ys mss r2 hys hperm hsrt hr2 => ?_⟩
        have s8 := sm_new (o := HO.lst ys) hr2
        refine ⟨r2, _, rfl, .inl ⟨SqL.of upd_same, fun t ht => ?_⟩⟩
        have s9 := sm_new (o := HO.tup ys) ht
        exact q _ _ mss (L2.Same.trans s5 (L2.Same.trans s6 (L2.Same.trans s7 (L2.Same.trans s8 s9)))) ⟨t, ys, rfl, upd_same, Els.mono (tk (L2.Same.trans s8 s9)) hys⟩ (Oh.sp_sorted si.ended hperm)
      | true =>
        have hne : wl ≠ [] := fun z => by rw [z] at hw; cases hw
        obtain ⟨m, vm, ewl, hvm, hm, hxl⟩ := els_last (Els.mono (tk s6) hx) hne
        have sj0 : Oh.SJ G S m 0 fl wl.dropLast (2 * (64 - fl.length) + wl.dropLast.length) := Oh.SI.pop (by rw [← ewl]; exact si)
        have lw : wl.length = wl.dropLast.length + 1 := by
          have := congrArg List.length ewl
          rw [List.length_append, List.length_singleton] at this
          exact this
        generalize wl.dropLast = wl1 at *
        refine ⟨fun σ' H' => ∃ m', m' < 2 * (64 - fl.length) + wl.length ∧ W m' σ' H', fun _ _ z => z, ?_⟩
        have hl4 := s6 _ _ hl3
        have hd4 := s6 _ _ hd3
        refine ⟨_, rfl, .inl ⟨rfl, _, SqL.of hl4⟩, l, xs, vm, rfl, rfl, hl4, hvm, ?_⟩
        have nl4 := not_tup hl4
        have dnl : d ≠ l := ne_of hd4 hl4 (fun z => by cases z)
        have s10 : Same H (upd (upd H3 p (.lst [])) l (.lst xs.dropLast)) := sm_upd (L2.Same.trans s5 s6) hl0
        have t10 : Tk (upd H3 p (.lst [])) (upd (upd H3 p (.lst [])) l (.lst xs.dropLast)) := (Tk.refl _).upd nl4
        have hm2 := hm.mono t10
        have hxl2 := Els.mono t10 hxl
        have hd5 : (upd (upd H3 p (.lst [])) l (.lst xs.dropLast)) d = some (.dT (kT fl)) := by rw [upd_ne dnl]; exact hd4
        have hl5 : (upd (upd H3 p (.lst [])) l (.lst xs.dropLast)) l = some (.lst xs.dropLast) := upd_same
        generalize (upd (upd H3 p (.lst [])) l (.lst xs.dropLast)) = H4 at *
        generalize hN : 2 * (64 - fl.length) + wl1.length = N at sj0
        refine ⟨_, rfl, aA, rfl, ⟨_, SqT.of (s10 _ _ ha)⟩, for_tup (K := K) (a := aA) (xs := ss) (fun i σ H' => ∃ (v5 v6 : Option V) (fl wl : List Oh.El) (xs : List V), σ = [some (.ref gA), some (.ref aA), some (.ref d), some (.ref l), some vm, v5, v6] ∧
          Same H H' ∧ EV H' vm m ∧ H' d = some (.dT (kT fl)) ∧ H' l = some (.lst xs) ∧ Els H' xs wl ∧ Oh.SJ G S m i fl wl N)
          ⟨v5, v6, fl, wl1, _, rfl, s10, hm2, hd5, hl5, hxl2, sj0⟩ (fun i σ H' _ ⟨_, _, _, _, _, _, s, _⟩ => SqT.of (s _ _ ha)) ?_ ?_⟩
        · rintro i x σ H5 hi ⟨v5, v6, fl, wl, xs, rfl, s11, hm5, hd6, hl6, hx6, sj⟩
          obtain ⟨y, hy, hxy⟩ := Paired.get hS hi
          have hy2 := hxy.mono (tk s11)
          have my := mS y (List.mem_of_getElem? hy)
          have mm := (sj.sp m sj.mm).mem ok.pos mS
          refine ⟨_, rfl, _, rfl, _, rfl, G, m, y, _, _, _, rfl, ok.pos, ⟨gA, rfl, s11 _ _ hg⟩, hm5, hy2, mm.len, my.len, by omega, fun vf H6 s12 hf => ?_⟩
          obtain ⟨b6, rfl, hb6⟩ := hf.key
          have hd7 := s12 _ _ hd6
          refine ⟨_, rfl, _, rfl, d, _, rfl, DGet.t hd7 hb6, _, rfl, ?_⟩
          rw [get_kT]
          by_cases hin : Oh.addE G m y ∈ fl
          · rw [decide_eq_true hin]
            exact ⟨_, _, fl, wl, xs, rfl, L2.Same.trans s11 s12, hm5.mono (tk s12), hd7, s12 _ _ hl6, Els.mono (tk s12) hx6, sj.same hy hin⟩
          · rw [decide_eq_false hin]
            have few := few_of ok sj.nd fun x hx => (sj.sp x hx).mem ok.pos mS
            have few2 : fl.length + 1 ≤ 64 := by
              have hn2 : (fl ++ [Oh.addE G m y]).Nodup := List.nodup_append.mpr ⟨sj.nd, by simp, fun a ha b hb e => by simp at hb; subst hb; exact hin (e ▸ ha)⟩
              have := few_of ok hn2 fun x hx => by
                rcases List.mem_append.mp hx with q | q
                · exact (sj.sp x q).mem ok.pos mS
                · have e : x = Oh.addE G m y := by simpa using q
                  rw [e]
                  exact Oh.addE_mem ok.pos mm.len my.len
              rw [List.length_append, List.length_singleton] at this
              exact this
            have lk : (kT fl).length < sizeLine := by
              unfold kT
              rw [List.length_map]
              exact line_big (by omega)
            refine ⟨_, rfl, _, rfl, d, _, rfl, DPut.t hd7 hb6 lk, ?_⟩
            have nd7 : ∀ xs, H6 d ≠ some (.tup xs) := fun xs z => by rw [hd7] at z; cases z
            have hl7 := s12 _ _ hl6
            have ndl : l ≠ d := ne_of hl7 hd7 (fun z => by cases z)
            have t7 : Tk H6 (upd H6 d (.dT (putK (kT fl) (kE (Oh.addE G m y)) (.bl true)))) := (Tk.refl _).upd nd7
            have hl8 : (upd H6 d (.dT (putK (kT fl) (kE (Oh.addE G m y)) (.bl true)))) l = some (.lst xs) := by rw [upd_ne ndl]; exact hl7
            have wlen : xs.length < sizeLine := by
              have h1 := Paired.length hx6
              have h2 := sj.mu
              exact line_big (by omega)
            refine ⟨_, rfl, .inl ⟨rfl, _, SqL.of hl8⟩, _, rfl, l, xs, _, rfl, rfl, hl8, wlen, ?_⟩
            have t8 : Tk (upd H6 d (.dT (putK (kT fl) (kE (Oh.addE G m y)) (.bl true)))) (upd (upd H6 d (.dT (putK (kT fl) (kE (Oh.addE G m y)) (.bl true)))) l (.lst (xs ++ [.ref b6]))) := (Tk.refl _).upd (not_tup hl8)
            have t9 := Tk.trans t7 t8
            refine ⟨_, _, fl ++ [Oh.addE G m y], wl ++ [Oh.addE G m y], _, rfl, sm_upd (sm_upd (L2.Same.trans s11 s12) hd) hl0, (hm5.mono (tk s12)).mono t9, ?_, upd_same, Paired.append (Els.mono (Tk.trans (tk s12) t9) hx6) (.cons (hf.mono t9) .nil), sj.more hy hin few2⟩
            rw [upd_ne (Ne.symm ndl), upd_same, put_kT]
            unfold putE
            rw [if_neg hin]
        · rintro σ H5 ⟨v5, v6, fl, wl, xs, rfl, s11, hm5, hd6, hl6, hx6, sj⟩
          have e : ss.length = S.length := Paired.length hS
          rw [e] at sj
          exact ⟨_, by have := sj.mu; omega, some vm, v5, v6, fl, wl, xs, rfl, s11, hd6, hl6, hx6, sj.done, rfl, by have := sj.mu; omega⟩

/-! ### characters -/
abbrev sChars : Stmt := top 12
abbrev nChars : List Str := ["group", "some", "found", "character", "member"]
theorem scChars : FnScope nChars ["group", "some"] (defScope sChars) := ⟨rfl, rfl, rfl, by decide +kernel, rfl, by decide +kernel, by decide +kernel⟩
def spChars : Sp := fun vs H Q _ => ∃ (G : List Int) (S : List Oh.El) (g a : V), vs = [g, a] ∧ OkG G ∧ EV H g G ∧ EL H a S ∧ S.length ≤ 1000 ∧ (∀ s ∈ S, Oh.MemE G s) ∧
  ∀ v H', Same H H' → ET H' v ((Oh.membersE G).filter fun c => S.all (Oh.killsE G c)) → Q v H'
theorem ok_chars (T : Glob mg) (cM : Kept P w K mg base 2 "group_members" ["group"] spMem) (cK : Kept P w K mg base 1 "kills" ["group", "character", "member"] spKills) (h : Here K mg "characters" sChars ["group", "some"]) : Kept P w K mg base 3 "characters" ["group", "some"] spChars := by
  refine kept_of h scChars (fun vs H Q E h => ?_) (fun f cdv A outer s H vs Q E hr h => ?_)
  · obtain ⟨G, S, g, a, rfl, _⟩ := h
    rfl
  · obtain ⟨G, S, g, a, rfl, ok, ⟨gA, rfl, hg⟩, ⟨aA, ss, rfl, ha, hS⟩, lS, mS, q⟩ := h
    refine ⟨_, pss_cons (ps_set (i := 2) scChars.nd rfl (Or.inl rfl) (pe_lst pa_nil)) (pss_cons (ps_for PassesOwn.never rfl (pi_tup (pe_k cM hr (by decide) (by rfl) (pa_cons (pv 0) pa_nil))) (pg_name (i := 3) scChars.nd rfl (Or.inr rfl))
      (pss_one (ps_if (pt_val (pe_callB (cr_all rfl) (by rfl) T.all (by decide +kernel) (pa_cons (pe_lc (own := [("member", 4)]) (g := gName 4) (tt := tYes) rfl scChars.nd (pi_list (pv 1)) (blkOk_by (N := nChars) (sc := defScope sChars) (by decide +kernel))
          (fun _ _ _ _ _ => pg_name (i := 4) scChars.nd rfl (Or.inl rfl)) (fun _ _ _ _ _ => pts_nil) (fun _ _ _ _ _ => pe_k cK hr (by decide) (by rfl) (pa_cons (pv 0) (pa_cons (pv 3) (pa_cons (pv 4) pa_nil))))) pa_nil)))
        (pss_one (ps_expr (pe_bm PySem.F.plainAttrs_list PySem.F.slot_list_append PySem.F.type_list_append mt_append (pv 2) (pa_cons (pv 3) pa_nil)))) pss_nil)))
      (pss_one (ps_ret (pe_callTy call_tuple_of (by rfl) T.tuple (by decide +kernel) (pa_cons (pv 2) pa_nil))))), ?_⟩
    refine ⟨Nat.zero_le _, fun l hl => ?_⟩
    have s0 := sm_new (o := HO.lst []) hl
    refine ⟨_, rfl, G, _, rfl, ok, ⟨gA, rfl, s0 _ _ hg⟩, fun v H1 s1 hv => ?_⟩
    obtain ⟨mA, ms, rfl, hmA, hms⟩ := hv
    have lm : ms.length = (Oh.membersE G).length := Paired.length hms
    have few : (Oh.membersE G).length ≤ 64 := by rw [Oh.members_len]; exact ok.prod
    refine ⟨mA, rfl, ⟨_, SqT.of hmA⟩, for_tup (K := K) (a := mA) (xs := ms) (fun i σ H' => ∃ (v3 v4 : Option V) (ys : List V), σ = [some (.ref gA), some (.ref aA), some (.ref l), v3, v4] ∧ Same H H' ∧ Tk H1 H' ∧ H' l = some (.lst ys) ∧
      Els H' ys (((Oh.membersE G).take i).filter fun c => S.all (Oh.killsE G c))) ⟨none, none, [], rfl, L2.Same.trans s0 s1, Tk.refl _, s1 _ _ upd_same, by exact .nil⟩ (fun i σ H' _ ⟨_, _, _, _, _, t, _⟩ => SqT.of (t _ _ hmA)) ?_ ?_⟩
    · rintro i x σ H2 hi ⟨v3, v4, ys, rfl, s2, t2, hl2, hy⟩
      obtain ⟨c, hc, hxc⟩ := Paired.get hms hi
      have mc := (Oh.mem_members ok.pos c).mp (List.mem_of_getElem? hc)
      have hx2 := hxc.mono t2
      refine ⟨_, rfl, aA, rfl, ⟨_, SqL.of (s2 _ _ ha)⟩, fun D hD => ?_⟩
      have lss : ss.length = S.length := Paired.length hS
      refine lc_pure (walk_list (xs := ss)) (by omega) hD (fun _ => true) (fun k y' _ => y' = V.bl (Oh.killsE G c (S.getD k []))) (fun _ _ _ _ _ r => r)
        (fun H3 s => SqL.of (s _ _ (s2 _ _ ha))) (fun k t H3 H4 hk s3 hy Q1 Q0 k1 k0 => ?_) (fun zs H3 s3 hD3 hz => ?_)
      · obtain ⟨rfl, ht⟩ := hy
        obtain ⟨z, hz, htz⟩ := Paired.get hS ht
        have mz := mS z (List.mem_of_getElem? hz)
        have s23 := L2.Same.trans s2 s3
        refine ⟨rfl, _, rfl, _, rfl, _, rfl, G, c, z, _, _, _, rfl, ok, ⟨gA, rfl, s23 _ _ hg⟩, hx2.mono (tk s3), htz.mono (tk s23), mc, mz, fun H5 s5 => k1 _ _ s5 rfl ?_⟩
        rw [List.getD_eq_getElem?_getD, hz]
        rfl
      · rw [range_all] at hz
        have e := paired_fn hz
        have e2 : zs = (S.map (Oh.killsE G c)).map V.bl := by
          rw [e, lss, List.map_map]
          exact map_range (fun z => V.bl (Oh.killsE G c z)) S
        rw [e2] at hD3
        refine ⟨D, _, rfl, SqL.of hD3, _, rfl, ?_⟩
        have e3 : ((S.map (Oh.killsE G c)).all id) = S.all (Oh.killsE G c) := by rw [List.all_map]; rfl
        rw [e3]
        have hy3 := Els.mono (tk s3) hy
        have hl3 := s3 _ _ hl2
        have tkk : ((Oh.membersE G).take (i + 1)).filter (fun c => S.all (Oh.killsE G c)) = ((Oh.membersE G).take i).filter (fun c => S.all (Oh.killsE G c)) ++ (if S.all (Oh.killsE G c) = true then [c] else []) := by
          rw [take_succ_get hc, List.filter_append, filter_one]
        cases hall : S.all (Oh.killsE G c) with
        | true =>
          rw [hall, if_pos rfl] at tkk
          have len : ys.length < sizeLine := by
            have h1 := Paired.length hy
            have h2 := List.length_filter_le (fun c => S.all (Oh.killsE G c)) ((Oh.membersE G).take i)
            have h3 : ((Oh.membersE G).take i).length ≤ (Oh.membersE G).length := by rw [List.length_take]; omega
            exact line_big (by omega)
          have t4 : Tk H3 (upd H3 l (.lst (ys ++ [x]))) := (Tk.refl _).upd (not_tup hl3)
          refine ⟨_, rfl, .inl ⟨rfl, _, SqL.of hl3⟩, _, rfl, l, ys, _, rfl, rfl, hl3, len, _, v4, _, rfl, sm_upd (L2.Same.trans s2 s3) hl, Tk.trans t2 (Tk.trans (tk s3) t4), upd_same, ?_⟩
          rw [tkk]
          exact Paired.append (Els.mono t4 hy3) (.cons (hx2.mono (Tk.trans (tk s3) t4)) .nil)
        | false =>
          rw [hall] at tkk
          refine ⟨_, v4, ys, rfl, L2.Same.trans s2 s3, Tk.trans t2 (tk s3), hl3, ?_⟩
          rw [tkk]
          simpa using hy3
    · rintro σ H2 ⟨v3, v4, ys, rfl, s2, t2, hl2, hy⟩
      rw [lm, List.take_length] at hy
      refine ⟨_, rfl, l, ys, rfl, .inl ⟨SqL.of hl2, fun t ht => q _ _ (L2.Same.trans s2 (sm_new ht)) ⟨t, ys, rfl, upd_same, Els.mono (tk (sm_new ht)) hy⟩⟩⟩
end
end OhL

set_option Elab.async false
set_option linter.all false
set_option maxRecDepth 100000
set_option maxHeartbeats 4000000
/-! sums: open_marks, steps_of -/
namespace OhL
open PySem PySem.Spec PyProof.Rows L2
def zN (room : List Nat) : List Int := room.map fun (n : Nat) => (n : Int)
theorem zN_len (room : List Nat) : (zN room).length = room.length := by simp [zN]
theorem at_nat {room : List Nat} {i : Nat} {z : V} (h : ((zN room).map V.int)[i]? = some z) : z = V.int ((room.getD i 0 : Nat) : Int) ∧ room[i]? = some (room.getD i 0) := by
  unfold zN at h
  rw [List.map_map, List.getElem?_map] at h
  cases e : room[i]? with
  | none => rw [e] at h; cases h
  | some u =>
    rw [e] at h
    rw [List.getD_eq_getElem?_getD, e]
    exact ⟨(Option.some.inj h).symm, rfl⟩
theorem getD_of {α : Type} {l : List α} {i : Nat} {x d : α} (h : l[i]? = some x) : l.getD i d = x := by
  rw [List.getD_eq_getElem?_getD, h]
  rfl
theorem paired_map_r {α β γ : Type} {F : α → β → Prop} {g : γ → β} : ∀ {xs : List α} {l : List γ}, Paired (fun x c => F x (g c)) xs l → Paired F xs (l.map g)
  | _, _, .nil => .nil
  | _, _, .cons r t => .cons r (paired_map_r t)
section
variable {P : Program} {w : World} {K : PySem.W.Frag} {mg : Str → Option Value} {base : Heap}

/-! ### open_marks -/
abbrev sOpen : Stmt := top 16
abbrev nOpen : List Str := ["marks", "room", "mark", "left"]
theorem scOpen : FnScope nOpen ["marks", "room"] (defScope sOpen) := ⟨rfl, rfl, rfl, by decide +kernel, rfl, by decide +kernel, by decide +kernel⟩
def spOpen : Sp := fun vs H Q _ => ∃ (marks : List Oh.El) (room : List Nat) (a b : V), vs = [a, b] ∧ ET H a marks ∧ EV H b (zN room) ∧ marks.length = room.length ∧ marks.length ≤ 1000 ∧ ∀ v H', Same H H' → EL H' v (Oh.openE marks room) → Q v H'
theorem ok_open (T : Glob mg) (h : Here K mg "open_marks" sOpen ["marks", "room"]) : Kept P w K mg base 1 "open_marks" ["marks", "room"] spOpen := by
  refine kept_of h scOpen (fun vs H Q E h => ?_) (fun f cdv A outer s H vs Q E hr h => ?_)
  · obtain ⟨marks, room, a, b, rfl, _⟩ := h
    rfl
  · obtain ⟨marks, room, a, b, rfl, ⟨aA, xs, rfl, ha, hx⟩, ⟨bA, rfl, hb⟩, le, lm, q⟩ := h
    have lx : xs.length = marks.length := Paired.length hx
    refine ⟨_, pss_one (ps_ret (pe_lc (own := [("mark", 2), ("left", 3)]) (g := gTup K 2 (gCons (gName 2) (gCons (gName 3) gNil))) rfl scOpen.nd
      (RZ.pi_zipA (by rfl) T.zip (pa_cons (pv 0) (pa_cons (pv 1) pa_nil))) (blkOk_by (N := nOpen) (sc := defScope sOpen) (by decide +kernel))
      (fun _ _ _ _ _ => pg_tup rfl (pgs_cons (pg_name (i := 2) scOpen.nd rfl (Or.inl rfl)) (pgs_cons (pg_name (i := 3) scOpen.nd rfl (Or.inl rfl)) pgs_nil)))
      (fun _ _ _ _ _ => pts_one (pt_cmpR op_gt (pv 3) pe_int (nomark _))) (fun _ _ _ _ _ => pv 2))), ?_⟩
    refine ⟨_, rfl, _, rfl, _, _, _, _, rfl, .inr ⟨SqT.of ha, SqT.of hb, fun D hD => ?_⟩⟩
    refine lc_pure (walk_zipT (n := marks.length) lx (by rw [List.length_map, zN_len, le])) (by omega) hD (fun i => decide (0 < room.getD i 0)) (fun i y H => EV H y (marks.getD i [])) (fun _ _ _ _ t r => r.mono t)
      (fun H1 s => ⟨SqT.of (s _ _ ha), SqT.of (s _ _ hb)⟩) (fun i t H1 H2 hi s1 hy Q1 Q0 k1 k0 => ?_) (fun ys H1 s1 hD1 hp1 => ?_)
    · obtain ⟨t, u, v, rfl, ht, rfl, h1, h2⟩ := hy
      obtain ⟨rfl, _⟩ := at_nat h2
      obtain ⟨m, hm, hu⟩ := Paired.get hx h1
      have s2 := sm_new (o := HO.tup [u, V.int ((room.getD i 0 : Nat) : Int)]) ht
      refine ⟨t, _, rfl, SqT.of upd_same, rfl, _, _, rfl, _, _, rfl, rfl, rfl, _, rfl, _, _, rfl, rfl, _, rfl, ?_⟩
      refine ite2 (fun z => ?_) (fun z => ?_)
      · have z' : (0 : Int) < ((room.getD i 0 : Nat) : Int) := of_decide_eq_true z
        refine ⟨_, rfl, k1 _ _ s2 (decide_eq_true (by omega)) ?_⟩
        rw [getD_of hm]
        exact hu.mono (tk (L2.Same.trans s1 s2))
      · have z' : ¬ (0 : Int) < ((room.getD i 0 : Nat) : Int) := fun y => z (decide_eq_true y)
        exact k0 _ s2 (decide_eq_false (by omega))
    · refine q _ _ s1 ⟨D, ys, rfl, hD1, ?_⟩
      rw [Oh.open_filter le]
      exact paired_map_r hp1

/-! ### steps_of -/
abbrev sSteps : Stmt := top 17
abbrev nSteps : List Str := ["group", "mark", "left", "count"]
theorem scSteps : FnScope nSteps ["group", "mark", "left"] (defScope sSteps) := ⟨rfl, rfl, rfl, by decide +kernel, rfl, by decide +kernel, by decide +kernel⟩
def spSteps : Sp := fun vs H Q _ => ∃ (G : List Int) (m : Oh.El) (n : Nat) (g a : V), vs = [g, a, .int (n : Int)] ∧ OkG G ∧ EV H g G ∧ EV H a m ∧ m.length = G.length ∧ n ≤ 1000 ∧
  ∀ v H', Same H H' → EL H' v ((List.range (n + 1)).map fun (k : Nat) => Oh.repE G m (k : Int)) → Q v H'
theorem ok_steps (T : Glob mg) (cR : Kept P w K mg base 1 "repeated" ["group", "member", "count"] spRep) (h : Here K mg "steps_of" sSteps ["group", "mark", "left"]) : Kept P w K mg base 2 "steps_of" ["group", "mark", "left"] spSteps := by
  refine kept_of h scSteps (fun vs H Q E h => ?_) (fun f cdv A outer s H vs Q E hr h => ?_)
  · obtain ⟨G, m, n, g, a, rfl, _⟩ := h
    rfl
  · obtain ⟨G, m, n, g, a, rfl, ok, ⟨gA, rfl, hg⟩, hm, lm, ln, q⟩ := h
    refine ⟨_, pss_one (ps_ret (pe_lc (own := [("count", 3)]) (g := gName 3) (tt := tYes) rfl scSteps.nd (pi_range1 (by rfl) T.range (pa_cons (pe_op op_add (pv 2) pe_int) pa_nil)) (blkOk_by (N := nSteps) (sc := defScope sSteps) (by decide +kernel))
      (fun _ _ _ _ _ => pg_name (i := 3) scSteps.nd rfl (Or.inl rfl)) (fun _ _ _ _ _ => pts_nil) (fun _ _ _ _ _ => pe_k cR hr (by decide) (by rfl) (pa_cons (pv 0) (pa_cons (pv 1) (pa_cons (pv 3) pa_nil)))))), ?_⟩
    refine ⟨_, rfl, _, _, rfl, rfl, (n : Int) + 1, rfl, by omega, by omega, fun D hD => ?_⟩
    have en : ((n : Int) + 1).toNat = n + 1 := by omega
    rw [en]
    have f := ok.few
    refine lc_pure walk_range (by omega) hD (fun _ => true) (fun k y H => EV H y (Oh.repE G m (k : Int))) (fun _ _ _ _ t r => r.mono t) (fun _ _ => trivial) (fun k z H2 H3 hk s2 hz Q1 Q0 k1 k0 => ?_) (fun zs H2 s2 hD2 hz => ?_)
    · obtain ⟨rfl, rfl⟩ := hz
      refine ⟨rfl, _, rfl, _, rfl, _, rfl, G, m, 0 + (k : Int), _, _, rfl, ok.pos, ⟨gA, rfl, s2 _ _ hg⟩, hm.mono (tk s2), lm, by omega, by omega, by omega, fun v H4 s4 hv => k1 _ _ s4 rfl ?_⟩
      rw [Int.zero_add] at hv
      exact hv
    · rw [range_all] at hz
      exact q _ _ s2 ⟨D, zs, rfl, hD2, paired_map_r hz⟩
end
end OhL

set_option Elab.async false
set_option linter.all false
set_option maxRecDepth 100000
set_option maxHeartbeats 4000000
/-! sums: makes -/
namespace OhL
open PySem PySem.Spec PyProof.Rows L2
/-- all but d stands as it stood -/
def But (d : Addr) (H H' : Hp) : Prop := ∀ b o, b ≠ d → H b = some o → H' b = some o
theorem But.refl (d : Addr) (H : Hp) : But d H H := fun _ _ _ h => h
theorem But.trans {d : Addr} {H H1 H2 : Hp} (a : But d H H1) (b : But d H1 H2) : But d H H2 := fun x o n h => b x o n (a x o n h)
theorem But.of {d : Addr} {H H' : Hp} (s : Same H H') : But d H H' := fun b o _ h => s b o h
theorem But.upd {d : Addr} {H H' : Hp} {o : HO} (b : But d H H') : But d H (L2.upd H' d o) := fun x u n h => by
  rw [upd_ne n]
  exact b x u n h
theorem But.tk {d : Addr} {H H' : Hp} (b : But d H H') (n : ∀ xs, H d ≠ some (.tup xs)) : Tk H H' := fun a xs h => b a _ (fun z => n xs (by rw [← z]; exact h)) h
theorem But.same {d : Addr} {H0 H H' : Hp} (b : But d H H') (s : Same H0 H) (n : H0 d = none) : Same H0 H' := fun a o h => b a o (ne_of_none h n) (s a o h)
theorem not_dT {H : Hp} {d : Addr} {kvs : List (List Key × V)} (h : H d = some (.dT kvs)) : ∀ xs, H d ≠ some (.tup xs) := fun xs z => by
  rw [h] at z
  cases z
def putAll (G : List Int) (st : Oh.El) (fl bs : List Oh.El) : List Oh.El := bs.foldl (fun fl b => putE fl (Oh.addE G b st)) fl
theorem putAll_snoc (G : List Int) (st : Oh.El) (fl bs : List Oh.El) (b : Oh.El) : putAll G st fl (bs ++ [b]) = putE (putAll G st fl bs) (Oh.addE G b st) := by simp [putAll]
theorem mem_putAll {G : List Int} {st x : Oh.El} : ∀ {bs fl : List Oh.El}, x ∈ putAll G st fl bs ↔ x ∈ fl ∨ ∃ b ∈ bs, x = Oh.addE G b st
  | [], fl => by simp [putAll]
  | b :: bs, fl => by
    show x ∈ putAll G st (putE fl (Oh.addE G b st)) bs ↔ _
    rw [mem_putAll, mem_putE]
    constructor
    · rintro ((h | h) | ⟨c, hc, h⟩)
      · exact .inl h
      · exact .inr ⟨b, List.mem_cons_self, h⟩
      · exact .inr ⟨c, List.mem_cons_of_mem _ hc, h⟩
    · rintro (h | ⟨c, hc, h⟩)
      · exact .inl (.inl h)
      · rcases List.mem_cons.mp hc with rfl | hc
        · exact .inl (.inr h)
        · exact .inr ⟨c, hc, h⟩
theorem nodup_putAll {G : List Int} {st : Oh.El} : ∀ {bs fl : List Oh.El}, fl.Nodup → (putAll G st fl bs).Nodup
  | [], _, h => h
  | b :: bs, fl, h => nodup_putAll (bs := bs) (nodup_putE h)
theorem ok_putAll {G : List Int} {st : Oh.El} {bs fl : List Oh.El} (ok : OkG G) (hf : ∀ x ∈ fl, Oh.MemE G x) (hb : ∀ x ∈ bs, Oh.MemE G x) (hs : st.length = G.length) : ∀ x ∈ putAll G st fl bs, Oh.MemE G x := fun x hx => by
  rcases mem_putAll.mp hx with h | ⟨b, h, rfl⟩
  · exact hf x h
  · exact Oh.addE_mem ok.pos (hb b h).len hs
/-- for member in l: d[added(group, member, step)] = True -/
theorem fill {K : PySem.W.Frag} {G : List Int} {st : Oh.El} {fl bs : List Oh.El} {gi di si ji : Nat} {gA dA lA : Addr} {sV : V} {xs : List V} {D : Ends} {σ : L2.St} {H : Hp} (ok : OkG G) (hgi : σ[gi]? = some (some (.ref gA))) (hdi : σ[di]? = some (some (.ref dA))) (hsi : σ[si]? = some (some sV))
    (ng : ji ≠ gi) (nd : ji ≠ di) (ns : ji ≠ si) (hj : ji < σ.length) (h0 : ∃ v : Option V, σ = σ.set ji v) (hg : H gA = some (.tup (G.map V.int))) (hs : EV H sV st) (hst : st.length = G.length) (hl : H lA = some (.lst xs)) (hx : Els H xs bs) (hd : H dA = some (.dT (kT fl)))
    (hn : fl.Nodup) (hf : ∀ x ∈ fl, Oh.MemE G x) (hb : ∀ x ∈ bs, Oh.MemE G x)
    (fin : ∀ (v : Option V) (H' : Hp), But dA H H' → H' dA = some (.dT (kT (putAll G st fl bs))) → D.nx (σ.set ji v) H') :
    ∃ W : Nat → Nat → L2.St → Hp → Prop, (∃ m, W 0 m σ H) ∧ ∀ i m σ H, W i m σ H →
      ((Itl K lA).stop i H ∧ D.nx σ H) ∨ ((Itl K lA).go i H ∧ ∃ N : L2.St → Hp → Prop, (∀ σ' H', N σ' H' → ∃ m', m' < m ∧ W (i + 1) m' σ' H') ∧ ∀ x H', (Itl K lA).yld i H x H' → gName ji x σ H' fun σ2 H2 =>
        sDPut (tVar di) (tCall spAdded [] E0 (tCons (tVar gi) (tCons (tVar ji) (tCons (tVar si) tNil)))) (tC (.bl true)) { D with nx := N, ct := N, bk := D.nx } σ2 H2) := by
  have lne : lA ≠ dA := ne_of hl hd (fun z => by cases z)
  have gne : gA ≠ dA := ne_of hg hd (fun z => by cases z)
  have nt := not_dT hd
  have e := Paired.length hx
  refine for_list (K := K) (a := lA) (xs := xs) (fun i σ' H' => ∃ v : Option V, σ' = σ.set ji v ∧ But dA H H' ∧ H' dA = some (.dT (kT (putAll G st fl (bs.take i))))) ?_ (fun i σ' H' _ ⟨_, _, b, _⟩ => SqL.of (b _ _ lne hl)) ?_ ?_
  · obtain ⟨v, hv⟩ := h0
    exact ⟨v, hv, But.refl _ _, hd⟩
  · rintro i x σ' H1 hi ⟨v, rfl, b1, hd1⟩
    obtain ⟨y, hy, hxy⟩ := Paired.get hx hi
    have my := hb y (List.mem_of_getElem? hy)
    have t1 := b1.tk nt
    show sDPut _ _ _ _ ((σ.set ji v).set ji (some x)) H1
    rw [List.set_set]
    refine ⟨_, by rw [List.getElem?_set_ne nd]; exact hdi, _, by rw [List.getElem?_set_ne ng]; exact hgi, _, by rw [List.getElem?_set_self hj], _, by rw [List.getElem?_set_ne ns]; exact hsi, ?_⟩
    refine ⟨G, y, st, _, _, _, rfl, ok.pos, ⟨gA, rfl, b1 _ _ gne hg⟩, hxy.mono t1, hs.mono t1, my.len, hst, by have := ok.few; omega, fun r H2 s2 hr => ?_⟩
    obtain ⟨rA, rfl, hrA⟩ := hr.key
    have hd2 := s2 _ _ hd1
    have few := few_of ok (nodup_putAll (bs := bs.take i) (st := st) (G := G) hn) (ok_putAll ok hf (fun x hx => hb x (List.mem_of_mem_take hx)) hst)
    have lk : (kT (putAll G st fl (bs.take i))).length < sizeLine := by
      unfold kT
      rw [List.length_map]
      exact line_big (by omega)
    refine ⟨dA, _, rfl, DPut.t hd2 hrA lk, some x, rfl, (b1.trans (But.of s2)).upd, ?_⟩
    rw [upd_same, put_kT, take_succ_get hy, putAll_snoc]
  · rintro σ' H1 ⟨v, rfl, b1, hd1⟩
    rw [e, List.take_length] at hd1
    exact fin v H1 b1 hd1
theorem step_mem {G : List Int} {M : Oh.El → Prop} {mark x : Oh.El} {k : Nat} : Oh.MadeStep G M mark (k + 1) x ↔ Oh.MadeStep G M mark k x ∨ ∃ b, (b = Oh.zeroE G ∨ M b) ∧ x = Oh.addE G b (Oh.repE G mark ((k : Int) + 1)) := by
  unfold Oh.MadeStep
  constructor
  · rintro (h | ⟨b, hb, c, h1, h2, rfl⟩)
    · exact .inl (.inl h)
    · by_cases e : c = k + 1
      · subst e
        exact .inr ⟨b, hb, rfl⟩
      · exact .inl (.inr ⟨b, hb, c, h1, by omega, rfl⟩)
  · rintro ((h | ⟨b, hb, c, h1, h2, rfl⟩) | ⟨b, hb, rfl⟩)
    · exact .inl h
    · exact .inr ⟨b, hb, c, h1, by omega, rfl⟩
    · exact .inr ⟨b, hb, k + 1, by omega, Nat.le_refl _, rfl⟩
theorem step_zero {G : List Int} {M : Oh.El → Prop} {mark x : Oh.El} : Oh.MadeStep G M mark 0 x ↔ M x := by
  unfold Oh.MadeStep
  constructor
  · rintro (h | ⟨b, hb, c, h1, h2, rfl⟩)
    · exact h
    · omega
  · exact .inl
section
variable {P : Program} {w : World} {K : PySem.W.Frag} {mg : Str → Option Value} {base : Heap}

/-! ### makes -/
abbrev sMakes : Stmt := top 14
abbrev nMakes : List Str := ["group", "marks", "room", "zero", "found", "mark", "left", "before", "count", "step", "member"]
theorem scMakes : FnScope nMakes ["group", "marks", "room"] (defScope sMakes) := ⟨rfl, rfl, rfl, by decide +kernel, rfl, by decide +kernel, by decide +kernel⟩
def spMakes : Sp := fun vs H Q _ => ∃ (G : List Int) (marks : List Oh.El) (room : List Nat) (g a b : V), vs = [g, a, b] ∧ OkG G ∧ EV H g G ∧ ET H a marks ∧ EV H b (zN room) ∧ marks.length = room.length ∧ marks.length ≤ 1000 ∧ (∀ m ∈ marks, Oh.MemE G m) ∧ (∀ n ∈ room, n ≤ 1000) ∧
  ∀ v H' l, Same H H' → ET H' v l → (∀ x, x ∈ l ↔ Oh.Made G marks room (fun _ => False) x) → Q v H'
theorem ok_makes (T : Glob mg) (cZ : Kept P w K mg base 1 "zero_of" ["group"] spZero) (cA : Kept P w K mg base 1 "added" ["group", "member", "other"] spAdded) (cR : Kept P w K mg base 1 "repeated" ["group", "member", "count"] spRep)
    (h : Here K mg "makes" sMakes ["group", "marks", "room"]) : Kept P w K mg base 2 "makes" ["group", "marks", "room"] spMakes := by
  refine kept_of h scMakes (fun vs H Q E h => ?_) (fun f cdv A outer s H vs Q E hr h => ?_)
  · obtain ⟨G, marks, room, g, a, b, rfl, _⟩ := h
    rfl
  · obtain ⟨G, marks, room, g, a, b, rfl, ok, ⟨gA, rfl, hg⟩, ⟨aA, ms, rfl, ha, hms⟩, ⟨bA, rfl, hb⟩, le, lm, mm, mr, q⟩ := h
    have hu := hu_of hr
    have fw := ok.few
    have lms : ms.length = marks.length := Paired.length hms
    refine ⟨_, pss_cons (ps_par (i := 3) (j := 4) rfl scMakes.nd rfl rfl (by decide) rfl rfl (pa_cons (pe_k cZ hr (by decide) (by rfl) (pa_cons (pv 0) pa_nil)) (pa_cons pe_dnewT pa_nil)) (by rfl))
      (pss_cons (ps_for PassesOwn.never rfl (RZ.pi_zipA (by rfl) T.zip (pa_cons (pv 1) (pa_cons (pv 2) pa_nil))) (pg_tup rfl (pgs_cons (pg_name (i := 5) scMakes.nd rfl (Or.inl rfl)) (pgs_cons (pg_name (i := 6) scMakes.nd rfl (Or.inl rfl)) pgs_nil)))
        (pss_cons (ps_set (i := 7) scMakes.nd rfl (Or.inl rfl) (pe_callTy (call_list_dT rfl) (by rfl) T.list (by decide +kernel) (pa_cons (pv 4) pa_nil)))
        (pss_one (ps_for PassesOwn.never rfl (pi_range2 (by rfl) T.range (pa_cons pe_int (pa_cons (pe_op op_add (pv 6) pe_int) pa_nil))) (pg_name (i := 8) scMakes.nd rfl (Or.inl rfl))
          (pss_cons (ps_set (i := 9) scMakes.nd rfl (Or.inl rfl) (pe_k cR hr (by decide) (by rfl) (pa_cons (pv 0) (pa_cons (pv 5) (pa_cons (pv 8) pa_nil)))))
          (pss_one (ps_for PassesOwn.never rfl (pi_list (pe_lst (pa_cons (pv 3) (StX.pa_star (pv 7) pa_nil)))) (pg_name (i := 10) scMakes.nd rfl (Or.inl rfl))
            (pss_one (ps_dput hu (pv 4) (pe_k cA hr (by decide) (by rfl) (pa_cons (pv 0) (pa_cons (pv 10) (pa_cons (pv 9) pa_nil)))) pe_bl rfl)))))))))
      (pss_one (ps_ret (pe_callTy call_tuple_of (by rfl) T.tuple (by decide +kernel) (pa_cons (pe_callB cr_sortE (by rfl) T.sorted (by decide +kernel) (pa_cons (pe_callTy (call_list_dT rfl) (by rfl) T.list (by decide +kernel) (pa_cons (pv 4) pa_nil)) pa_nil)) pa_nil))))), ?_⟩
    refine ⟨_, rfl, G, _, rfl, ⟨gA, rfl, hg⟩, ok.one, by omega, fun zV H1 s1 hz => fun d hd => ⟨_, _, rfl, ?_⟩⟩
    have d0 : H d = none := L2.Same.free s1 hd
    have s2 := sm_new (o := HO.dT []) hd
    have s02 := L2.Same.trans s1 s2
    have hz2 := hz.mono (tk s2)
    have hd2 : (upd H1 d (.dT [])) d = some (.dT (kT [])) := upd_same
    generalize upd H1 d (HO.dT []) = H2 at *
    have gne : gA ≠ d := ne_of_none hg d0
    have aneD : aA ≠ d := ne_of_none ha d0
    have bneD : bA ≠ d := ne_of_none hb d0
    refine ⟨_, rfl, _, rfl, _, _, _, _, rfl, .inr ⟨SqT.of (s02 _ _ ha), SqT.of (s02 _ _ hb), for_it (walk_zipT (n := marks.length) lms (by rw [List.length_map, zN_len, le]))
      (fun i σ H' => ∃ (v5 v6 v7 v8 v9 v10 : Option V) (fl : List Oh.El), σ = [some (.ref gA), some (.ref aA), some (.ref bA), some zV, some (.ref d), v5, v6, v7, v8, v9, v10] ∧ But d H2 H' ∧ H' d = some (.dT (kT fl)) ∧ fl.Nodup ∧ (∀ x ∈ fl, Oh.MemE G x) ∧
        ∀ x, Oh.Made G marks room (fun _ => False) x ↔ Oh.Made G (marks.drop i) (room.drop i) (fun y => y ∈ fl) x)
      ⟨none, none, none, none, none, none, [], rfl, But.refl _ _, hd2, by simp, by simp, fun x => Oh.made_congr (by simp) x⟩ (fun i σ H' _ ⟨_, _, _, _, _, _, _, _, b, _⟩ => ⟨SqT.of (b _ _ aneD (s02 _ _ ha)), SqT.of (b _ _ bneD (s02 _ _ hb))⟩) ?_ ?_⟩⟩
    · rintro i t σ H3 H4 hi ⟨v5, v6, v7, v8, v9, v10, fl, rfl, b3, hd3, nd3, mf3, made⟩ hy
      obtain ⟨t, u, v, rfl, ht, rfl, h1, h2⟩ := hy
      obtain ⟨rfl, hr2⟩ := at_nat h2
      obtain ⟨m, hm, hu1⟩ := Paired.get hms h1
      have mmk := mm m (List.mem_of_getElem? hm)
      have rle := mr _ (List.mem_of_getElem? hr2)
      have s4 := sm_new (o := HO.tup [u, V.int ((room.getD i 0 : Nat) : Int)]) ht
      have hd4 := s4 _ _ hd3
      have b4 : But d H2 (upd H3 t (.tup [u, V.int ((room.getD i 0 : Nat) : Int)])) := b3.trans (But.of s4)
      refine ⟨t, _, rfl, SqT.of upd_same, rfl, _, _, rfl, _, _, rfl, rfl, ?_⟩
      generalize upd H3 t (HO.tup [u, V.int ((room.getD i 0 : Nat) : Int)]) = H4 at *
      refine ⟨_, rfl, d, _, rfl, .inl hd4, fun p bs hp hbs => ?_⟩
      have ke := keys_els hbs
      have s5 := sm_new (o := HO.lst (bs.map V.ref)) hp
      have hd5 := s5 _ _ hd4
      have b5 : But d H2 (upd H4 p (.lst (bs.map V.ref))) := b4.trans (But.of s5)
      have ke5 := Els.mono (tk s5) ke
      have hp5 : (upd H4 p (.lst (bs.map V.ref))) p = some (.lst (bs.map V.ref)) := upd_same
      generalize upd H4 p (HO.lst (bs.map V.ref)) = H5 at *
      have nt2 := not_dT hd2
      have nt5 := not_dT hd5
      have pne : p ≠ d := ne_of hp5 hd5 (fun z => by cases z)
      have um : EV H5 u m := (hu1.mono (tk s02)).mono (b5.tk nt2)
      have hz5 := hz2.mono (b5.tk nt2)
      have hg5 := b5 _ _ gne (s02 _ _ hg)
      refine ⟨_, rfl, _, _, rfl, rfl, 1, ((room.getD i 0 : Nat) : Int) + 1, rfl, ⟨by omega, by omega, by omega, by omega⟩, ?_⟩
      have en : (((room.getD i 0 : Nat) : Int) + 1 - 1).toNat = room.getD i 0 := by omega
      rw [en]
      refine for_range (lo := 1) (n := room.getD i 0) (fun k σ H' => ∃ (v8 v9 v10 : Option V) (fl' : List Oh.El), σ = [some (.ref gA), some (.ref aA), some (.ref bA), some zV, some (.ref d), some u, some (.int ((room.getD i 0 : Nat) : Int)), some (.ref p), v8, v9, v10] ∧
        But d H5 H' ∧ H' d = some (.dT (kT fl')) ∧ fl'.Nodup ∧ (∀ x ∈ fl', Oh.MemE G x) ∧ ∀ x, x ∈ fl' ↔ Oh.MadeStep G (fun y => y ∈ fl) m k x) ⟨v8, v9, v10, fl, rfl, But.refl _ _, hd5, nd3, mf3, fun x => step_zero.symm⟩ ?_ ?_
      · rintro k σ H6 hk ⟨v8, v9, v10, fl', rfl, b6, hd6, nd6, mf6, st6⟩
        have t6 := b6.tk nt5
        refine ⟨_, rfl, _, rfl, _, rfl, G, m, 1 + (k : Int), _, _, rfl, ok.pos, ⟨gA, rfl, b6 _ _ gne hg5⟩, um.mono t6, mmk.len, by omega, by omega, by omega, fun sV H7 s7 hs7 => ?_⟩
        have hd7 := s7 _ _ hd6
        refine ⟨_, rfl, _, rfl, p, _, rfl, .inr (SqL.of (s7 _ _ (b6 _ _ pne hp5))), ?_, fun l hl => ?_⟩
        · have h1 := Paired.length ke5
          have h2 := few_of ok nd3 mf3
          rw [List.append_nil, List.length_cons, h1]
          exact Nat.le_of_lt (line_big (by omega))
        · rw [List.append_nil]
          have s8 := sm_new (o := HO.lst (zV :: bs.map V.ref)) hl
          have t58 := Tk.trans t6 (tk (L2.Same.trans s7 s8))
          refine ⟨l, rfl, ⟨_, SqL.of upd_same⟩, fill (gi := 0) (di := 4) (si := 9) (ji := 10) (xs := zV :: bs.map V.ref) (bs := Oh.zeroE G :: fl) (fl := fl') ok rfl rfl rfl (by decide) (by decide) (by decide) (by show 10 < 11; decide) ⟨v10, rfl⟩ (t58 _ _ hg5) (hs7.mono (tk s8)) (Oh.repE_mem ok.pos mmk.len).len
            upd_same (.cons (hz5.mono t58) (Els.mono t58 ke5)) (s8 _ _ hd7) nd6 mf6 (fun x hx => ?_) (fun vj H9 b9 hd9 => ?_)⟩
          · rcases List.mem_cons.mp hx with rfl | hx
            · exact Oh.zeroE_mem ok.pos
            · exact mf3 x hx
          · refine ⟨_, _, vj, _, rfl, b6.trans ((But.of (L2.Same.trans s7 s8)).trans b9), hd9, nodup_putAll nd6, ok_putAll ok mf6 (fun x hx => ?_) (Oh.repE_mem ok.pos mmk.len).len, fun x => ?_⟩
            · rcases List.mem_cons.mp hx with rfl | hx
              · exact Oh.zeroE_mem ok.pos
              · exact mf3 x hx
            · rw [mem_putAll, st6, step_mem]
              have e1 : (1 + (k : Int)) = (k : Int) + 1 := by omega
              rw [e1]
              constructor
              · rintro (h | ⟨b, hb, h⟩)
                · exact .inl h
                · exact .inr ⟨b, List.mem_cons.mp hb, h⟩
              · rintro (h | ⟨b, hb, h⟩)
                · exact .inl h
                · exact .inr ⟨b, List.mem_cons.mpr hb, h⟩
      · rintro σ H6 ⟨v8, v9, v10, fl', rfl, b6, hd6, nd6, mf6, st6⟩
        refine ⟨_, _, _, v8, v9, v10, fl', rfl, b5.trans b6, hd6, nd6, mf6, fun x => ?_⟩
        rw [made x, Oh.made_drop hm hr2]
        exact Oh.made_congr (fun y => (st6 y).symm) x
    · rintro σ H3 ⟨v5, v6, v7, v8, v9, v10, fl, rfl, b3, hd3, nd3, mf3, made⟩
      refine ⟨_, rfl, d, _, rfl, .inl hd3, fun r bs hr1 hbs => ?_⟩
      have ke := keys_els hbs
      have s7 := sm_new (o := HO.lst (bs.map V.ref)) hr1
      refine ⟨r, _, fl, G.length, rfl, SqL.of upd_same, Els.mono (tk s7) ke, ok.one, fun x hx => (mf3 x hx).len, fun ys mss r2 hys hperm hsrt hr2 => ?_⟩
      have s8 := sm_new (o := HO.lst ys) hr2
      refine ⟨r2, _, rfl, .inl ⟨SqL.of upd_same, fun t ht => ?_⟩⟩
      have s9 := sm_new (o := HO.tup ys) ht
      refine q _ _ mss (L2.Same.trans (b3.same s02 d0) (L2.Same.trans s7 (L2.Same.trans s8 s9))) ⟨t, ys, rfl, upd_same, Els.mono (tk (L2.Same.trans s8 s9)) hys⟩ fun x => ?_
      rw [hperm.mem_iff, made x, Oh.made_end (Nat.le_refl _)]
end
end OhL

set_option Elab.async false
set_option linter.all false
set_option maxRecDepth 100000
set_option maxHeartbeats 4000000
/-! bars: rows_of_room -/
namespace OhL
open PySem PySem.Spec PyProof.Rows L2
section
variable {P : Program} {w : World} {K : PySem.W.Frag} {mg : Str → Option Value} {base : Heap}
abbrev sRoom : Stmt := top 18
abbrev nRoom : List Str := ["group", "marks", "room", "found", "rows", "mark", "left", "sums", "step", "member"]
theorem scRoom : FnScope nRoom ["group", "marks", "room"] (defScope sRoom) := ⟨rfl, rfl, rfl, by decide +kernel, rfl, by decide +kernel, by decide +kernel⟩
def spRoom : Sp := fun vs H Q _ => ∃ (G : List Int) (marks : List Oh.El) (room : List Nat) (g a b : V), vs = [g, a, b] ∧ OkG G ∧ EV H g G ∧ ET H a marks ∧ EV H b (zN room) ∧ marks.length = room.length ∧ marks.length ≤ 1000 ∧ (∀ m ∈ marks, Oh.MemE G m) ∧ (∀ n ∈ room, n ≤ 1000) ∧
  ∀ v H', Same H H' → ETT H' v (Oh.rowsE G marks room [Oh.zeroE G]) → Q v H'
theorem ok_room (T : Glob mg) (cZ : Kept P w K mg base 1 "zero_of" ["group"] spZero) (cA : Kept P w K mg base 1 "added" ["group", "member", "other"] spAdded) (cS : Kept P w K mg base 2 "steps_of" ["group", "mark", "left"] spSteps)
    (h : Here K mg "rows_of_room" sRoom ["group", "marks", "room"]) : Kept P w K mg base 3 "rows_of_room" ["group", "marks", "room"] spRoom := by
  refine kept_of h scRoom (fun vs H Q E h => ?_) (fun f cdv A outer s H vs Q E hr h => ?_)
  · obtain ⟨G, marks, room, g, a, b, rfl, _⟩ := h
    rfl
  · obtain ⟨G, marks, room, g, a, b, rfl, ok, ⟨gA, rfl, hg⟩, ⟨aA, ms, rfl, ha, hms⟩, ⟨bA, rfl, hb⟩, le, lm, mm, mr, q⟩ := h
    have hu := hu_of hr
    have fw := ok.few
    have lms : ms.length = marks.length := Paired.length hms
    refine ⟨_, pss_cons (ps_par (i := 3) (j := 4) rfl scRoom.nd rfl rfl (by decide) rfl rfl (pa_cons (pe_lst (pa_cons (pe_k cZ hr (by decide) (by rfl) (pa_cons (pv 0) pa_nil)) pa_nil)) (pa_cons (pe_lst pa_nil) pa_nil)) (by rfl))
      (pss_cons (ps_for PassesOwn.never rfl (RZ.pi_zipA (by rfl) T.zip (pa_cons (pv 1) (pa_cons (pv 2) pa_nil))) (pg_tup rfl (pgs_cons (pg_name (i := 5) scRoom.nd rfl (Or.inl rfl)) (pgs_cons (pg_name (i := 6) scRoom.nd rfl (Or.inl rfl)) pgs_nil)))
        (pss_cons (ps_set (i := 7) scRoom.nd rfl (Or.inl rfl) pe_dnewT)
        (pss_cons (ps_for PassesOwn.never rfl (pi_list (pe_k cS hr (by decide) (by rfl) (pa_cons (pv 0) (pa_cons (pv 5) (pa_cons (pv 6) pa_nil))))) (pg_name (i := 8) scRoom.nd rfl (Or.inl rfl))
          (pss_one (ps_for PassesOwn.never rfl (pi_list (pv 3)) (pg_name (i := 9) scRoom.nd rfl (Or.inl rfl))
            (pss_one (ps_dput hu (pv 7) (pe_k cA hr (by decide) (by rfl) (pa_cons (pv 0) (pa_cons (pv 9) (pa_cons (pv 8) pa_nil)))) pe_bl rfl)))))
        (pss_cons (ps_set (i := 3) scRoom.nd rfl (Or.inl rfl) (pe_callB cr_sortE (by rfl) T.sorted (by decide +kernel) (pa_cons (pe_callTy (call_list_dT rfl) (by rfl) T.list (by decide +kernel) (pa_cons (pv 7) pa_nil)) pa_nil)))
        (pss_one (ps_expr (pe_bm PySem.F.plainAttrs_list PySem.F.slot_list_append PySem.F.type_list_append mt_append (pv 4) (pa_cons (pe_callTy call_tuple_of (by rfl) T.tuple (by decide +kernel) (pa_cons (pv 3) pa_nil)) pa_nil))))))))
      (pss_one (ps_ret (pe_callTy call_tuple_of (by rfl) T.tuple (by decide +kernel) (pa_cons (pv 4) pa_nil))))), ?_⟩
    refine ⟨_, rfl, G, _, rfl, ⟨gA, rfl, hg⟩, ok.one, by omega, fun zV H1 s1 hz => ⟨by show 1 ≤ sizeLine; decide, fun p hp => ⟨Nat.zero_le _, fun l hl => ⟨_, _, rfl, ?_⟩⟩⟩⟩
    have s2 := sm_new (o := HO.lst [zV]) hp
    have s3 := sm_new (o := HO.lst []) hl
    have s03 := L2.Same.trans s1 (L2.Same.trans s2 s3)
    have pnl : p ≠ l := ne_of_none upd_same hl
    have l0 : H l = none := L2.Same.free (L2.Same.trans s1 s2) hl
    have hp3 := s3 _ _ (upd_same (H := H1) (a := p) (o := HO.lst [zV]))
    have hz3 := hz.mono (tk (L2.Same.trans s2 s3))
    have hl3 : (upd (upd H1 p (.lst [zV])) l (.lst [])) l = some (.lst []) := upd_same
    generalize upd (upd H1 p (HO.lst [zV])) l (HO.lst []) = H3 at *
    refine ⟨_, rfl, _, rfl, _, _, _, _, rfl, .inr ⟨SqT.of (s03 _ _ ha), SqT.of (s03 _ _ hb), for_it (walk_zipT (n := marks.length) lms (by rw [List.length_map, zN_len, le]))
      (fun i σ H' => ∃ (v5 v6 v7 v8 v9 : Option V) (fA : Addr) (fs rs : List V) (fl : List Oh.El) (racc : List (List Oh.El)), σ = [some (.ref gA), some (.ref aA), some (.ref bA), some (.ref fA), some (.ref l), v5, v6, v7, v8, v9] ∧ Same H H' ∧ fA ≠ l ∧ H' fA = some (.lst fs) ∧ Els H' fs fl ∧
        fl.Nodup ∧ (∀ x ∈ fl, Oh.MemE G x) ∧ H' l = some (.lst rs) ∧ Paired (ET H') rs racc ∧ racc.length = i ∧ Oh.rowsE G marks room [Oh.zeroE G] = racc ++ Oh.rowsE G (marks.drop i) (room.drop i) fl)
      ⟨none, none, none, none, none, p, _, _, _, [], rfl, s03, pnl, hp3, .cons hz3 .nil, by simp, fun x hx => by
        have e : x = Oh.zeroE G := by simpa using hx
        rw [e]
        exact Oh.zeroE_mem ok.pos, hl3, by exact .nil, rfl, rfl⟩ (fun i σ H' _ ⟨_, _, _, _, _, _, _, _, _, _, _, s, _⟩ => ⟨SqT.of (s _ _ ha), SqT.of (s _ _ hb)⟩) ?_ ?_⟩⟩
    · rintro i t σ H4 H5 hi ⟨v5, v6, v7, v8, v9, fA, fs, rs, fl, racc, rfl, s4, fnl, hf4, hx4, nd4, mf4, hl4, hrs4, lr, rows⟩ hy
      obtain ⟨t, u, v, rfl, ht, rfl, h1, h2⟩ := hy
      obtain ⟨rfl, hrm⟩ := at_nat h2
      obtain ⟨m, hm, hu1⟩ := Paired.get hms h1
      have mmk := mm m (List.mem_of_getElem? hm)
      have rle := mr _ (List.mem_of_getElem? hrm)
      have s5 := sm_new (o := HO.tup [u, V.int ((room.getD i 0 : Nat) : Int)]) ht
      refine ⟨t, _, rfl, SqT.of upd_same, rfl, _, _, rfl, _, _, rfl, rfl, fun d hd => ?_⟩
      have s6 := sm_new (o := HO.dT []) hd
      have s46 := L2.Same.trans s5 s6
      have s06 := L2.Same.trans s4 s46
      have d4 : H4 d = none := L2.Same.free s5 hd
      have d0 : H d = none := L2.Same.free s4 d4
      have hd6 : (upd (upd H4 t (.tup [u, V.int ((room.getD i 0 : Nat) : Int)])) d (.dT [])) d = some (.dT (kT [])) := upd_same
      generalize upd (upd H4 t (HO.tup [u, V.int ((room.getD i 0 : Nat) : Int)])) d (HO.dT []) = H6 at *
      have um : EV H6 u m := hu1.mono (tk s06)
      refine ⟨_, rfl, _, rfl, _, rfl, G, m, room.getD i 0, _, _, rfl, ok, ⟨gA, rfl, s06 _ _ hg⟩, um, mmk.len, rle, fun sv H7 s7 hsv => ?_⟩
      obtain ⟨sA, sts, rfl, hsA, hsts⟩ := hsv
      have s07 := L2.Same.trans s06 s7
      have s47 := L2.Same.trans s46 s7
      have hd7 := s7 _ _ hd6
      have nt7 := not_dT hd7
      have sne : sA ≠ d := ne_of hsA hd7 (fun z => by cases z)
      have fne : fA ≠ d := ne_of (s47 _ _ hf4) hd7 (fun z => by cases z)
      have lne : l ≠ d := ne_of (s47 _ _ hl4) hd7 (fun z => by cases z)
      have gne : gA ≠ d := ne_of_none hg d0
      have lst : sts.length = room.getD i 0 + 1 := by rw [Paired.length hsts]; simp
      refine ⟨sA, rfl, ⟨_, SqL.of hsA⟩, for_list (K := K) (a := sA) (xs := sts) (fun j σ H' => ∃ (v8 v9 : Option V) (kl : List Oh.El), σ = [some (.ref gA), some (.ref aA), some (.ref bA), some (.ref fA), some (.ref l), some u, some (.int ((room.getD i 0 : Nat) : Int)), some (.ref d), v8, v9] ∧
        But d H7 H' ∧ H' d = some (.dT (kT kl)) ∧ kl.Nodup ∧ (∀ x ∈ kl, Oh.MemE G x) ∧ ∀ x, x ∈ kl ↔ ∃ b ∈ fl, ∃ k : Nat, k < j ∧ x = Oh.addE G b (Oh.repE G m (k : Int)))
        ⟨v8, v9, [], rfl, But.refl _ _, hd7, by simp, by simp, fun x => by
          constructor
          · intro z; simp at z
          · rintro ⟨_, _, k, hk, _⟩; omega⟩ (fun j σ H' _ ⟨_, _, _, _, b, _⟩ => SqL.of (b _ _ sne hsA)) ?_ ?_⟩
      · rintro j x σ H8 hj ⟨v8, v9, kl, rfl, b8, hd8, nd8, mf8, st8⟩
        obtain ⟨y, hy, hxy⟩ := Paired.get hsts hj
        have ey : y = Oh.repE G m (j : Int) := by
          rw [List.getElem?_map] at hy
          cases e : (List.range (room.getD i 0 + 1))[j]? with
          | none => rw [e] at hy; cases hy
          | some z =>
            rw [e] at hy
            obtain ⟨_, e2⟩ := List.getElem?_eq_some_iff.mp e
            rw [List.getElem_range] at e2
            rw [e2]
            exact (Option.some.inj hy).symm
        subst ey
        have t8 := b8.tk nt7
        have lrep := (Oh.repE_mem (c := (j : Int)) ok.pos mmk.len).len
        refine ⟨_, rfl, fA, rfl, ⟨_, SqL.of (b8 _ _ fne (s47 _ _ hf4))⟩, fill (gi := 0) (di := 7) (si := 8) (ji := 9) (xs := fs) (bs := fl) (fl := kl) ok rfl rfl rfl (by decide) (by decide) (by decide) (by show 9 < 10; decide) ⟨v9, rfl⟩ (b8 _ _ gne (s07 _ _ hg)) (hxy.mono t8) lrep
          (b8 _ _ fne (s47 _ _ hf4)) (Els.mono (Tk.trans (tk s47) t8) hx4) hd8 nd8 mf8 mf4 (fun vj H9 b9 hd9 => ?_)⟩
        refine ⟨_, vj, _, rfl, b8.trans b9, hd9, nodup_putAll nd8, ok_putAll ok mf8 mf4 lrep, fun x => ?_⟩
        rw [mem_putAll, st8]
        constructor
        · rintro (⟨b, hb, k, hk, e⟩ | ⟨b, hb, e⟩)
          · exact ⟨b, hb, k, by omega, e⟩
          · exact ⟨b, hb, j, by omega, e⟩
        · rintro ⟨b, hb, k, hk, e⟩
          by_cases z : k = j
          · subst z
            exact .inr ⟨b, hb, e⟩
          · exact .inl ⟨b, hb, k, by omega, e⟩
      · rintro σ H8 ⟨v8, v9, kl, rfl, b8, hd8, nd8, mf8, st8⟩
        rw [lst] at st8
        refine ⟨_, rfl, d, _, rfl, .inl hd8, fun r bs hr1 hbs => ?_⟩
        have ke := keys_els hbs
        have s9 := sm_new (o := HO.lst (bs.map V.ref)) hr1
        refine ⟨r, _, kl, G.length, rfl, SqL.of upd_same, Els.mono (tk s9) ke, ok.one, fun x hx => (mf8 x hx).len, fun ys mss r2 hys hperm hsrt hr2 => ?_⟩
        have s10 := sm_new (o := HO.lst ys) hr2
        have asc := asc_of hperm nd8 hsrt
        have em : mss = Oh.rowE G fl m (room.getD i 0) := Oh.rowE_is asc fun x => by
          rw [hperm.mem_iff, st8]
          constructor
          · rintro ⟨b, hb, k, hk, e⟩; exact ⟨b, hb, k, by omega, e⟩
          · rintro ⟨b, hb, k, hk, e⟩; exact ⟨b, hb, k, by omega, e⟩
        have t48 : Tk H4 H8 := Tk.trans (tk s47) (b8.tk nt7)
        have s810 := L2.Same.trans s9 s10
        have hl10 := s810 _ _ (b8 _ _ lne (s47 _ _ hl4))
        have hr10 : (upd (upd H8 r (.lst (bs.map V.ref))) r2 (.lst ys)) r2 = some (.lst ys) := upd_same
        have r2l : r2 ≠ l := fun z => by
          rw [z] at hr2
          rw [s9 _ _ (b8 _ _ lne (s47 _ _ hl4))] at hr2
          cases hr2
        have hys10 := Els.mono (tk s10) hys
        have s010 := L2.Same.trans (b8.same s07 d0) s810
        have hrs10 := ets_mono (Tk.trans t48 (tk s810)) hrs4
        generalize upd (upd H8 r (HO.lst (bs.map V.ref))) r2 (HO.lst ys) = H10 at *
        refine ⟨_, rfl, .inl ⟨rfl, _, SqL.of hl10⟩, _, rfl, r2, ys, rfl, .inl ⟨SqL.of hr10, fun tp htp => ?_⟩⟩
        have s11 := sm_new (o := HO.tup ys) htp
        have hl11 := s11 _ _ hl10
        have rlen : rs.length < sizeLine := by
          have := Paired.length hrs4
          exact line_big (by omega)
        refine ⟨l, rs, _, rfl, rfl, hl11, rlen, ?_⟩
        have t12 : Tk (upd H10 tp (.tup ys)) (upd (upd H10 tp (.tup ys)) l (.lst (rs ++ [.ref tp]))) := (Tk.refl _).upd (not_tup hl11)
        have htp12 : (upd (upd H10 tp (.tup ys)) l (.lst (rs ++ [.ref tp]))) tp = some (.tup ys) := t12 _ _ upd_same
        refine ⟨_, _, _, v8, v9, r2, ys, _, mss, racc ++ [mss], rfl, sm_upd (L2.Same.trans s010 s11) l0, r2l, ?_, Els.mono (Tk.trans (tk s11) t12) hys10, asc.nodup, fun x hx => mf8 x (hperm.mem_iff.mp hx), upd_same,
          Paired.append (ets_mono (Tk.trans (tk s11) t12) hrs10) (.cons ⟨tp, ys, rfl, htp12, Els.mono (Tk.trans (tk s11) t12) hys10⟩ .nil), by rw [List.length_append, lr]; rfl, ?_⟩
        · rw [upd_ne r2l]
          exact s11 _ _ hr10
        · rw [rows, Oh.rows_drop hm hrm, em, List.append_assoc]
          rfl
    · rintro σ H4 ⟨v5, v6, v7, v8, v9, fA, fs, rs, fl, racc, rfl, s4, fnl, hf4, hx4, nd4, mf4, hl4, hrs4, lr, rows⟩
      rw [Oh.rows_end (Nat.le_refl _), List.append_nil] at rows
      refine ⟨_, rfl, l, rs, rfl, .inl ⟨SqL.of hl4, fun t ht => q _ _ (L2.Same.trans s4 (sm_new ht)) ⟨t, rs, rfl, upd_same, ?_⟩⟩⟩
      rw [rows]
      exact ets_mono (tk (sm_new ht)) hrs4
end
end OhL

set_option Elab.async false
set_option linter.all false
set_option maxRecDepth 100000
set_option maxHeartbeats 4000000
/-! barring: bar, is_killing, is_row -/
namespace OhL
open PySem PySem.Spec PyProof.Rows L2
theorem lexE : ∀ x y : List Int, HT.lexLt x y = Oh.ltE x y
  | [], [] => rfl
  | [], _ :: _ => rfl
  | _ :: _, [] => rfl
  | a :: x, b :: y => by
    rw [HT.lexLt_cons, lexE x y]
    show _ = (decide (a < b) || (decide (a = b) && Oh.ltE x y))
    by_cases h : a = b
    · subst h
      simp
    · simp [h]
theorem find_at {α : Type} {q : α → Bool} : ∀ {l : List α} {i : Nat} {c : α}, l[i]? = some c → q c = true → (∀ y ∈ l.take i, q y = false) → l.find? q = some c
  | [], i, c, h, _, _ => by simp at h
  | x :: l, 0, c, h, hq, _ => by
    have e : x = c := by simpa using h
    subst e
    exact List.find?_cons_of_pos hq
  | x :: l, i + 1, c, h, hq, hn => by
    have hx : q x = false := hn x (by rw [List.take_succ_cons]; exact List.mem_cons_self)
    rw [List.find?_cons_of_neg (by rw [hx]; exact Bool.false_ne_true)]
    exact find_at (by simpa using h) hq fun y hy => hn y (by rw [List.take_succ_cons]; exact List.mem_cons_of_mem _ hy)
theorem char_filter (G : List Int) (S : List Oh.El) (x : Oh.El) : ((Oh.membersE G).filter fun c => S.all (Oh.killsE G c)).find? (fun c => !Oh.killsE G c x) = Oh.charOf G S x := by
  unfold Oh.charOf
  generalize Oh.membersE G = l
  induction l with
  | nil => rfl
  | cons a l ih =>
    rw [List.filter_cons]
    by_cases h : S.all (Oh.killsE G a) = true
    · rw [if_pos h]
      by_cases h2 : Oh.killsE G a x = true
      · rw [List.find?_cons_of_neg (by simp [h2]), List.find?_cons_of_neg (by simp [h2]), ih]
      · have h3 : Oh.killsE G a x = false := by simpa using h2
        rw [List.find?_cons_of_pos (by simp [h3]), List.find?_cons_of_pos (by rw [h, h3]; rfl)]
    · rw [if_neg h, List.find?_cons_of_neg (by simp only [Bool.and_eq_true]; exact fun z => h z.2), ih]
theorem made_in {G : List Int} {marks : List Oh.El} {room : List Nat} {x : Oh.El} (hp : Oh.Pos G) (hm : ∀ m ∈ marks, Oh.MemE G m) (hx : x ≠ Oh.zeroE G) :
    x ∈ Oh.lastE G marks room [Oh.zeroE G] ↔ Oh.Made G marks room (fun _ => False) x := by
  have := Oh.made_last hp (marks := marks) (room := room) (M := fun _ => False) (ahead := [Oh.zeroE G]) hm (fun y hy => by
    have e : y = Oh.zeroE G := by simpa using hy
    rw [e]
    exact Oh.zeroE_mem hp) (fun y => by simp) x
  rw [this]
  exact ⟨fun h => h.elim (fun e => absurd e hx) id, .inr⟩
theorem sqt_same {K : PySem.W.Frag} {H H' : Hp} {a : Addr} {xs : List V} (s : Same H H') (h : SqT K H a xs) : SqT K H' a xs := by
  rcases h with (h | ⟨o, h⟩) | h
  · exact .inl (.inl (s _ _ h))
  · exact .inl (.inr ⟨o, s _ _ h⟩)
  · exact .inr h
theorem hu65 {k : Nat} {A : Around} (hr : Room k A) : A.units + 65 < cLine := by have := hr.un; omega
section
variable {P : Program} {w : World} {K : PySem.W.Frag} {mg : Str → Option Value} {base : Heap}

/-! ### bar -/
abbrev sBar : Stmt := top 19
abbrev nBar : List Str := ["group", "marks", "room", "member", "character"]
theorem scBar : FnScope nBar ["group", "marks", "room", "member"] (defScope sBar) := ⟨rfl, rfl, rfl, by decide +kernel, rfl, by decide +kernel, by decide +kernel⟩
def spBar : Sp := fun vs H Q _ => ∃ (G : List Int) (marks : List Oh.El) (room : List Nat) (x : Oh.El) (g a b m : V), vs = [g, a, b, m] ∧ OkG G ∧ EV H g G ∧ ET H a marks ∧ EV H b (zN room) ∧ EV H m x ∧ marks.length = room.length ∧ marks.length ≤ 1000 ∧ (∀ m ∈ marks, Oh.MemE G m) ∧ (∀ n ∈ room, n ≤ 1000) ∧
  Oh.MemE G x ∧ x ≠ Oh.zeroE G ∧ ∀ v H', Same H H' → BV H' v (Oh.barE G marks room x) → Q v H'
theorem ok_bar (T : Glob mg) (cM : Kept P w K mg base 2 "makes" ["group", "marks", "room"] spMakes) (cC : Kept P w K mg base 3 "characters" ["group", "some"] spChars) (cO : Kept P w K mg base 1 "open_marks" ["marks", "room"] spOpen)
    (cK : Kept P w K mg base 1 "kills" ["group", "character", "member"] spKills) (cR : Kept P w K mg base 3 "rows_of_room" ["group", "marks", "room"] spRoom)
    (h : Here K mg "bar" sBar ["group", "marks", "room", "member"]) : Kept P w K mg base 4 "bar" ["group", "marks", "room", "member"] spBar := by
  refine kept_of h scBar (fun vs H Q E h => ?_) (fun f cdv A outer s H vs Q E hr h => ?_)
  · obtain ⟨G, marks, room, x, g, a, b, m, rfl, _⟩ := h
    rfl
  · obtain ⟨G, marks, room, x, g, a, b, m, rfl, ok, hg, ha, hb, hm, le, lm, mm, mr, mx, nx, q⟩ := h
    refine ⟨_, pss_cons (ps_if (pt_cmpR (op_inU (hu65 hr)) (pv 3) (pe_k cM hr (by decide) (by rfl) (pa_cons (pv 0) (pa_cons (pv 1) (pa_cons (pv 2) pa_nil)))) (by rfl)) (pss_one (ps_ret pe_non)) pss_nil)
      (pss_cons (ps_for PassesOwn.never rfl (pi_tup (pe_k cC hr (by decide) (by rfl) (pa_cons (pv 0) (pa_cons (pe_k cO hr (by decide) (by rfl) (pa_cons (pv 1) (pa_cons (pv 2) pa_nil))) pa_nil)))) (pg_name (i := 4) scBar.nd rfl (Or.inl rfl))
        (pss_one (ps_if (pt_not (pt_val (pe_k cK hr (by decide) (by rfl) (pa_cons (pv 0) (pa_cons (pv 4) (pa_cons (pv 3) pa_nil)))))) (pss_one (ps_ret (pe_tup (pa_cons pe_str (pa_cons (pv 4) pa_nil))))) pss_nil)))
      (pss_one (ps_ret (pe_tup (pa_cons pe_str (pa_cons (pe_k cR hr (by decide) (by rfl) (pa_cons (pv 0) (pa_cons (pv 1) (pa_cons (pv 2) pa_nil)))) pa_nil)))))), ?_⟩
    refine ⟨_, rfl, _, rfl, _, rfl, _, rfl, G, marks, room, _, _, _, rfl, ok, hg, ha, hb, le, lm, mm, mr, fun v H1 l s1 hv hl => ?_⟩
    obtain ⟨lA, ls, rfl, hlA, hls⟩ := hv
    refine ⟨_, _, (hm.mono (tk s1)).dp, .tup (SqT.of hlA) (Els.dp hls), sh_E x, sh_T l, _, rfl, ?_⟩
    rw [any_dE]
    have iff := (made_in (room := room) ok.pos mm nx).trans (hl x).symm
    refine ite2 (fun z => ?_) (fun z => ?_)
    · have hin := iff.mpr (of_decide_eq_true z)
      refine q _ _ s1 ?_
      unfold Oh.barE
      rw [if_pos hin]
      rfl
    · have hout : ¬ x ∈ Oh.lastE G marks room [Oh.zeroE G] := fun y => z (decide_eq_true (iff.mp y))
      refine ⟨_, rfl, _, rfl, _, rfl, marks, room, _, _, rfl, ha.mono (tk s1), hb.mono (tk s1), le, lm, fun o H2 s2 ho => ?_⟩
      have s12 := L2.Same.trans s1 s2
      have lo : (Oh.openE marks room).length ≤ 1000 := by
        rw [Oh.open_filter le, List.length_map]
        exact Nat.le_trans (List.length_filter_le _ _) (by rw [List.length_range]; exact lm)
      refine ⟨G, _, _, _, rfl, ok, hg.mono (tk s12), ho, lo, Oh.openE_mem mm, fun c H3 s3 hc => ?_⟩
      obtain ⟨cA, cs, rfl, hcA, hcs⟩ := hc
      have s13 := L2.Same.trans s12 s3
      have lcs := Paired.length hcs
      have hch := char_filter G (Oh.openE marks room) x
      have mcs : ∀ c ∈ (Oh.membersE G).filter fun c => (Oh.openE marks room).all (Oh.killsE G c), Oh.MemE G c := fun c hc => (Oh.mem_members ok.pos c).mp (List.mem_filter.mp hc).1
      generalize ((Oh.membersE G).filter fun c => (Oh.openE marks room).all (Oh.killsE G c)) = cl at *
      have hb0 : Oh.barE G marks room x = match Oh.charOf G (Oh.openE marks room) x with
          | some c => .char c
          | none => .sums (Oh.rowsE G marks room [Oh.zeroE G]) := by
        unfold Oh.barE
        exact if_neg hout
      refine ⟨cA, rfl, ⟨_, SqT.of hcA⟩, for_tup (K := K) (a := cA) (xs := cs) (fun i σ H' => ∃ (v4 : Option V), σ = [some g, some a, some b, some m, v4] ∧ Same H3 H' ∧ ∀ y ∈ cl.take i, (!Oh.killsE G y x) = false)
        ⟨none, rfl, L2.Same.refl H3, by simp⟩ (fun i σ H' _ ⟨_, _, s, _⟩ => SqT.of (s _ _ hcA)) ?_ ?_⟩
      · rintro i t σ H4 hi ⟨v4, rfl, s4, hno⟩
        obtain ⟨c, hc, hxc⟩ := Paired.get hcs hi
        have mc := mcs c (List.mem_of_getElem? hc)
        have s04 := L2.Same.trans s13 s4
        refine ⟨_, rfl, _, rfl, _, rfl, G, c, x, _, _, _, rfl, ok, hg.mono (tk s04), hxc.mono (tk s4), hm.mono (tk s04), mc, mx, fun H5 s5 => ?_⟩
        have s05 := L2.Same.trans s04 s5
        refine ⟨_, rfl, ?_⟩
        cases hk : Oh.killsE G c x with
        | true =>
          refine ⟨_, rfl, L2.Same.trans s4 s5, fun y hy => ?_⟩
          rw [take_succ_get hc] at hy
          rcases List.mem_append.mp hy with hy | hy
          · exact hno y hy
          · have e : y = c := by simpa using hy
            rw [e, hk]
            rfl
        | false =>
          have hf := find_at (q := fun c => !Oh.killsE G c x) hc (by rw [hk]; rfl) hno
          rw [hch] at hf
          rw [hf] at hb0
          refine ⟨_, rfl, by show 2 ≤ sizeLine; decide, fun p hp => q _ _ (L2.Same.trans s05 (sm_new hp)) ?_⟩
          rw [hb0]
          exact ⟨p, _, rfl, upd_same, hxc.mono (tk (L2.Same.trans s4 (L2.Same.trans s5 (sm_new hp))))⟩
      · rintro σ H4 ⟨v4, rfl, s4, hno⟩
        rw [lcs, List.take_length] at hno
        have hf : cl.find? (fun c => !Oh.killsE G c x) = none := List.find?_eq_none.mpr fun y hy => by rw [hno y hy]; exact Bool.false_ne_true
        rw [hch] at hf
        rw [hf] at hb0
        have s04 := L2.Same.trans s13 s4
        refine ⟨_, rfl, _, rfl, _, rfl, G, marks, room, _, _, _, rfl, ok, hg.mono (tk s04), ha.mono (tk s04), hb.mono (tk s04), le, lm, mm, mr, fun r H5 s5 hr5 => ?_⟩
        refine ⟨by show 2 ≤ sizeLine; decide, fun p hp => q _ _ (L2.Same.trans s04 (L2.Same.trans s5 (sm_new hp))) ?_⟩
        rw [hb0]
        exact ⟨p, _, rfl, upd_same, hr5.mono (tk (sm_new hp))⟩

/-! ### is_killing -/
abbrev sIsK : Stmt := top 20
abbrev nIsK : List Str := ["group", "marks", "room", "member", "value", "mark"]
theorem scIsK : FnScope nIsK ["group", "marks", "room", "member", "value"] (defScope sIsK) := ⟨rfl, rfl, rfl, by decide +kernel, rfl, by decide +kernel, by decide +kernel⟩
def spIsK : Sp := fun vs H Q _ => ∃ (G : List Int) (marks : List Oh.El) (room : List Nat) (x c : Oh.El) (g a b m u : V), vs = [g, a, b, m, u] ∧ OkG G ∧ EV H g G ∧ ET H a marks ∧ EV H b (zN room) ∧ EV H m x ∧ EV H u c ∧ marks.length = room.length ∧ marks.length ≤ 1000 ∧ (∀ m ∈ marks, Oh.MemE G m) ∧
  Oh.MemE G x ∧ Oh.MemE G c ∧ Oh.killsE G c x = false ∧ (∀ s ∈ Oh.openE marks room, Oh.killsE G c s = true) ∧ ∀ H', Same H H' → Q (.bl true) H'
theorem ok_isK (T : Glob mg) (cI : Kept P w K mg base 2 "is_member" ["group", "value"] spIsMem) (cO : Kept P w K mg base 1 "open_marks" ["marks", "room"] spOpen)
    (cK : Kept P w K mg base 1 "kills" ["group", "character", "member"] spKills) (h : Here K mg "is_killing" sIsK ["group", "marks", "room", "member", "value"]) : Kept P w K mg base 3 "is_killing" ["group", "marks", "room", "member", "value"] spIsK := by
  refine kept_of h scIsK (fun vs H Q E h => ?_) (fun f cdv A outer s H vs Q E hr h => ?_)
  · obtain ⟨G, marks, room, x, c, g, a, b, m, u, rfl, _⟩ := h
    rfl
  · obtain ⟨G, marks, room, x, c, g, a, b, m, u, rfl, ok, hg, ha, hb, hm, hu, le, lm, mm, mx, mc, hkx, hks, q⟩ := h
    refine ⟨_, pss_cons (ps_if (PW.pt (pw_or (pt_not (pt_val (pe_k cI hr (by decide) (by rfl) (pa_cons (pv 0) (pa_cons (pv 4) pa_nil)))))
        (pw_or1 (pt_val (pe_k cK hr (by decide) (by rfl) (pa_cons (pv 0) (pa_cons (pv 4) (pa_cons (pv 3) pa_nil)))))))) (pss_one (ps_ret pe_bl)) pss_nil)
      (pss_one (ps_ret (pe_callB (cr_all rfl) (by rfl) T.all (by decide +kernel) (pa_cons (pe_lc (own := [("mark", 5)]) (g := gName 5) (tt := tYes) rfl scIsK.nd (pi_list (pe_k cO hr (by decide) (by rfl) (pa_cons (pv 1) (pa_cons (pv 2) pa_nil)))) (blkOk_by (N := nIsK) (sc := defScope sIsK) (by decide +kernel))
          (fun _ _ _ _ _ => pg_name (i := 5) scIsK.nd rfl (Or.inl rfl)) (fun _ _ _ _ _ => pts_nil) (fun _ _ _ _ _ => pe_k cK hr (by decide) (by rfl) (pa_cons (pv 0) (pa_cons (pv 4) (pa_cons (pv 5) pa_nil))))) pa_nil)))), ?_⟩
    refine ⟨_, rfl, _, rfl, G, c, _, _, rfl, ok, hg, hu, mc, fun H1 s1 => ⟨true, rfl, ?_⟩⟩
    refine ⟨_, rfl, _, rfl, _, rfl, G, c, x, _, _, _, rfl, ok, hg.mono (tk s1), hu.mono (tk s1), hm.mono (tk s1), mc, mx, fun H2 s2 => ?_⟩
    refine ⟨_, rfl, ?_⟩
    rw [hkx]
    have s12 := L2.Same.trans s1 s2
    refine ⟨_, rfl, _, rfl, marks, room, _, _, rfl, ha.mono (tk s12), hb.mono (tk s12), le, lm, fun o H3 s3 ho => ?_⟩
    obtain ⟨oA, os, rfl, hoA, hos⟩ := ho
    have s13 := L2.Same.trans s12 s3
    have lo : os.length ≤ 1000 := by
      rw [Paired.length hos, Oh.open_filter le, List.length_map]
      exact Nat.le_trans (List.length_filter_le _ _) (by rw [List.length_range]; exact lm)
    refine ⟨oA, rfl, ⟨_, SqL.of hoA⟩, fun D hD => ?_⟩
    refine lc_pure (walk_list (xs := os)) (by omega) hD (fun _ => true) (fun k y' _ => y' = V.bl true) (fun _ _ _ _ _ r => r)
      (fun H4 s => SqL.of (s _ _ hoA)) (fun k t H4 H5 hk s4 hy Q1 Q0 k1 k0 => ?_) (fun zs H4 s4 hD4 hz => ?_)
    · obtain ⟨rfl, ht⟩ := hy
      obtain ⟨z, hz, htz⟩ := Paired.get hos ht
      have mz := List.mem_of_getElem? hz
      have s04 := L2.Same.trans s13 s4
      refine ⟨rfl, _, rfl, _, rfl, _, rfl, G, c, z, _, _, _, rfl, ok, hg.mono (tk s04), hu.mono (tk s04), htz.mono (tk s4), mc, Oh.openE_mem mm z mz, fun H5 s5 => k1 _ _ s5 rfl ?_⟩
      rw [hks z mz]
    · rw [range_all] at hz
      have e := paired_fn hz
      have e2 : zs = ((List.range os.length).map fun _ => true).map V.bl := by rw [e, List.map_map]; rfl
      rw [e2] at hD4
      refine ⟨D, _, rfl, SqL.of hD4, ?_⟩
      have e3 : (((List.range os.length).map fun _ => true).all id) = true := by simp
      rw [e3]
      exact q _ (L2.Same.trans s13 s4)

/-! ### is_row -/
theorem sl_tail {a : Addr} {xs : List V} {H : Hp} {Q : VK} (ha : SqT K H a xs) (q : ∀ b H', Same H H' → SqT K H' b (xs.drop 1) → Q (.ref b) H') : rSlA K (.ref a) (some 1) none H Q := by
  have e1 : HT.sIx xs.length 0 (some 1) = min 1 xs.length := HT.sIx_nat xs.length 0 1
  refine ⟨a, xs, rfl, ha, fun h => ?_, fun h p hp => ?_⟩
  · rw [e1] at h
    have hl : xs = [] := List.length_eq_zero_iff.mp (by omega)
    subst hl
    exact q a H (L2.Same.refl H) ha
  · refine q p _ (sm_new hp) ?_
    have hc : cutV xs (some 1) none = xs.drop 1 := by
      have hl : 1 ≤ xs.length := by
        cases xs with
        | nil => exact absurd ⟨by rw [e1]; rfl, rfl⟩ h
        | cons x xs => exact Nat.succ_le_succ (Nat.zero_le _)
      unfold cutV
      rw [e1, Nat.min_eq_left hl, HT.sIx_none]
      exact List.take_of_length_le (by rw [List.length_drop]; omega)
    rw [hc]
    exact SqT.of upd_same
abbrev sIsRow : Stmt := top 21
abbrev nIsRow : List Str := ["group", "value", "item", "one", "other"]
theorem scIsRow : FnScope nIsRow ["group", "value"] (defScope sIsRow) := ⟨rfl, rfl, rfl, by decide +kernel, rfl, by decide +kernel, by decide +kernel⟩
def spIsRow : Sp := fun vs H Q _ => ∃ (G : List Int) (row : List Oh.El) (g a : V), vs = [g, a] ∧ OkG G ∧ EV H g G ∧ ET H a row ∧ row.length ≤ 1000 ∧ (∀ x ∈ row, Oh.MemE G x) ∧ Oh.Asc row ∧ ∀ H', Same H H' → Q (.bl true) H'
theorem ok_isRow (T : Glob mg) (cI : Kept P w K mg base 2 "is_member" ["group", "value"] spIsMem) (h : Here K mg "is_row" sIsRow ["group", "value"]) : Kept P w K mg base 3 "is_row" ["group", "value"] spIsRow := by
  refine kept_of h scIsRow (fun vs H Q E h => ?_) (fun f cdv A outer s H vs Q E hr h => ?_)
  · obtain ⟨G, row, g, a, rfl, _⟩ := h
    rfl
  · obtain ⟨G, row, g, a, rfl, ok, hg, ⟨aA, xs, rfl, ha, hx⟩, lr, mr, asc, q⟩ := h
    have lx := Paired.length hx
    refine ⟨_, pss_cons (ps_if (PW.pt (pw_or (pt_not (pt_val (pe_callB call_isi (by rfl) T.isinstance (by decide +kernel) (pa_cons (pv 1) (pa_cons (pe_bltn (v := .ty "tuple") (by rfl) T.tuple (by decide +kernel) rfl) pa_nil)))))
        (pw_or1 (pt_not (pt_val (pe_callB (cr_all rfl) (by rfl) T.all (by decide +kernel) (pa_cons (pe_lc (own := [("item", 2)]) (g := gName 2) (tt := tYes) rfl scIsRow.nd (pi_tup (pv 1)) (blkOk_by (N := nIsRow) (sc := defScope sIsRow) (by decide +kernel))
          (fun _ _ _ _ _ => pg_name (i := 2) scIsRow.nd rfl (Or.inl rfl)) (fun _ _ _ _ _ => pts_nil) (fun _ _ _ _ _ => pe_k cI hr (by decide) (by rfl) (pa_cons (pv 0) (pa_cons (pv 2) pa_nil)))) pa_nil))))))) (pss_one (ps_ret pe_bl)) pss_nil)
      (pss_one (ps_ret (pe_callB (cr_all rfl) (by rfl) T.all (by decide +kernel) (pa_cons (pe_lc (own := [("one", 3), ("other", 4)]) (g := gTup K 2 (gCons (gName 3) (gCons (gName 4) gNil))) (tt := tYes) (te := tOp (rLtT K) (tVar 3) (tVar 4)) rfl scIsRow.nd
        (RZ.pi_zipA (by rfl) T.zip (pa_cons (pv 1) (pa_cons (pe_slice sl_tupA (pv 1) (po_some pe_int) po_none) pa_nil))) (blkOk_by (N := nIsRow) (sc := defScope sIsRow) (by decide +kernel))
        (fun _ _ _ _ _ => pg_tup rfl (pgs_cons (pg_name (i := 3) scIsRow.nd rfl (Or.inl rfl)) (pgs_cons (pg_name (i := 4) scIsRow.nd rfl (Or.inl rfl)) pgs_nil)))
        (fun _ _ _ _ _ => pts_nil) (fun _ _ _ _ _ => pe_cmpR (op_ltT hr.units0) (pv 3) (pv 4) (nomark _))) pa_nil)))), ?_⟩
    refine ⟨_, rfl, _, _, _, _, true, rfl, .ty _, .base (.tup ha), kit_ty (by decide +kernel), true, rfl, ?_⟩
    refine ⟨_, rfl, aA, rfl, ⟨_, SqT.of ha⟩, fun D hD => ?_⟩
    refine lc_pure (walk_tup (xs := xs)) (by omega) hD (fun _ => true) (fun i y' _ => y' = V.bl true) (fun _ _ _ _ _ r => r)
      (fun H1 s => SqT.of (s _ _ ha)) (fun i t H1 H2 hi s1 hy Q1 Q0 k1 k0 => ?_) (fun ys H1 s1 hD1 hp1 => ?_)
    · obtain ⟨rfl, ht⟩ := hy
      obtain ⟨z, hz, htz⟩ := Paired.get hx ht
      exact ⟨rfl, _, rfl, _, rfl, G, z, _, _, rfl, ok, hg.mono (tk s1), htz.mono (tk s1), mr z (List.mem_of_getElem? hz), fun H5 s5 => k1 _ _ s5 rfl rfl⟩
    · rw [range_all] at hp1
      have e := paired_fn hp1
      have e2 : ys = ((List.range xs.length).map fun _ => true).map V.bl := by rw [e, List.map_map]; rfl
      rw [e2] at hD1
      refine ⟨D, _, rfl, SqL.of hD1, _, rfl, ?_⟩
      have e3 : (((List.range xs.length).map fun _ => true).all id) = true := by simp
      rw [e3]
      have ha1 := s1 _ _ ha
      refine ⟨_, rfl, _, rfl, _, rfl, ?_⟩
      dsimp only [tNoPart]
      refine sl_tail (SqT.of ha1) (fun b H2 s2 hb2 => ?_)
      have s12 := L2.Same.trans s1 s2
      refine ⟨_, _, _, _, rfl, .inr ⟨SqT.of (s12 _ _ ha), hb2, fun D2 hD2 => ?_⟩⟩
      have lb : (xs.drop 1).length = xs.length - 1 := by rw [List.length_drop]
      refine lc_pure (walk_zipTm (n := xs.length - 1) (xs := xs) (ys := xs.drop 1) (by omega)) (by omega) hD2 (fun _ => true) (fun i y' _ => y' = V.bl true) (fun _ _ _ _ _ r => r)
        (fun H3 s => ⟨SqT.of (s _ _ (s12 _ _ ha)), by
          exact sqt_same s hb2⟩) (fun i t H3 H4 hi s3 hy Q1 Q0 k1 k0 => ?_) (fun zs H3 s3 hD3 hz => ?_)
      · obtain ⟨t, u, v, rfl, ht, rfl, h1, h2⟩ := hy
        have s03 := L2.Same.trans s12 s3
        have s04 := sm_new (o := HO.tup [u, v]) ht
        have s05 := L2.Same.trans s03 s04
        have h2' : (xs.drop 1)[i]? = some v := h2
        rw [List.getElem?_drop] at h2'
        obtain ⟨x1, e1, ⟨b1, rfl, hb1⟩⟩ := Paired.get hx h1
        obtain ⟨x2, e2, ⟨b2, rfl, hb2⟩⟩ := Paired.get hx h2'
        refine ⟨t, _, rfl, SqT.of upd_same, rfl, _, _, rfl, _, _, rfl, rfl, rfl, _, rfl, _, rfl, b1, b2, x1, x2, rfl, rfl, SqT.of (s05 _ _ hb1), SqT.of (s05 _ _ hb2), k1 _ _ s04 rfl ?_⟩
        rw [lexE]
        obtain ⟨l1, f1⟩ := List.getElem?_eq_some_iff.mp e1
        obtain ⟨l2, f2⟩ := List.getElem?_eq_some_iff.mp e2
        have := List.pairwise_iff_getElem.mp asc i (1 + i) l1 l2 (by omega)
        rw [f1, f2] at this
        rw [this]
      · rw [range_all] at hz
        have e := paired_fn hz
        have e2 : zs = ((List.range (xs.length - 1)).map fun _ => true).map V.bl := by rw [e, List.map_map]; rfl
        rw [e2] at hD3
        refine ⟨D2, _, rfl, SqL.of hD3, ?_⟩
        have e3 : (((List.range (xs.length - 1)).map fun _ => true).all id) = true := by simp
        rw [e3]
        exact q _ (L2.Same.trans s12 s3)
end
end OhL

set_option Elab.async false
set_option linter.all false
set_option maxRecDepth 100000
set_option maxHeartbeats 4000000
/-! barring: are_closed, bar_holds -/
namespace Oh
theorem last_drop {G : List Int} {marks : List El} {room : List Nat} {i : Nat} {mark : El} {top : Nat} {a : List El} (h1 : marks[i]? = some mark) (h2 : room[i]? = some top) :
    lastE G (marks.drop i) (room.drop i) a = lastE G (marks.drop (i + 1)) (room.drop (i + 1)) (rowE G a mark top) := by
  obtain ⟨l1, e1⟩ := List.getElem?_eq_some_iff.mp h1
  obtain ⟨l2, e2⟩ := List.getElem?_eq_some_iff.mp h2
  rw [List.drop_eq_getElem_cons l1, List.drop_eq_getElem_cons l2, e1, e2]
  rfl
theorem last_end {G : List Int} {marks : List El} {room : List Nat} {i : Nat} {a : List El} (h : marks.length ≤ i) : lastE G (marks.drop i) (room.drop i) a = a := by
  rw [List.drop_eq_nil_of_le h]
  rfl
/-- every row is an ascending row of elements -/
theorem rows_ok {G : List Int} (hp : Pos G) : ∀ {marks : List El} {room : List Nat} {a : List El}, (∀ m ∈ marks, MemE G m) → (∀ x ∈ a, MemE G x) → ∀ row ∈ rowsE G marks room a, Asc row ∧ ∀ x ∈ row, MemE G x
  | [], _, _, _, _, row, h => by simp [rowsE] at h
  | _ :: _, [], _, _, _, row, h => by simp [rowsE] at h
  | m :: marks, top :: room, a, hm, ha, row, h => by
    have h' : row ∈ rowE G a m top :: rowsE G marks room (rowE G a m top) := h
    have k := rowE_mem (top := top) hp ha (hm m List.mem_cons_self)
    rcases List.mem_cons.mp h' with rfl | h'
    · exact ⟨rowE_asc, k⟩
    · exact rows_ok hp (fun x hx => hm x (List.mem_cons_of_mem _ hx)) k row h'
end Oh
namespace OhL
open PySem PySem.Spec PyProof.Rows L2
section
variable {P : Program} {w : World} {K : PySem.W.Frag} {mg : Str → Option Value} {base : Heap}

/-! ### are_closed -/
abbrev sAreC : Stmt := top 22
abbrev nAreC : List Str := ["group", "marks", "room", "member", "value", "row", "ahead", "mark", "left", "step", "own"]
theorem scAreC : FnScope nAreC ["group", "marks", "room", "member", "value"] (defScope sAreC) := ⟨rfl, rfl, rfl, by decide +kernel, rfl, by decide +kernel, by decide +kernel⟩
def spAreC : Sp := fun vs H Q _ => ∃ (G : List Int) (marks : List Oh.El) (room : List Nat) (x : Oh.El) (g a b m u : V), vs = [g, a, b, m, u] ∧ OkG G ∧ EV H g G ∧ ET H a marks ∧ EV H b (zN room) ∧ EV H m x ∧ ETT H u (Oh.rowsE G marks room [Oh.zeroE G]) ∧ marks.length = room.length ∧ marks.length ≤ 1000 ∧ (∀ m ∈ marks, Oh.MemE G m) ∧ (∀ n ∈ room, n ≤ 1000) ∧
  ¬ x ∈ Oh.lastE G marks room [Oh.zeroE G] ∧ ∀ H', Same H H' → Q (.bl true) H'
theorem ok_areC (T : Glob mg) (cZ : Kept P w K mg base 1 "zero_of" ["group"] spZero) (cA : Kept P w K mg base 1 "added" ["group", "member", "other"] spAdded) (cS : Kept P w K mg base 2 "steps_of" ["group", "mark", "left"] spSteps)
    (cR : Kept P w K mg base 3 "is_row" ["group", "value"] spIsRow) (h : Here K mg "are_closed" sAreC ["group", "marks", "room", "member", "value"]) : Kept P w K mg base 4 "are_closed" ["group", "marks", "room", "member", "value"] spAreC := by
  refine kept_of h scAreC (fun vs H Q E h => ?_) (fun f cdv A outer s H vs Q E hr h => ?_)
  · obtain ⟨G, marks, room, x, g, a, b, m, u, rfl, _⟩ := h
    rfl
  · obtain ⟨G, marks, room, x, g, a, b, m, u, rfl, ok, hg, ⟨aA, ms, rfl, ha, hms⟩, ⟨bA, rfl, hb⟩, hm, ⟨uA, us, rfl, hu, hus⟩, le, lm, mm, mr, nx, q⟩ := h
    have lms := Paired.length hms
    have lus : us.length = room.length := by rw [Paired.length hus, Oh.rowsE_len le]
    have rok := Oh.rows_ok (room := room) (a := [Oh.zeroE G]) ok.pos mm (fun y hy => by
      have e : y = Oh.zeroE G := by simpa using hy
      rw [e]
      exact Oh.zeroE_mem ok.pos)
    refine ⟨_, pss_cons (ps_if (PW.pt (pw_or (pt_not (pt_val (pe_callB call_isi (by rfl) T.isinstance (by decide +kernel) (pa_cons (pv 4) (pa_cons (pe_bltn (v := .ty "tuple") (by rfl) T.tuple (by decide +kernel) rfl) pa_nil)))))
        (pw_or (pt_cmpR op_ne (pe_callB call_len_seq (by rfl) T.len PySem.boot_len (pa_cons (pv 4) pa_nil)) (pe_callB call_len_seq (by rfl) T.len PySem.boot_len (pa_cons (pv 2) pa_nil)) (nomark _))
        (pw_or1 (pt_not (pt_val (pe_callB (cr_all rfl) (by rfl) T.all (by decide +kernel) (pa_cons (pe_lc (own := [("row", 5)]) (g := gName 5) (tt := tYes) rfl scAreC.nd (pi_tup (pv 4)) (blkOk_by (N := nAreC) (sc := defScope sAreC) (by decide +kernel))
          (fun _ _ _ _ _ => pg_name (i := 5) scAreC.nd rfl (Or.inl rfl)) (fun _ _ _ _ _ => pts_nil) (fun _ _ _ _ _ => pe_k cR hr (by decide) (by rfl) (pa_cons (pv 0) (pa_cons (pv 5) pa_nil)))) pa_nil)))))))) (pss_one (ps_ret pe_bl)) pss_nil)
      (pss_cons (ps_set (i := 6) scAreC.nd rfl (Or.inl rfl) (pe_tup (pa_cons (pe_k cZ hr (by decide) (by rfl) (pa_cons (pv 0) pa_nil)) pa_nil)))
      (pss_cons (ps_for PassesOwn.never rfl (pi_zip3 (by rfl) T.zip (pa_cons (pv 1) (pa_cons (pv 2) (pa_cons (pv 4) pa_nil)))) (pg_tup rfl (pgs_cons (pg_name (i := 7) scAreC.nd rfl (Or.inl rfl)) (pgs_cons (pg_name (i := 8) scAreC.nd rfl (Or.inl rfl)) (pgs_cons (pg_name (i := 5) scAreC.nd rfl (Or.inr rfl)) pgs_nil))))
        (pss_cons (ps_for PassesOwn.never rfl (pi_list (pe_k cS hr (by decide) (by rfl) (pa_cons (pv 0) (pa_cons (pv 7) (pa_cons (pv 8) pa_nil))))) (pg_name (i := 9) scAreC.nd rfl (Or.inr rfl))
          (pss_one (ps_if (pt_not (pt_val (pe_callB (cr_all rfl) (by rfl) T.all (by decide +kernel) (pa_cons (pe_lc (own := [("own", 10)]) (g := gName 10) (tt := tYes) (te := tOp (rInU K) (tCall spAdded [] E0 (tCons (tVar 0) (tCons (tVar 10) (tCons (tVar 9) tNil)))) (tVar 5)) rfl scAreC.nd (pi_tup (pv 6)) (blkOk_by (N := nAreC) (sc := defScope sAreC) (by decide +kernel))
            (fun _ _ _ _ _ => pg_name (i := 10) scAreC.nd rfl (Or.inl rfl)) (fun _ _ _ _ _ => pts_nil) (fun _ _ _ _ _ => pe_cmpR (op_inU (hu65 hr)) (pe_k cA hr (by decide) (by rfl) (pa_cons (pv 0) (pa_cons (pv 10) (pa_cons (pv 9) pa_nil)))) (pv 5) (by rfl))) pa_nil)))) (pss_one (ps_ret pe_bl)) pss_nil)))
        (pss_one (ps_set (i := 6) scAreC.nd rfl (Or.inl rfl) (pv 5)))))
      (pss_one (ps_ret (pe_cmpR (op_notInU (hu65 hr)) (pv 3) (pv 6) (by rfl)))))), ?_⟩
    refine ⟨_, rfl, _, _, _, _, true, rfl, .ty _, .base (.tup hu), kit_ty (by decide +kernel), true, rfl, ?_⟩
    refine ⟨_, rfl, uA, _, rfl, .inr (SqT.of hu), _, rfl, bA, _, rfl, .inr (SqT.of hb), rfl, _, rfl, ?_⟩
    have e1 : (!decide (V.int ((us.length : Nat) : Int) = V.int ((((zN room).map V.int).length : Nat) : Int))) = false := by
      rw [List.length_map, zN_len, lus]
      simp
    refine ite2 (fun z => ?_) (fun _ => ?_)
    · have z' : (!decide (V.int ((us.length : Nat) : Int) = V.int ((((zN room).map V.int).length : Nat) : Int))) = true := z
      rw [e1] at z'
      cases z'
    refine ⟨_, rfl, uA, rfl, ⟨_, SqT.of hu⟩, fun D hD => ?_⟩
    refine lc_pure (walk_tup (xs := us)) (by omega) hD (fun _ => true) (fun i y' _ => y' = V.bl true) (fun _ _ _ _ _ r => r)
      (fun H1 s => SqT.of (s _ _ hu)) (fun i t H1 H2 hi s1 hy Q1 Q0 k1 k0 => ?_) (fun ys H1 s1 hD1 hp1 => ?_)
    · obtain ⟨rfl, ht⟩ := hy
      obtain ⟨row, hrw, htr⟩ := Paired.get hus ht
      obtain ⟨ra, rm⟩ := rok row (List.mem_of_getElem? hrw)
      exact ⟨rfl, _, rfl, _, rfl, G, row, _, _, rfl, ok, hg.mono (tk s1), htr.mono (tk s1), by have := few_of ok ra.nodup rm; omega, rm, ra, fun H5 s5 => k1 _ _ s5 rfl rfl⟩
    · rw [range_all] at hp1
      have e := paired_fn hp1
      have e2 : ys = ((List.range us.length).map fun _ => true).map V.bl := by rw [e, List.map_map]; rfl
      rw [e2] at hD1
      refine ⟨D, _, rfl, SqL.of hD1, _, rfl, ?_⟩
      have e3 : (((List.range us.length).map fun _ => true).all id) = true := by simp
      rw [e3]
      refine ⟨_, rfl, G, _, rfl, hg.mono (tk s1), ok.one, by have := ok.few; omega, fun zV H2 s2 hz => ⟨by show 1 ≤ sizeLine; decide, fun p hp => ?_⟩⟩
      have s3 := sm_new (o := HO.tup [zV]) hp
      have s23 := L2.Same.trans s1 (L2.Same.trans s2 s3)
      have hp3 : (upd H2 p (.tup [zV])) p = some (.tup [zV]) := upd_same
      have hz3 := hz.mono (tk s3)
      generalize upd H2 p (HO.tup [zV]) = H3 at *
      refine ⟨_, rfl, _, rfl, _, rfl, _, _, _, _, _, _, rfl, SqT.of (s23 _ _ ha), SqT.of (s23 _ _ hb), SqT.of (s23 _ _ hu), for_it (walk_zip3 (n := marks.length) lms (by rw [List.length_map, zN_len, le]) (by rw [lus, le]))
        (fun i σ H' => ∃ (v5 v7 v8 v9 : Option V) (v6 : V) (cur : List Oh.El) (racc : List (List Oh.El)), σ = [some g, some (.ref aA), some (.ref bA), some m, some (.ref uA), v5, some v6, v7, v8, v9, none] ∧ Same H H' ∧ ET H' v6 cur ∧ cur.length ≤ 64 ∧ (∀ x ∈ cur, Oh.MemE G x) ∧
          racc.length = i ∧ Oh.rowsE G marks room [Oh.zeroE G] = racc ++ Oh.rowsE G (marks.drop i) (room.drop i) cur ∧ Oh.lastE G marks room [Oh.zeroE G] = Oh.lastE G (marks.drop i) (room.drop i) cur)
        ⟨none, none, none, none, .ref p, [Oh.zeroE G], [], rfl, s23, ⟨p, _, rfl, hp3, .cons hz3 .nil⟩, by show 1 ≤ 64; decide, fun y hy => by
          have e : y = Oh.zeroE G := by simpa using hy
          rw [e]
          exact Oh.zeroE_mem ok.pos, rfl, rfl, rfl⟩ (fun i σ H' _ ⟨_, _, _, _, _, _, _, _, s, _⟩ => ⟨SqT.of (s _ _ ha), SqT.of (s _ _ hb), SqT.of (s _ _ hu)⟩) ?_ ?_⟩
      · rintro i t σ H4 H5 hi ⟨v5, v7, v8, v9, v6, cur, racc, rfl, s4, hcur, lcur, mcur, lr, rows, last⟩ hy
        obtain ⟨t, y1, y2, y3, rfl, ht, rfl, h1, h2, h3⟩ := hy
        obtain ⟨rfl, hrm⟩ := at_nat h2
        obtain ⟨mk, hmk, hy1⟩ := Paired.get hms h1
        obtain ⟨row, hrow, hy3⟩ := Paired.get hus h3
        have mmk := mm mk (List.mem_of_getElem? hmk)
        have rle := mr _ (List.mem_of_getElem? hrm)
        have erow : row = Oh.rowE G cur mk (room.getD i 0) := by
          rw [rows, Oh.rows_drop hmk hrm, List.getElem?_append_right (by omega), lr, Nat.sub_self] at hrow
          exact (Option.some.inj hrow).symm
        subst erow
        have s5 := sm_new (o := HO.tup [y1, V.int ((room.getD i 0 : Nat) : Int), y3]) ht
        refine ⟨t, _, rfl, SqT.of upd_same, rfl, _, _, rfl, _, _, rfl, _, _, rfl, rfl, ?_⟩
        have s05 := L2.Same.trans s4 s5
        generalize upd H4 t (HO.tup [y1, V.int ((room.getD i 0 : Nat) : Int), y3]) = H5 at *
        refine ⟨_, rfl, _, rfl, _, rfl, G, mk, room.getD i 0, _, _, rfl, ok, hg.mono (tk s05), hy1.mono (tk s05), mmk.len, rle, fun sv H6 s6 hsv => ?_⟩
        obtain ⟨sA, sts, rfl, hsA, hsts⟩ := hsv
        have s06 := L2.Same.trans s05 s6
        have hcur6 := hcur.mono (tk (L2.Same.trans s5 s6))
        have hy36 : ET H6 y3 _ := hy3.mono (tk s06)
        have lst : sts.length = room.getD i 0 + 1 := by rw [Paired.length hsts]; simp
        have nrow := few_of ok Oh.rowE_nd (Oh.rowE_mem (top := room.getD i 0) ok.pos mcur mmk)
        refine ⟨sA, rfl, ⟨_, SqL.of hsA⟩, for_list (K := K) (a := sA) (xs := sts) (fun j σ H' => ∃ (v9 : Option V), σ = [some g, some (.ref aA), some (.ref bA), some m, some (.ref uA), some y3, some v6, some y1, some (.int ((room.getD i 0 : Nat) : Int)), v9, none] ∧ Same H6 H')
          ⟨v9, rfl, L2.Same.refl H6⟩ (fun j σ H' _ ⟨_, _, s⟩ => SqL.of (s _ _ hsA)) ?_ ?_⟩
        · rintro j stV σ H7 hj ⟨v9, rfl, s7⟩
          obtain ⟨y, hy, hxy⟩ := Paired.get hsts hj
          have hjl : j < room.getD i 0 + 1 := by rw [← lst]; exact (List.getElem?_eq_some_iff.mp hj).1
          have ey : y = Oh.repE G mk (j : Int) := by
            rw [List.getElem?_map] at hy
            cases e : (List.range (room.getD i 0 + 1))[j]? with
            | none => rw [e] at hy; cases hy
            | some z =>
              rw [e] at hy
              obtain ⟨_, e2⟩ := List.getElem?_eq_some_iff.mp e
              rw [List.getElem_range] at e2
              rw [e2]
              exact (Option.some.inj hy).symm
          subst ey
          have s07 := L2.Same.trans s06 s7
          have hcur7 := hcur6.mono (tk s7)
          obtain ⟨cA, cs, rfl, hcA, hcs⟩ := hcur7
          have lcs := Paired.length hcs
          refine ⟨_, rfl, cA, rfl, ⟨_, SqT.of hcA⟩, fun D2 hD2 => ?_⟩
          refine lc_pure (walk_tup (xs := cs)) (by omega) hD2 (fun _ => true) (fun i y' _ => y' = V.bl true) (fun _ _ _ _ _ r => r)
            (fun H8 s => SqT.of (s _ _ hcA)) (fun k t2 H8 H9 hk s8 hy2 Q1 Q0 k1 k0 => ?_) (fun zs H8 s8 hD8 hz8 => ?_)
          · obtain ⟨rfl, ht2⟩ := hy2
            obtain ⟨c, hc, htc⟩ := Paired.get hcs ht2
            have mc := mcur c (List.mem_of_getElem? hc)
            have s08 := L2.Same.trans s07 s8
            refine ⟨rfl, _, rfl, _, rfl, _, rfl, G, c, Oh.repE G mk (j : Int), _, _, _, rfl, ok.pos, hg.mono (tk s08), htc.mono (tk s8), hxy.mono (tk (L2.Same.trans s7 s8)), mc.len, (Oh.repE_mem ok.pos mmk.len).len, by have := ok.few; omega, fun r H10 s10 hr10 => ?_⟩
            have hy310 := hy36.mono (tk (L2.Same.trans s7 (L2.Same.trans s8 s10)))
            refine ⟨_, rfl, _, _, hr10.dp, hy310.dp, sh_E _, sh_T _, k1 _ _ s10 rfl ?_⟩
            rw [any_dE]
            have hin : Oh.addE G c (Oh.repE G mk (j : Int)) ∈ Oh.rowE G cur mk (room.getD i 0) := Oh.mem_rowE.mpr ⟨c, List.mem_of_getElem? hc, j, by omega, rfl⟩
            rw [decide_eq_true hin]
          · rw [range_all] at hz8
            have e := paired_fn hz8
            have e2 : zs = ((List.range cs.length).map fun _ => true).map V.bl := by rw [e, List.map_map]; rfl
            rw [e2] at hD8
            refine ⟨D2, _, rfl, SqL.of hD8, _, rfl, ?_⟩
            have e3 : (((List.range cs.length).map fun _ => true).all id) = true := by simp
            rw [e3]
            exact ⟨_, rfl, L2.Same.trans s7 s8⟩
        · rintro σ H7 ⟨v9, rfl, s7⟩
          refine ⟨_, rfl, _, _, _, v9, y3, _, racc ++ [Oh.rowE G cur mk (room.getD i 0)], rfl, L2.Same.trans s06 s7, hy36.mono (tk s7), nrow, Oh.rowE_mem ok.pos mcur mmk, by rw [List.length_append, lr]; rfl, ?_, ?_⟩
          · rw [rows, Oh.rows_drop hmk hrm, List.append_assoc]
            rfl
          · rw [last, Oh.last_drop hmk hrm]
      · rintro σ H4 ⟨v5, v7, v8, v9, v6, cur, racc, rfl, s4, hcur, lcur, mcur, lr, rows, last⟩
        rw [Oh.last_end (Nat.le_refl _)] at last
        refine ⟨_, rfl, _, rfl, _, _, (hm.mono (tk s4)).dp, hcur.dp, sh_E x, sh_T cur, ?_⟩
        rw [any_dE]
        rw [last] at nx
        rw [decide_eq_false nx]
        exact q _ s4

/-! ### bar_holds -/
abbrev sHolds : Stmt := top 23
abbrev nHolds : List Str := ["group", "marks", "room", "member", "value"]
theorem scHolds : FnScope nHolds ["group", "marks", "room", "member", "value"] (defScope sHolds) := ⟨rfl, rfl, rfl, by decide +kernel, rfl, by decide +kernel, by decide +kernel⟩
def spHolds : Sp := fun vs H Q _ => ∃ (G : List Int) (marks : List Oh.El) (room : List Nat) (x : Oh.El) (g a b m u : V), vs = [g, a, b, m, u] ∧ OkG G ∧ EV H g G ∧ ET H a marks ∧ EV H b (zN room) ∧ EV H m x ∧ BV H u (Oh.barE G marks room x) ∧ marks.length = room.length ∧ marks.length ≤ 1000 ∧ (∀ m ∈ marks, Oh.MemE G m) ∧ (∀ n ∈ room, n ≤ 1000) ∧
  Oh.MemE G x ∧ ¬ x ∈ Oh.lastE G marks room [Oh.zeroE G] ∧ ∀ H', Same H H' → Q (.bl true) H'
theorem ok_holds (T : Glob mg) (cK : Kept P w K mg base 3 "is_killing" ["group", "marks", "room", "member", "value"] spIsK) (cC : Kept P w K mg base 4 "are_closed" ["group", "marks", "room", "member", "value"] spAreC)
    (h : Here K mg "bar_holds" sHolds ["group", "marks", "room", "member", "value"]) : Kept P w K mg base 5 "bar_holds" ["group", "marks", "room", "member", "value"] spHolds := by
  refine kept_of h scHolds (fun vs H Q E h => ?_) (fun f cdv A outer s H vs Q E hr h => ?_)
  · obtain ⟨G, marks, room, x, g, a, b, m, u, rfl, _⟩ := h
    rfl
  · obtain ⟨G, marks, room, x, g, a, b, m, u, rfl, ok, hg, ha, hb, hm, hu, le, lm, mm, mr, mx, nx, q⟩ := h
    refine ⟨_, pss_cons (ps_if (PW.pt (pw_or (pt_not (pt_val (pe_callB call_isi (by rfl) T.isinstance (by decide +kernel) (pa_cons (pv 4) (pa_cons (pe_bltn (v := .ty "tuple") (by rfl) T.tuple (by decide +kernel) rfl) pa_nil)))))
        (pw_or (pt_cmpR op_ne (pe_callB call_len_seq (by rfl) T.len PySem.boot_len (pa_cons (pv 4) pa_nil)) pe_int (nomark _))
        (pw_or1 (pt_not (pt_val (pe_callB call_isi (by rfl) T.isinstance (by decide +kernel) (pa_cons (pe_ix ix_tup (pv 4) pe_int (fun _ _ => rfl)) (pa_cons (pe_bltn (v := .ty "str") (by rfl) T.str (by decide +kernel) rfl) pa_nil))))))))) (pss_one (ps_ret pe_bl)) pss_nil)
      (pss_cons (ps_if (pt_cmpR op_eq (pe_ix ix_tup (pv 4) pe_int (fun _ _ => rfl)) pe_str (nomark _)) (pss_one (ps_ret (pe_k cK hr (by decide) (by rfl) (pa_cons (pv 0) (pa_cons (pv 1) (pa_cons (pv 2) (pa_cons (pv 3) (pa_cons (pe_ix ix_tup (pv 4) pe_int (fun _ _ => rfl)) pa_nil)))))))) pss_nil)
      (pss_one (ps_ret (pe_and (pe_cmpR op_eq (pe_ix ix_tup (pv 4) pe_int (fun _ _ => rfl)) pe_str (nomark _)) (pe_one (pe_k cC hr (by decide) (by rfl) (pa_cons (pv 0) (pa_cons (pv 1) (pa_cons (pv 2) (pa_cons (pv 3) (pa_cons (pe_ix ix_tup (pv 4) pe_int (fun _ _ => rfl)) pa_nil))))))))))), ?_⟩
    have hb0 : Oh.barE G marks room x = match Oh.charOf G (Oh.openE marks room) x with
        | some c => .char c
        | none => .sums (Oh.rowsE G marks room [Oh.zeroE G]) := by
      unfold Oh.barE
      exact if_neg nx
    have hch := fun c => Oh.charOf_some (G := G) (S := Oh.openE marks room) (x := x) (c := c) ok.pos
    generalize Oh.charOf G (Oh.openE marks room) x = oc at *
    cases oc with
    | some c =>
      have hb1 : Oh.barE G marks room x = .char c := hb0
      rw [hb1] at hu
      obtain ⟨uA, cv, rfl, hu, hc⟩ := hu
      obtain ⟨mc, kx, ks⟩ := hch c rfl
      refine ⟨_, rfl, _, _, _, _, true, rfl, .ty _, .base (.tup hu), kit_ty (by decide +kernel), true, rfl, ?_⟩
      refine ⟨_, rfl, uA, _, rfl, .inr (SqT.of hu), rfl, _, rfl, ?_⟩
      refine ⟨_, rfl, uA, _, 0, _, rfl, rfl, SqT.of hu, rfl, _, _, _, _, true, rfl, .ty _, .base (.str _), kit_ty (by decide +kernel), true, rfl, ?_⟩
      refine ⟨_, rfl, uA, _, 0, _, rfl, rfl, SqT.of hu, rfl, rfl, _, rfl, ?_⟩
      exact ⟨_, rfl, _, rfl, _, rfl, _, rfl, _, rfl, uA, _, 1, _, rfl, rfl, SqT.of hu, rfl, G, marks, room, x, c, _, _, _, _, _, rfl, ok, hg, ha, hb, hm, hc, le, lm, mm, mx, mc, kx, ks, q⟩
    | none =>
      have hb1 : Oh.barE G marks room x = .sums (Oh.rowsE G marks room [Oh.zeroE G]) := hb0
      rw [hb1] at hu
      obtain ⟨uA, cv, rfl, hu, hc⟩ := hu
      refine ⟨_, rfl, _, _, _, _, true, rfl, .ty _, .base (.tup hu), kit_ty (by decide +kernel), true, rfl, ?_⟩
      refine ⟨_, rfl, uA, _, rfl, .inr (SqT.of hu), rfl, _, rfl, ?_⟩
      refine ⟨_, rfl, uA, _, 0, _, rfl, rfl, SqT.of hu, rfl, _, _, _, _, true, rfl, .ty _, .base (.str _), kit_ty (by decide +kernel), true, rfl, ?_⟩
      refine ⟨_, rfl, uA, _, 0, _, rfl, rfl, SqT.of hu, rfl, rfl, _, rfl, ?_⟩
      refine ⟨_, rfl, uA, _, 0, _, rfl, rfl, SqT.of hu, rfl, rfl, true, rfl, ?_⟩
      exact ⟨_, rfl, _, rfl, _, rfl, _, rfl, _, rfl, uA, _, 1, _, rfl, rfl, SqT.of hu, rfl, G, marks, room, x, _, _, _, _, _, rfl, ok, hg, ha, hb, hm, hc, le, lm, mm, mr, nx, q⟩
end
end OhL

set_option Elab.async false
set_option linter.all false
set_option maxRecDepth 100000
set_option maxHeartbeats 4000000
/-! the law's stock: made, drawn from -/
namespace OhL
open PySem PySem.Spec PyProof.Rows L2
/-- a stock: its own list, the great numbers, the flat ones -/
def Stk (s g f : Addr) (H : Hp) : Prop := f ≠ g ∧ ∃ (S t : Int) (gs fs : List Int), H s = some (.lst [.ref g, .ref f, .int S, .int t]) ∧ H g = some (.lst (gs.map V.int)) ∧ H f = some (.lst (fs.map V.int)) ∧ gs.length ≤ 1000 ∧ 1 ≤ fs.length ∧ fs.length ≤ 1000
theorem ref_no_ints {a : Addr} {l : List V} {gs : List Int} : V.ref a :: l ≠ gs.map V.int := fun e => by
  cases gs with
  | nil => cases e
  | cons z gs => cases (List.cons.inj e).1
theorem Stk.sg {s g f : Addr} {H : Hp} (h : Stk s g f H) : s ≠ g := fun e => by
  obtain ⟨_, S, t, gs, fs, h1, h2, _⟩ := h
  rw [e, h2] at h1
  injection h1 with h1
  injection h1 with h1
  exact ref_no_ints h1.symm
theorem Stk.sf {s g f : Addr} {H : Hp} (h : Stk s g f H) : s ≠ f := fun e => by
  obtain ⟨_, S, t, gs, fs, h1, _, h2, _⟩ := h
  rw [e, h2] at h1
  injection h1 with h1
  injection h1 with h1
  exact ref_no_ints h1.symm
theorem Stk.same {s g f : Addr} {H H' : Hp} (h : Stk s g f H) (k : Same H H') : Stk s g f H' := by
  obtain ⟨n, S, t, gs, fs, h1, h2, h3, h4⟩ := h
  exact ⟨n, S, t, gs, fs, k _ _ h1, k _ _ h2, k _ _ h3, h4⟩
/-- all but the stock's moving parts stand as they stood -/
def Bt (s g : Addr) (H H' : Hp) : Prop := ∀ b o, b ≠ s → b ≠ g → H b = some o → H' b = some o
theorem Bt.refl (s g : Addr) (H : Hp) : Bt s g H H := fun _ _ _ _ h => h
theorem Bt.trans {s g : Addr} {H H1 H2 : Hp} (a : Bt s g H H1) (b : Bt s g H1 H2) : Bt s g H H2 := fun x o n m h => b x o n m (a x o n m h)
theorem Bt.of {s g : Addr} {H H' : Hp} (k : Same H H') : Bt s g H H' := fun b o _ _ h => k b o h
theorem Stk.tk {s g f : Addr} {H H' : Hp} (h : Stk s g f H) (b : Bt s g H H') : Tk H H' := fun a xs e => by
  obtain ⟨n, S, t, gs, fs, h1, h2, h3, h4⟩ := h
  exact b a _ (fun z => by rw [z, h1] at e; cases e) (fun z => by rw [z, h2] at e; cases e) e
/-- a list that is not the stock's -/
theorem Bt.lst {s g : Addr} {H H' : Hp} {a : Addr} {xs : List V} (b : Bt s g H H') (h : H a = some (.lst xs)) (ns : a ≠ s) (ng : a ≠ g) : H' a = some (.lst xs) := b a _ ns ng h
/-- what was not known before: nothing of the stock -/
theorem Stk.new {s g f : Addr} {H : Hp} {p : Addr} (h : Stk s g f H) (n : H p = none) : p ≠ s ∧ p ≠ g ∧ p ≠ f := by
  obtain ⟨_, S, t, gs, fs, h1, h2, h3, _⟩ := h
  refine ⟨fun e => ?_, fun e => ?_, fun e => ?_⟩
  · rw [e, h1] at n
    cases n
  · rw [e, h2] at n
    cases n
  · rw [e, h3] at n
    cases n
theorem Stk.upd {s g f : Addr} {H : Hp} {p : Addr} {o : HO} (h : Stk s g f H) (n : p ≠ s ∧ p ≠ g ∧ p ≠ f) : Stk s g f (upd H p o) := by
  obtain ⟨m, S, t, gs, fs, h1, h2, h3, h4⟩ := h
  exact ⟨m, S, t, gs, fs, by rw [upd_ne (Ne.symm n.1)]; exact h1, by rw [upd_ne (Ne.symm n.2.1)]; exact h2, by rw [upd_ne (Ne.symm n.2.2)]; exact h3, h4⟩
theorem Bt.updNew {s g : Addr} {H H' : Hp} {p : Addr} {o : HO} (b : Bt s g H H') (n : H p = none) : Bt s g H (upd H' p o) := fun a u h1 h2 e => by
  rw [upd_ne (ne_of_none e n)]
  exact b a u h1 h2 e
theorem Bt.updSt {s g : Addr} {H H' : Hp} {o : HO} (b : Bt s g H H') : Bt s g H (upd H' s o) := fun a u h1 h2 e => by
  rw [upd_ne h1]
  exact b a u h1 h2 e
theorem Bt.updGr {s g : Addr} {H H' : Hp} {o : HO} (b : Bt s g H H') : Bt s g H (upd H' g o) := fun a u h1 h2 e => by
  rw [upd_ne h2]
  exact b a u h1 h2 e
/-- what was not known at first stays unknown to the first heap's promise -/
theorem Bt.same {s g : Addr} {H0 H H' : Hp} (b : Bt s g H H') (k : Same H0 H) (ns : H0 s = none) (ng : H0 g = none) : Same H0 H' := fun a o e => b a o (ne_of_none e ns) (ne_of_none e ng) (k a o e)

/-- a comprehension whose turns draw -/
theorem lc_stk {J : It} {n : Nat} {G : Hp → Prop} {Y : Nat → Hp → V → Hp → Prop} (w : Walk J n G Y) {g : TG} {te : TE} {vs : List Nat} {σ : L2.St} {H1 : Hp} {D sA gA fA : Addr} {Qd : Hp → Prop} (hn : n ≤ 100000) (hD : H1 D = none) (st : Stk sA gA fA H1)
    (R : Nat → V → Hp → Prop) (hR : ∀ i y H H', Tk H H' → R i y H → R i y H') (hG : ∀ H, Bt sA gA H1 H → Stk sA gA fA H → G H)
    (hs : ∀ i x H H', i < n → Bt sA gA H1 H → Stk sA gA fA H → Y i H x H' → ∀ (Q1 : V → Hp → Prop), (∀ y H4, Bt sA gA H H4 → Stk sA gA fA H4 → R i y H4 → Q1 y H4) →
      g x (wipe σ vs) H' fun σ2 H2 => wipe σ2 vs = wipe σ vs ∧ te σ2 H2 Q1)
    (hd : ∀ ys H, Bt sA gA H1 H → Stk sA gA fA H → H D = some (.lst ys) → Paired (fun y i => R i y H) ys (List.range n) → Qd H) :
    ∃ W : Nat → Nat → Hp → Prop, (∃ m, W 0 m (upd H1 D (.lst []))) ∧ ∀ i m H, W i m H →
      (J.stop i H ∧ Qd H) ∨ (J.go i H ∧ ∃ Nx : Hp → Prop, (∀ H', Nx H' → ∃ m', m' < m ∧ W (i + 1) m' H') ∧ ∀ x H', J.yld i H x H' → g x (wipe σ vs) H' fun σ2 H2 => wipe σ2 vs = wipe σ vs ∧ tYes σ2 H2 fun b H3 =>
        if b = true then te σ2 H3 fun y H4 => ∃ acc, H4 D = some (.lst acc) ∧ acc.length < sizeLine ∧ Nx (upd H4 D (.lst (acc ++ [y]))) else Nx H3) := by
  have mono : ∀ {H H' : Hp} {ys : List V} {l : List Nat}, Tk H H' → Paired (fun y i => R i y H) ys l → Paired (fun y i => R i y H') ys l := by
    intro H H' ys l t p
    exact L2.Paired.mapP p fun y i r => hR i y H H' t r
  have nD := st.new hD
  refine lc_it w (fun i H => i ≤ n ∧ Bt sA gA H1 H ∧ Stk sA gA fA H ∧ ∃ ys, H D = some (.lst ys) ∧ Paired (fun y i => R i y H) ys (List.range i)) ⟨Nat.zero_le _, Bt.of (sm_new hD), st.upd nD, [], upd_same, .nil⟩ (fun i H _ ⟨_, b, s, _⟩ => hG H b s) ?_ (fun H ⟨_, b, s, ys, e, p⟩ => hd ys H b s e p)
  rintro i x H H' hi ⟨_, b, s, ys, e, p⟩ y
  have key := hs i x H H' hi b s y (fun z H4 => ∃ acc, H4 D = some (.lst acc) ∧ acc.length < sizeLine ∧ (i + 1 ≤ n ∧ Bt sA gA H1 (upd H4 D (.lst (acc ++ [z]))) ∧ Stk sA gA fA (upd H4 D (.lst (acc ++ [z]))) ∧ ∃ ys, (upd H4 D (.lst (acc ++ [z]))) D = some (.lst ys) ∧ Paired (fun y i => R i y (upd H4 D (.lst (acc ++ [z])))) ys (List.range (i + 1)))) (fun z H4 b4 s4 r => by
    have e4 := b4 _ _ nD.1 nD.2.1 e
    have t4 : Tk H4 (upd H4 D (.lst (ys ++ [z]))) := (Tk.refl H4).upd (not_tup e4)
    refine ⟨ys, e4, ?_, hi, (b.trans b4).updNew hD, s4.upd nD, ys ++ [z], upd_same, ?_⟩
    · have h1 := Paired.length p
      rw [List.length_range] at h1
      have h3 : 100000 < sizeLine := by decide
      omega
    · rw [List.range_succ]
      exact Paired.append (mono ((s.tk b4).trans t4) p) (.cons (hR i z _ _ t4 r) .nil))
  exact key
theorem ints_of {ys : List V} {l : List Nat} (h : Paired (fun y i => ∃ z : Int, y = V.int z) ys l) : ∃ zs : List Int, ys = zs.map V.int ∧ zs.length = l.length := by
  induction h with
  | nil => exact ⟨[], rfl, rfl⟩
  | cons r t ih =>
    obtain ⟨z, rfl⟩ := r
    obtain ⟨zs, rfl, e⟩ := ih
    exact ⟨z :: zs, rfl, by rw [List.length_cons, List.length_cons, e]⟩
theorem cut_ints (ns : List Int) (lo hi : Option Int) : ∃ ks : List Int, cutV (ns.map V.int) lo hi = ks.map V.int ∧ ks.length ≤ ns.length := by
  refine ⟨(ns.drop (HT.sIx ns.length 0 lo)).take (HT.sIx ns.length ns.length hi - HT.sIx ns.length 0 lo), ?_, ?_⟩
  · unfold cutV
    rw [List.length_map, List.map_take, List.map_drop]
  · rw [List.length_take, List.length_drop]
    omega
theorem sh_ints (l : List Int) : SeqAt.shaped (.list (l.map PyData.int)) = true := sh_of (by simp only [PyData.canLay0]; exact lay_ints l) (by have := depth_ints l; simp only [PyData.depth]; omega)
theorem eqv_nilI (l : List Int) : (!PyData.eqv (.list (l.map PyData.int)) (.list [])) = !l.isEmpty := by
  cases l with
  | nil => simp [PyData.eqv, PyData.eqvAll]
  | cons x l => simp [PyData.eqv, PyData.eqvAll]
section
variable {P : Program} {w : World} {K : PySem.W.Frag} {mg : Str → Option Value} {base : Heap}

/-! ### _law_stock -/
abbrev sStock : Stmt := top 25
abbrev nStock : List Str := ["_law_script", "_law_flat", "_law_cell"]
theorem scStock : FnScope nStock ["_law_script"] (defScope sStock) := ⟨rfl, rfl, rfl, by decide +kernel, rfl, by decide +kernel, by decide +kernel⟩
def spStock (K : PySem.W.Frag) : Sp := fun vs H Q _ => ∃ (a : Addr) (ns : List Int), vs = [.ref a] ∧ SqL K H a (ns.map V.int) ∧ ns.length ≤ 900 ∧ ∀ s g f H', Same H H' → Stk s g f H' → H s = none → H g = none → Q (.ref s) H'
theorem ok_stock (T : Glob mg) (h : Here K mg "_law_stock" sStock ["_law_script"]) : Kept P w K mg base 1 "_law_stock" ["_law_script"] (spStock K) := by
  refine kept_of h scStock (fun vs H Q E h => ?_) (fun f cdv A outer s H vs Q E hr h => ?_)
  · obtain ⟨a, ns, rfl, _⟩ := h
    rfl
  · obtain ⟨a, ns, rfl, ha, ln, q⟩ := h
    obtain ⟨ks, ek, lk⟩ := cut_ints ns none (some 63)
    refine ⟨_, pss_cons (ps_setLc (i := 1) (own := [("_law_cell", 2)]) (g := gName 2) (tt := tYes) rfl scStock.nd rfl rfl (sw_true rfl rfl rfl (by decide +kernel)) (pi_list (pe_slice sl_list (pv 0) po_none (po_some pe_int))) (blkOk_by (N := nStock) (sc := defScope sStock) (by decide +kernel))
        (fun _ _ _ _ _ => pg_name (i := 2) scStock.nd rfl (Or.inl rfl)) (fun _ _ _ _ _ => pts_nil)
        (fun _ _ _ _ _ => pe_ifExp (pt_cmpR op_ge (pv 2) pe_int (nomark _)) (pe_op op_mul pe_int (pv 2)) (pe_op op_sub (pe_op op_mul (pe_un un_neg pe_int) (pv 2)) pe_int)))
      (pss_one (ps_ret (pe_lst (pa_cons (pe_lc (own := [("_law_cell", 2)]) (g := gName 2) rfl scStock.nd (pi_list (pv 1)) (blkOk_by (N := nStock) (sc := defScope sStock) (by decide +kernel))
        (fun _ _ _ _ _ => pg_name (i := 2) scStock.nd rfl (Or.inl rfl)) (fun _ _ _ _ _ => pts_one (pt_cmpR op_ge (pv 2) (pe_op op_pow pe_int pe_int) (nomark _))) (fun _ _ _ _ _ => pv 2))
        (pa_cons (pe_op op_cat (pv 1) (pe_lst (pa_cons (pe_op op_add (pe_callB call_len_seq (by rfl) T.len PySem.boot_len (pa_cons (pv 1) pa_nil)) pe_int) pa_nil)))
        (pa_cons (pe_callB (cr_sum rfl) (by rfl) T.sum (by decide +kernel) (pa_cons (pv 1) pa_nil)) (pa_cons pe_int pa_nil))))))), ?_⟩
    refine ⟨_, rfl, _, rfl, a, _, rfl, ha, fun p hp => ?_⟩
    have s0 := sm_new (o := HO.lst (cutV (ns.map V.int) none (some 63))) hp
    have hp0 : (upd H p (.lst (cutV (ns.map V.int) none (some 63)))) p = some (.lst (ks.map V.int)) := by rw [upd_same, ek]
    dsimp only [tNoPart, HT.sIx]
    generalize upd H p (HO.lst (cutV (ns.map V.int) none (some 63))) = H0 at *
    refine ⟨p, rfl, ⟨_, SqL.of hp0⟩, fun D hD => ?_⟩
    refine lc_pure (walk_list (xs := ks.map V.int)) (by rw [List.length_map]; omega) hD (fun _ => true) (fun i y _ => ∃ z : Int, y = V.int z) (fun _ _ _ _ _ r => r)
      (fun H1 s => SqL.of (s _ _ hp0)) (fun i t H1 H2 hi s1 hy Q1 Q0 k1 k0 => ?_) (fun ys H1 s1 hD1 hp1 => ?_)
    · obtain ⟨rfl, ht⟩ := hy
      obtain rfl := at_int ht
      refine ⟨rfl, _, rfl, _, _, rfl, rfl, _, rfl, ?_⟩
      refine ite2 (fun _ => ?_) (fun _ => ?_)
      · exact ⟨_, rfl, _, _, rfl, rfl, .inl ⟨by decide, by decide⟩, k1 _ _ (L2.Same.refl _) rfl ⟨_, rfl⟩⟩
      · exact ⟨_, rfl, _, rfl, _, _, rfl, rfl, .inl ⟨by decide, by decide⟩, _, _, rfl, rfl, k1 _ _ (L2.Same.refl _) rfl ⟨_, rfl⟩⟩
    · rw [range_all] at hp1
      obtain ⟨fs, rfl, lf⟩ := ints_of hp1
      rw [List.length_range, List.length_map] at lf
      have s01 := L2.Same.trans s0 s1
      refine ⟨_, rfl, D, rfl, ⟨_, SqL.of hD1⟩, fun E2 hE2 => ?_⟩
      refine lc_pure (walk_list (xs := fs.map V.int)) (by rw [List.length_map]; omega) hE2 (fun i => decide (10 ^ 15 ≤ fs.getD i 0)) (fun i y _ => ∃ z : Int, y = V.int z) (fun _ _ _ _ _ r => r)
        (fun H2 s => SqL.of (s _ _ hD1)) (fun i t H2 H3 hi s2 hy Q1 Q0 k1 k0 => ?_) (fun gs0 H2 s2 hE3 hp2 => ?_)
      · obtain ⟨rfl, ht⟩ := hy
        obtain rfl := at_int ht
        refine ⟨rfl, _, rfl, _, _, rfl, rfl, ⟨by decide, by decide, by decide⟩, _, _, rfl, rfl, _, rfl, ?_⟩
        refine ite2 (fun z => ⟨_, rfl, k1 _ _ (L2.Same.refl _) ?_ ⟨_, rfl⟩⟩) (fun z => k0 _ (L2.Same.refl _) ?_)
        · exact z
        · exact Bool.eq_false_iff.mpr z
      · obtain ⟨gs, rfl, lg⟩ := ints_of hp2
        have lg2 : gs.length ≤ 1000 := by
          rw [lg]
          exact Nat.le_trans (List.length_filter_le _ _) (by rw [List.length_range, List.length_map]; omega)
        have hD2 := s2 _ _ hD1
        refine ⟨_, rfl, _, rfl, D, _, rfl, .inl (SqL.of hD2), _, _, rfl, rfl, by show 1 ≤ sizeLine; decide, fun p2 hp2' => ?_⟩
        have s3 := sm_new (o := HO.lst [V.int (((fs.map V.int).length : Nat) + 260)]) hp2'
        have hl : (fs.map V.int).length + [V.int (((fs.map V.int).length : Nat) + 260)].length ≤ sizeLine := by
          rw [List.length_map, List.length_singleton]
          exact Nat.le_of_lt (line_big (by omega))
        refine ⟨D, p2, _, _, rfl, rfl, s3 _ _ hD2, upd_same, hl, fun fA hfA => ?_⟩
        have s4 := sm_new (o := HO.lst (fs.map V.int ++ [V.int (((fs.map V.int).length : Nat) + 260)])) hfA
        have s24 := L2.Same.trans s3 s4
        refine ⟨_, rfl, D, _, rfl, SqL.of (s24 _ _ hD2), by show 4 ≤ sizeLine; decide, fun sA hsA => ?_⟩
        have s5 := sm_new (o := HO.lst [.ref E2, .ref fA, .int fs.sum, .int 0]) hsA
        have s25 := L2.Same.trans s24 s5
        have sall := L2.Same.trans s01 (L2.Same.trans s2 s25)
        have hg := s24 _ _ hE3
        refine q sA E2 fA _ sall ⟨?_, fs.sum, 0, gs, fs ++ [(((fs.map V.int).length : Nat) : Int) + 260], upd_same, s5 _ _ hg, s5 _ _ ?_, lg2, by rw [List.length_append, List.length_singleton]; omega, by rw [List.length_append, List.length_singleton]; omega⟩ ?_ ?_
        · exact fun e => by
            rw [e] at hfA
            rw [s3 _ _ hE3] at hfA
            cases hfA
        · rw [upd_same, List.map_append]
          rfl
        · exact L2.Same.free (L2.Same.trans s01 (L2.Same.trans s2 s24)) hsA
        · exact L2.Same.free s01 hE2

/-! ### _law_draw -/
abbrev sDraw : Stmt := top 26
abbrev nDraw : List Str := ["_law_stock_here", "_law_size", "_law_great", "_law_turn", "_law_cell", "_law_blend"]
theorem scDraw : FnScope nDraw ["_law_stock_here", "_law_size"] (defScope sDraw) := ⟨rfl, rfl, rfl, by decide +kernel, rfl, by decide +kernel, by decide +kernel⟩
def spDraw : Sp := fun vs H Q _ => ∃ (s g f : Addr) (n : Int), vs = [.ref s, .int n] ∧ Stk s g f H ∧ 0 < n ∧ n < 1073741824 ∧ ∀ (r : Int) (H' : Hp), 0 ≤ r → r < n → Stk s g f H' → Bt s g H H' → Q (.int r) H'
theorem ok_draw (T : Glob mg) (h : Here K mg "_law_draw" sDraw ["_law_stock_here", "_law_size"]) : Kept P w K mg base 1 "_law_draw" ["_law_stock_here", "_law_size"] spDraw := by
  refine kept_of h scDraw (fun vs H Q E h => ?_) (fun f cdv A outer s H vs Q E hr h => ?_)
  · obtain ⟨s, g, f, n, rfl, _⟩ := h
    rfl
  · obtain ⟨sA, gA, fA, n, rfl, st, n0, n1, q⟩ := h
    refine ⟨_, pss_cons (ps_if (pt_cmpR (op_neD hr.units) (pe_ix ix_list (pv 0) pe_int (fun _ _ => rfl)) (pe_lst pa_nil) (nomark _))
        (pss_cons (ps_set (i := 2) scDraw.nd rfl (Or.inl rfl) (pe_bm0 PySem.F.plainAttrs_list PySem.F.slot_list_pop PySem.F.type_list_pop mt_pop (pe_ix ix_list (pv 0) pe_int (fun _ _ => rfl))))
        (pss_cons (ps_if (pt_cmpR op_ge (pv 2) (pv 1) (nomark _)) (pss_one (ps_expr (pe_bm PySem.F.plainAttrs_list PySem.F.slot_list_append PySem.F.type_list_append mt_append (pe_ix ix_list (pv 0) pe_int (fun _ _ => rfl)) (pa_cons (pe_op op_fdiv (pv 2) (pv 1)) pa_nil)))) pss_nil)
        (pss_one (ps_ret (pe_op op_mod (pe_callTy call_int1 (by rfl) T.int (by decide +kernel) (pa_cons (pv 2) pa_nil)) (pv 1)))))) pss_nil)
      (pss_cons (ps_asg (pe_op op_add (pe_ix ix_list (pv 0) pe_int (fun _ _ => rfl)) pe_int) (pg_sub (pv 0) pe_int set_list))
      (pss_cons (ps_set (i := 3) scDraw.nd rfl (Or.inl rfl) (pe_ix ix_list (pv 0) pe_int (fun _ _ => rfl)))
      (pss_cons (ps_set (i := 4) scDraw.nd rfl (Or.inl rfl) (pe_op op_mod (pe_callTy call_int1 (by rfl) T.int (by decide +kernel) (pa_cons (pe_ix ix_list (pe_ix ix_list (pv 0) pe_int (fun _ _ => rfl)) (pe_op op_mod (pe_callTy call_int1 (by rfl) T.int (by decide +kernel) (pa_cons (pv 3) pa_nil)) (pe_callB call_len_seq (by rfl) T.len PySem.boot_len (pa_cons (pe_ix ix_list (pv 0) pe_int (fun _ _ => rfl)) pa_nil))) (fun _ _ => rfl)) pa_nil)) pe_int))
      (pss_cons (ps_set (i := 5) scDraw.nd rfl (Or.inl rfl) (pe_op op_mod (pe_callTy call_int1 (by rfl) T.int (by decide +kernel) (pa_cons (pe_op op_add (pe_op op_add (pe_op op_mul (pv 4) pe_int) (pe_op op_mul (pe_op op_mod (pe_callTy call_int1 (by rfl) T.int (by decide +kernel) (pa_cons (pe_ix ix_list (pv 0) pe_int (fun _ _ => rfl)) pa_nil)) pe_int) pe_int)) (pe_op op_mul (pv 3) pe_int)) pa_nil)) pe_int))
      (pss_cons (ps_set (i := 5) scDraw.nd rfl (Or.inl rfl) (pe_op op_mod (pe_callTy call_int1 (by rfl) T.int (by decide +kernel) (pa_cons (pe_op op_add (pe_op op_add (pe_op op_mul (pv 5) (pv 5)) (pe_op op_mul (pv 3) pe_int)) (pv 4)) pa_nil)) pe_int))
      (pss_one (ps_ret (pe_op op_mod (pe_op op_fdiv (pe_op op_mod (pe_callTy call_int1 (by rfl) T.int (by decide +kernel) (pa_cons (pe_op op_add (pe_op op_mul (pv 5) pe_int) (pe_op op_mul (pv 3) pe_int)) pa_nil)) pe_int) pe_int) (pv 1))))))))), ?_⟩
    have sg := st.sg
    have sf := st.sf
    obtain ⟨fg, S, t, gs, fs, hs, hg, hf, lg, lf1, lf2⟩ := st
    refine ⟨_, rfl, sA, _, 0, _, rfl, rfl, SqL.of hs, rfl, Nat.zero_le _, fun p hp => ?_⟩
    have s1 := sm_new (o := HO.lst []) hp
    have hs1 := s1 _ _ hs
    have hg1 := s1 _ _ hg
    have hf1 := s1 _ _ hf
    have hp1 : (upd H p (.lst [])) p = some (.lst []) := upd_same
    generalize upd H p (HO.lst []) = H1 at *
    refine ⟨_, _, .lst (SqL.of hg1) (dpInts gs), .lst (SqL.of hp1) .nil, sh_ints gs, sh_nil, _, rfl, ?_⟩
    rw [eqv_nilI]
    cases hge : !gs.isEmpty with
    | true =>
      have hne : gs ≠ [] := fun z => by rw [z] at hge; cases hge
      have egs := (List.dropLast_concat_getLast hne).symm
      generalize gs.dropLast = gs1 at *
      generalize gs.getLast hne = gl at *
      subst egs
      rw [List.length_append, List.length_singleton] at lg
      have em : (gs1 ++ [gl]).map V.int = gs1.map V.int ++ [V.int gl] := by rw [List.map_append]; rfl
      rw [em] at hg1
      refine ⟨_, rfl, sA, _, 0, _, rfl, rfl, SqL.of hs1, rfl, .inl ⟨rfl, _, SqL.of hg1⟩, gA, _, V.int gl, rfl, rfl, hg1, ?_, ?_⟩
      · rw [List.length_append, List.length_singleton, Nat.add_sub_cancel, List.getElem?_append_right (Nat.le_refl _), Nat.sub_self]
        rfl
      · rw [List.dropLast_concat]
        have hs2 : (upd H1 gA (.lst (gs1.map V.int))) sA = _ := (upd_ne sg).trans hs1
        have hf2 : (upd H1 gA (.lst (gs1.map V.int))) fA = _ := (upd_ne fg).trans hf1
        have b2 : Bt sA gA H (upd H1 gA (.lst (gs1.map V.int))) := (Bt.of s1).updGr
        have hg2 : (upd H1 gA (.lst (gs1.map V.int))) gA = some (.lst (gs1.map V.int)) := upd_same
        generalize upd H1 gA (HO.lst (gs1.map V.int)) = H2 at *
        have r0 : 0 ≤ gl % n := Int.emod_nonneg _ (by omega)
        have r1 : gl % n < n := Int.emod_lt_of_pos _ n0
        refine ⟨_, rfl, _, rfl, _, _, rfl, rfl, _, rfl, ?_⟩
        refine ite2 (fun _ => ?_) (fun _ => ?_)
        · refine ⟨_, rfl, sA, _, 0, _, rfl, rfl, SqL.of hs2, rfl, .inl ⟨rfl, _, SqL.of hg2⟩, _, rfl, _, rfl, _, _, rfl, rfl, ⟨n0, n1⟩, gA, _, _, rfl, rfl, hg2, ?_, ?_⟩
          · rw [List.length_map]
            exact line_big (by omega)
          · refine ⟨_, rfl, .inl ⟨_, rfl, _, rfl, _, _, rfl, rfl, n0, q _ _ r0 r1 ⟨fg, S, t, gs1 ++ [gl / n], fs, ?_, ?_, ?_, ?_, lf1, lf2⟩ b2.updGr⟩⟩
            · rw [upd_ne sg]; exact hs2
            · rw [upd_same, List.map_append]; rfl
            · rw [upd_ne fg]; exact hf2
            · rw [List.length_append, List.length_singleton]; exact lg
        · exact ⟨_, rfl, .inl ⟨_, rfl, _, rfl, _, _, rfl, rfl, n0, q _ _ r0 r1 ⟨fg, S, t, gs1, fs, hs2, hg2, hf2, by omega, lf1, lf2⟩ b2⟩⟩
    | false =>
      have gi : ∀ {H' : Hp} {S t : Int}, H' sA = some (.lst [.ref gA, .ref fA, .int S, .int t]) → SqL K H' sA [.ref gA, .ref fA, .int S, .int t] := fun e => SqL.of e
      refine ⟨_, rfl, sA, _, 3, _, rfl, rfl, SqL.of hs1, rfl, _, _, rfl, rfl, _, rfl, sA, _, 3, 3, rfl, rfl, hs1, rfl, ?_⟩
      have hs2 : (upd H1 sA (.lst ([V.ref gA, .ref fA, .int S, .int t].set 3 (.int (t + 1))))) sA = some (.lst [.ref gA, .ref fA, .int S, .int (t + 1)]) := upd_same
      have hg2 : (upd H1 sA (.lst ([V.ref gA, .ref fA, .int S, .int t].set 3 (.int (t + 1))))) gA = _ := (upd_ne (Ne.symm sg)).trans hg1
      have hf2 : (upd H1 sA (.lst ([V.ref gA, .ref fA, .int S, .int t].set 3 (.int (t + 1))))) fA = _ := (upd_ne (Ne.symm sf)).trans hf1
      have b2 : Bt sA gA H (upd H1 sA (.lst ([V.ref gA, .ref fA, .int S, .int t].set 3 (.int (t + 1))))) := (Bt.of s1).updSt
      generalize upd H1 sA (.lst ([V.ref gA, .ref fA, .int S, .int t].set 3 (.int (t + 1)))) = H2 at *
      have st2 : Stk sA gA fA H2 := ⟨fg, S, t + 1, gs, fs, hs2, hg2, hf2, lg, lf1, lf2⟩
      refine ⟨_, rfl, sA, _, 3, _, rfl, rfl, SqL.of hs2, rfl, ?_⟩
      generalize t + 1 = t1 at *
      have lm : (fs.map V.int).length = fs.length := List.length_map _
      have i0 : 0 ≤ t1 % (((fs.map V.int).length : Nat) : Int) := Int.emod_nonneg _ (by omega)
      have i1 : t1 % (((fs.map V.int).length : Nat) : Int) < (((fs.map V.int).length : Nat) : Int) := Int.emod_lt_of_pos _ (by omega)
      have hat : atI (fs.map V.int) (t1 % (((fs.map V.int).length : Nat) : Int)) = some (V.int (fs.getD (t1 % (((fs.map V.int).length : Nat) : Int)).toNat 0)) := by
        have e : t1 % (((fs.map V.int).length : Nat) : Int) = (((t1 % (((fs.map V.int).length : Nat) : Int)).toNat : Nat) : Int) := (Int.toNat_of_nonneg i0).symm
        rw [e]
        refine atI_nat ?_
        rw [Int.toNat_natCast, List.getElem?_map, List.getD_eq_getElem?_getD, List.getElem?_eq_getElem (by omega)]
        rfl
      refine ⟨_, rfl, sA, _, 1, _, rfl, rfl, SqL.of hs2, rfl, ?_⟩
      refine ⟨_, rfl, .inl ⟨_, rfl, _, rfl, sA, _, 1, _, rfl, rfl, SqL.of hs2, rfl, fA, _, rfl, .inl (SqL.of hf2), _, _, rfl, rfl, by omega, ?_⟩⟩
      refine ⟨fA, _, _, _, rfl, rfl, SqL.of hf2, hat, .inl ⟨_, rfl, _, _, rfl, rfl, (by show (0 : Int) < _; decide), ?_⟩⟩
      generalize fs.getD (t1 % (((fs.map V.int).length : Nat) : Int)).toNat 0 = c0
      have c1 : 0 ≤ c0 % 1000000007 := Int.emod_nonneg _ (by decide)
      have c2 : c0 % 1000000007 < 1000000007 := Int.emod_lt_of_pos _ (by decide)
      generalize c0 % 1000000007 = c at *
      refine ⟨_, rfl, _, _, rfl, rfl, .inr ⟨by decide, by decide⟩, _, rfl, sA, _, 2, _, rfl, rfl, SqL.of hs2, rfl, .inl ⟨_, rfl, _, _, rfl, rfl, (by show (0 : Int) < _; decide), _, _, rfl, rfl, .inr ⟨by decide, by decide⟩, _, _, rfl, rfl, ?_⟩⟩
      refine ⟨_, rfl, _, _, rfl, rfl, .inr ⟨by decide, by decide⟩, _, _, rfl, rfl, .inl ⟨_, rfl, _, _, rfl, rfl, (by show (0 : Int) < _; decide), ?_⟩⟩
      generalize c * 48271 + S % 998244353 * 69621 + t1 * 2654435761 = b0
      have b01 : 0 ≤ b0 % 4294967291 := Int.emod_nonneg _ (by decide)
      have b02 : b0 % 4294967291 < 4294967291 := Int.emod_lt_of_pos _ (by decide)
      generalize b0 % 4294967291 = bb at *
      refine ⟨_, rfl, _, rfl, _, _, rfl, rfl, .inl ⟨by omega, by omega⟩, _, rfl, _, _, rfl, rfl, .inr ⟨by decide, by decide⟩, _, _, rfl, rfl, _, rfl, _, _, rfl, rfl, .inl ⟨_, rfl, _, _, rfl, rfl, (by show (0 : Int) < _; decide), ?_⟩⟩
      generalize bb * bb + t1 * 362437 + c = b1
      refine ⟨_, rfl, _, _, rfl, rfl, .inr ⟨by decide, by decide⟩, _, rfl, _, _, rfl, rfl, .inr ⟨by decide, by decide⟩, _, _, rfl, rfl, .inl ⟨_, rfl, _, _, rfl, rfl, (by show (0 : Int) < _; decide), _, _, rfl, rfl, ⟨by decide, by decide⟩, _, rfl, _, _, rfl, rfl, n0, ?_⟩⟩
      exact q _ _ (Int.emod_nonneg _ (by omega)) (Int.emod_lt_of_pos _ n0) st2 b2

/-! ### _law_pick -/
abbrev sPick : Stmt := top 27
abbrev nPick : List Str := ["_law_stock_here", "_law_row"]
theorem scPick : FnScope nPick ["_law_stock_here", "_law_row"] (defScope sPick) := ⟨rfl, rfl, rfl, by decide +kernel, rfl, by decide +kernel, by decide +kernel⟩
def spPick : Sp := fun vs H Q _ => ∃ (s g f a : Addr) (xs : List V), vs = [.ref s, .ref a] ∧ Stk s g f H ∧ H a = some (.lst xs) ∧ a ≠ s ∧ a ≠ g ∧ 1 ≤ xs.length ∧ xs.length ≤ 1000 ∧ ∀ (j : Nat) (v : V) (H' : Hp), xs[j]? = some v → Stk s g f H' → Bt s g H H' → Q v H'
theorem ok_pick (T : Glob mg) (cD : Kept P w K mg base 1 "_law_draw" ["_law_stock_here", "_law_size"] spDraw) (h : Here K mg "_law_pick" sPick ["_law_stock_here", "_law_row"]) : Kept P w K mg base 2 "_law_pick" ["_law_stock_here", "_law_row"] spPick := by
  refine kept_of h scPick (fun vs H Q E h => ?_) (fun f cdv A outer s H vs Q E hr h => ?_)
  · obtain ⟨s, g, f, a, xs, rfl, _⟩ := h
    rfl
  · obtain ⟨sA, gA, fA, a, xs, rfl, st, ha, nas, nag, l1, l2, q⟩ := h
    refine ⟨_, pss_one (ps_ret (pe_ix ix_list (pv 1) (pe_k cD hr (by decide) (by rfl) (pa_cons (pv 0) (pa_cons (pe_callB call_len_seq (by rfl) T.len PySem.boot_len (pa_cons (pv 1) pa_nil)) pa_nil))) (fun _ _ => rfl))), ?_⟩
    refine ⟨_, rfl, _, rfl, _, rfl, a, _, rfl, .inl (SqL.of ha), sA, gA, fA, _, rfl, st, by omega, by omega, fun r H1 r0 r1 st1 b1 => ?_⟩
    have er : r = ((r.toNat : Nat) : Int) := (Int.toNat_of_nonneg r0).symm
    have hj : r.toNat < xs.length := by omega
    have hv := List.getElem?_eq_getElem hj
    refine ⟨a, xs, r, xs[r.toNat], rfl, rfl, SqL.of (b1.lst ha nas nag), ?_, q r.toNat _ _ hv st1 b1⟩
    exact Eq.trans (congrArg (atI xs) er) (atI_nat hv)
end
end OhL

set_option Elab.async false
set_option linter.all false
set_option maxRecDepth 100000
set_option maxHeartbeats 4000000
/-! the law's own: members, group, element, plus, kills -/
namespace OhL
open PySem PySem.Spec PyProof.Rows L2
/-! ### a display of tuples of ints -/
def tIn : List Int → TA
  | [] => tNil
  | n :: ns => tCons (tC (.int n)) (tIn ns)
def tTs : List (List Int) → TA
  | [] => tNil
  | ns :: r => tCons (tTup (tIn ns)) (tTs r)
theorem tIn_run : ∀ {ns : List Int} {σ : L2.St} {H : Hp} {Q : List V → Hp → Prop}, Q (ns.map V.int) H → tIn ns σ H Q
  | [], _, _, _, h => h
  | n :: ns, σ, H, Q, h => tIn_run (ns := ns) (Q := fun vs H => Q (V.int n :: vs) H) h
theorem tTs_run : ∀ {nss : List (List Int)} {σ : L2.St} {H : Hp} {Q : List V → Hp → Prop}, (∀ ns ∈ nss, ns.length ≤ 1000) → (∀ vs H', Same H H' → Els H' vs nss → Q vs H') → tTs nss σ H Q
  | [], _, H, _, _, h => h [] H (L2.Same.refl H) .nil
  | ns :: r, σ, H, Q, hl, h => by
    show tIn ns σ H fun vs H1 => vs.length ≤ sizeLine ∧ ∀ p, H1 p = none → tTs r σ (upd H1 p (.tup vs)) fun xs H2 => Q (V.ref p :: xs) H2
    refine tIn_run ⟨?_, fun p hp => ?_⟩
    · rw [List.length_map]
      have := hl ns List.mem_cons_self
      exact Nat.le_of_lt (line_big (by omega))
    · refine tTs_run (fun n hn => hl n (List.mem_cons_of_mem _ hn)) fun vs H' s hv => ?_
      exact h _ _ (L2.Same.trans (sm_new hp) s) (.cons ⟨p, rfl, s _ _ upd_same⟩ hv)
def okB (G : List Int) : Bool := G.all (fun m => decide (2 ≤ m ∧ m ≤ 64)) && decide (1 ≤ G.length) && decide (G.length ≤ 3) && decide (Oh.prodE G ≤ 64)
theorem okG_of {G : List Int} (h : okB G = true) : OkG G := by
  unfold okB at h
  simp only [Bool.and_eq_true, List.all_eq_true, decide_eq_true_eq] at h
  exact ⟨h.1.1.1, h.1.1.2, h.1.2, h.2⟩
def gOnes : List (List Int) := [[2], [3], [4], [5], [6], [7], [8], [9], [10], [11], [12]]
def gTwos : List (List Int) := [[2, 2], [2, 3], [3, 2], [2, 4], [4, 2], [3, 3], [2, 5], [5, 2], [2, 6], [6, 2], [3, 4], [4, 3]]
def gThrees : List (List Int) := [[2, 2, 2], [2, 2, 3], [2, 3, 2], [3, 2, 2]]
def gBig : List (List Int) := [[64], [8, 8], [4, 16], [2, 31], [4, 4, 4], [3, 3, 7], [61]]
theorem memE_ix : ∀ {G : List Int} {x : Oh.El}, x.length = G.length → (∀ i, i < G.length → 0 ≤ x.getD i 0 ∧ x.getD i 0 < G.getD i 0) → Oh.MemE G x
  | [], [], _, _ => trivial
  | m :: G, a :: x, hl, h => ⟨h 0 (Nat.succ_pos _), memE_ix (by simpa using hl) fun i hi => h (i + 1) (Nat.succ_lt_succ hi)⟩
theorem ints_of_bd {F : Nat → Int → Prop} {ys : List V} {l : List Nat} (h : Paired (fun y i => ∃ z : Int, y = V.int z ∧ F i z) ys l) : ∃ zs : List Int, ys = zs.map V.int ∧ Paired (fun z i => F i z) zs l := by
  induction h with
  | nil => exact ⟨[], rfl, .nil⟩
  | cons r t ih =>
    obtain ⟨z, rfl, f⟩ := r
    obtain ⟨zs, rfl, p⟩ := ih
    exact ⟨z :: zs, rfl, .cons f p⟩
theorem paired_range {α : Type} {F : Nat → α → Prop} {zs : List α} {n : Nat} (h : Paired (fun z i => F i z) zs (List.range n)) {i : Nat} (hi : i < n) {d : α} : F i (zs.getD i d) := by
  have hr : (List.range n)[i]? = some i := by rw [List.getElem?_range hi]
  obtain ⟨x, hx, f⟩ := Paired.get' h hr
  rw [List.getD_eq_getElem?_getD, hx]
  exact f
section
variable {P : Program} {w : World} {K : PySem.W.Frag} {mg : Str → Option Value} {base : Heap}

/-! ### _law_members -/
abbrev sMems : Stmt := top 28
abbrev nMems : List Str := ["_law_sizes", "_law_found", "_law_size", "_law_longer", "_law_item", "_law_k"]
theorem scMems : FnScope nMems ["_law_sizes"] (defScope sMems) := ⟨rfl, rfl, rfl, by decide +kernel, rfl, by decide +kernel, by decide +kernel⟩
def spMems : Sp := fun vs H Q _ => ∃ (G : List Int) (g : V), vs = [g] ∧ OkG G ∧ EV H g G ∧ ∀ v H', Same H H' → EL H' v (Oh.membersE G) → Q v H'
theorem ok_mems (T : Glob mg) (h : Here K mg "_law_members" sMems ["_law_sizes"]) : Kept P w K mg base 1 "_law_members" ["_law_sizes"] spMems := by
  refine kept_of h scMems (fun vs H Q E h => ?_) (fun f cdv A outer s H vs Q E hr h => ?_)
  · obtain ⟨G, g, rfl, _⟩ := h
    rfl
  · obtain ⟨G, g, rfl, ok, ⟨gA, rfl, hg⟩, q⟩ := h
    refine ⟨_, pss_cons (ps_set (i := 1) scMems.nd rfl (Or.inl rfl) (pe_lst (pa_cons (pe_tup pa_nil) pa_nil)))
      (pss_cons (ps_for PassesOwn.never rfl (pi_tup (pv 0)) (pg_name (i := 2) scMems.nd rfl (Or.inl rfl))
        (pss_cons (ps_set (i := 3) scMems.nd rfl (Or.inl rfl) (pe_lst pa_nil))
        (pss_cons (ps_for PassesOwn.never rfl (pi_list (pv 1)) (pg_name (i := 4) scMems.nd rfl (Or.inr rfl))
          (pss_one (ps_set (i := 3) scMems.nd rfl (Or.inl rfl) (pe_op op_cat (pv 3) (pe_lc (own := [("_law_k", 5)]) (g := gName 5) (tt := tYes) (te := tOp (rCatA K) (tVar 4) (tTup (tCons (tVar 5) tNil))) rfl scMems.nd (pi_range1 (by rfl) T.range (pa_cons (pv 2) pa_nil)) (blkOk_by (N := nMems) (sc := defScope sMems) (by decide +kernel))
            (fun _ _ _ _ _ => pg_name (i := 5) scMems.nd rfl (Or.inl rfl)) (fun _ _ _ _ _ => pts_nil) (fun _ _ _ _ _ => pe_op op_catA (pv 4) (pe_tup (pa_cons (pv 5) pa_nil))))))))
        (pss_one (ps_set (i := 1) scMems.nd rfl (Or.inl rfl) (pe_callTy call_list_of (by rfl) T.list (by decide +kernel) (pa_cons (pv 3) pa_nil)))))))
      (pss_one (ps_ret (pv 1)))), ?_⟩
    refine ⟨Nat.zero_le _, fun p hp => ⟨by show 1 ≤ sizeLine; decide, fun l hl => ?_⟩⟩
    have s0 : Same H (upd (upd H p (.tup [])) l (.lst [.ref p])) := L2.Same.trans (sm_new hp) (sm_new hl)
    have f := ok.few
    refine ⟨_, rfl, gA, rfl, ⟨_, SqT.of (s0 _ _ hg)⟩, for_tup (K := K) (a := gA) (xs := G.map V.int) (fun i σ H' => ∃ (v : V) (v2 v3 v4 : Option V), σ = [some (.ref gA), some v, v2, v3, v4, none] ∧ Same H H' ∧ EL H' v ((G.take i).foldl Oh.extE [[]]))
      ⟨.ref l, none, none, none, rfl, s0, l, _, rfl, upd_same, .cons ⟨p, rfl, by rw [upd_ne (ne_of_none upd_same hl), upd_same]; rfl⟩ .nil⟩ (fun i σ H' _ ⟨_, _, _, _, _, s, _⟩ => SqT.of (s _ _ hg)) ?_ ?_⟩
    · rintro i x σ H1 hi ⟨v, v2, v3, v4, rfl, s1, ⟨vA, xs, rfl, hvA, hxs⟩⟩
      obtain ⟨m, hm, rfl⟩ := map_get hi
      have mm := ok.each m (List.mem_of_getElem? hm)
      have hlt := (List.getElem?_eq_some_iff.mp hm).1
      have pl : ((G.take i).foldl Oh.extE [[]]).length ≤ 4096 := by
        refine Nat.le_trans (part_len ok (by omega)) (Nat.le_trans (Nat.pow_le_pow_right (by decide) (show i ≤ 2 by omega)) (by decide))
      have pls := part_lens ok i
      have nx : ((G.take (i + 1)).foldl Oh.extE [[]]) = Oh.extE ((G.take i).foldl Oh.extE [[]]) m := by
        rw [take_succ_get hm, List.foldl_append]
        rfl
      generalize (G.take i).foldl Oh.extE [[]] = cur at *
      have lx := Paired.length hxs
      refine ⟨Nat.zero_le _, fun q0 hq0 => ?_⟩
      have s2 := sm_new (o := HO.lst []) hq0
      refine ⟨_, rfl, vA, rfl, ⟨_, SqL.of (s2 _ _ hvA)⟩, for_list (K := K) (a := vA) (xs := xs) (fun j σ H' => ∃ (v3 : V) (v4 : Option V), σ = [some (.ref gA), some (.ref vA), some (.int m), some v3, v4, none] ∧ Same H1 H' ∧ EL H' v3 (Oh.extE (cur.take j) m))
        ⟨.ref q0, v4, rfl, s2, q0, [], rfl, upd_same, by exact .nil⟩ (fun j σ H' _ ⟨_, _, _, s, _⟩ => SqL.of (s _ _ hvA)) ?_ ?_⟩
      · rintro j x σ H2 hj ⟨v3, v4, rfl, s3, ⟨aA, as, rfl, haA, has⟩⟩
        obtain ⟨y, hy, hxy⟩ := Paired.get hxs hj
        have ly := pls y (List.mem_of_getElem? hy)
        have hy2 := hxy.mono (tk s3)
        have la : as.length ≤ 4096 * 64 := by
          rw [Paired.length has, Oh.ext_len, List.length_take]
          exact Nat.mul_le_mul (by omega) (by omega)
        refine ⟨_, rfl, _, rfl, m, rfl, by omega, by omega, fun D hD => ?_⟩
        refine lc_pure walk_range (by omega) hD (fun _ => true) (fun k y' H => EV H y' (y ++ [(k : Int)])) (fun _ _ _ _ t r => r.mono t) (fun _ _ => trivial) (fun k z H3 H4 hk s4 hz Q1 Q0 k1 k0 => ?_) (fun zs H3 s4 hD3 hz => ?_)
        · obtain ⟨rfl, rfl⟩ := hz
          refine ⟨rfl, _, rfl, _, rfl, by show 1 ≤ sizeLine; decide, fun t ht => ?_⟩
          have s5 := sm_new (o := HO.tup [V.int (0 + (k : Int))]) ht
          obtain ⟨yA, rfl, hyA⟩ := (hy2.mono (tk s4)).mono (tk s5)
          have e0 : (0 : Int) + (k : Int) = (k : Int) := Int.zero_add _
          have ht2 : (upd H4 t (.tup [V.int (0 + (k : Int))])) t = some (.tup [V.int (k : Int)]) := by rw [upd_same, e0]
          refine ⟨yA, t, y.map V.int, [V.int (k : Int)], rfl, rfl, SqT.of hyA, SqT.of ht2, by rw [List.length_map, List.length_singleton]; exact Nat.le_of_lt (line_big (by omega)), fun e => k1 _ _ s5 rfl ?_, fun _ e => absurd e (by simp), fun _ _ t2 ht3 => k1 _ _ (L2.Same.trans s5 (sm_new ht3)) rfl ⟨t2, rfl, ?_⟩⟩
          · have e' : y = [] := List.map_eq_nil_iff.mp e
            rw [e']
            exact ⟨t, rfl, ht2⟩
          · rw [upd_same, List.map_append]
            rfl
        · rw [range_all] at hz
          have hz2 := paired_map_r (F := EV H3) (g := fun k : Nat => y ++ [(k : Int)]) hz
          have lz : zs.length ≤ 64 := by
            rw [Paired.length hz2, List.length_map, List.length_range]
            omega
          refine ⟨aA, D, as, zs, rfl, rfl, s4 _ _ haA, hD3, Nat.le_of_lt (line_big (by omega)), fun r hr2 => ?_⟩
          have s6 := sm_new (o := HO.lst (as ++ zs)) hr2
          refine ⟨_, _, rfl, L2.Same.trans s3 (L2.Same.trans s4 s6), r, _, rfl, upd_same, ?_⟩
          rw [take_succ_get hy, ext_snoc]
          exact Paired.append (Els.mono (tk (L2.Same.trans s4 s6)) has) (Els.mono (tk s6) hz2)
      · rintro σ H2 ⟨v3, v4, rfl, s3, ⟨aA, as, rfl, haA, has⟩⟩
        rw [lx, List.take_length] at has
        refine ⟨_, rfl, aA, as, rfl, .inl (SqL.of haA), fun r hr2 => ?_⟩
        refine ⟨_, _, _, _, rfl, L2.Same.trans s1 (L2.Same.trans s3 (sm_new hr2)), r, as, rfl, upd_same, ?_⟩
        rw [nx]
        exact Els.mono (tk (sm_new hr2)) has
    · rintro σ H1 ⟨v, v2, v3, v4, rfl, s1, hv⟩
      rw [List.length_map, List.take_length] at hv
      exact ⟨_, rfl, q _ _ s1 hv⟩

/-! ### _law_group -/
abbrev sGrp : Stmt := top 29
abbrev nGrp : List Str := ["_law_stock_here", "_law_ones", "_law_twos", "_law_threes"]
theorem scGrp : FnScope nGrp ["_law_stock_here"] (defScope sGrp) := ⟨rfl, rfl, rfl, by decide +kernel, rfl, by decide +kernel, by decide +kernel⟩
def spGrp : Sp := fun vs H Q _ => ∃ (s g f : Addr), vs = [.ref s] ∧ Stk s g f H ∧ ∀ v H' G, Stk s g f H' → Bt s g H H' → EV H' v G → OkG G → Q v H'
theorem ok_grp (T : Glob mg) (cP : Kept P w K mg base 2 "_law_pick" ["_law_stock_here", "_law_row"] spPick) (h : Here K mg "_law_group" sGrp ["_law_stock_here"]) : Kept P w K mg base 3 "_law_group" ["_law_stock_here"] spGrp := by
  refine kept_of h scGrp (fun vs H Q E h => ?_) (fun f cdv A outer s H vs Q E hr h => ?_)
  · obtain ⟨s, g, f, rfl, _⟩ := h
    rfl
  · obtain ⟨sA, gA, fA, rfl, st, q⟩ := h
    refine ⟨_, pss_cons (ps_set (i := 1) scGrp.nd rfl (Or.inl rfl) (pe_lst (t := tTs gOnes) (pa_cons (pe_tup (pa_cons pe_int pa_nil)) (pa_cons (pe_tup (pa_cons pe_int pa_nil)) (pa_cons (pe_tup (pa_cons pe_int pa_nil)) (pa_cons (pe_tup (pa_cons pe_int pa_nil)) (pa_cons (pe_tup (pa_cons pe_int pa_nil)) (pa_cons (pe_tup (pa_cons pe_int pa_nil)) (pa_cons (pe_tup (pa_cons pe_int pa_nil)) (pa_cons (pe_tup (pa_cons pe_int pa_nil)) (pa_cons (pe_tup (pa_cons pe_int pa_nil)) (pa_cons (pe_tup (pa_cons pe_int pa_nil)) (pa_cons (pe_tup (pa_cons pe_int pa_nil)) pa_nil)))))))))))))
      (pss_cons (ps_set (i := 2) scGrp.nd rfl (Or.inl rfl) (pe_lst (t := tTs gTwos) (pa_cons (pe_tup (pa_cons pe_int (pa_cons pe_int pa_nil))) (pa_cons (pe_tup (pa_cons pe_int (pa_cons pe_int pa_nil))) (pa_cons (pe_tup (pa_cons pe_int (pa_cons pe_int pa_nil))) (pa_cons (pe_tup (pa_cons pe_int (pa_cons pe_int pa_nil))) (pa_cons (pe_tup (pa_cons pe_int (pa_cons pe_int pa_nil))) (pa_cons (pe_tup (pa_cons pe_int (pa_cons pe_int pa_nil))) (pa_cons (pe_tup (pa_cons pe_int (pa_cons pe_int pa_nil))) (pa_cons (pe_tup (pa_cons pe_int (pa_cons pe_int pa_nil))) (pa_cons (pe_tup (pa_cons pe_int (pa_cons pe_int pa_nil))) (pa_cons (pe_tup (pa_cons pe_int (pa_cons pe_int pa_nil))) (pa_cons (pe_tup (pa_cons pe_int (pa_cons pe_int pa_nil))) (pa_cons (pe_tup (pa_cons pe_int (pa_cons pe_int pa_nil))) pa_nil))))))))))))))
      (pss_cons (ps_set (i := 3) scGrp.nd rfl (Or.inl rfl) (pe_lst (t := tTs gThrees) (pa_cons (pe_tup (pa_cons pe_int (pa_cons pe_int (pa_cons pe_int pa_nil)))) (pa_cons (pe_tup (pa_cons pe_int (pa_cons pe_int (pa_cons pe_int pa_nil)))) (pa_cons (pe_tup (pa_cons pe_int (pa_cons pe_int (pa_cons pe_int pa_nil)))) (pa_cons (pe_tup (pa_cons pe_int (pa_cons pe_int (pa_cons pe_int pa_nil)))) pa_nil))))))
      (pss_one (ps_ret (pe_k cP hr (by decide) (by rfl) (pa_cons (pv 0) (pa_cons (pe_k cP hr (by decide) (by rfl) (pa_cons (pv 0) (pa_cons (pe_lst (pa_cons (pv 1) (pa_cons (pv 2) (pa_cons (pv 3) pa_nil)))) pa_nil))) pa_nil))))))), ?_⟩
    refine tTs_run (by decide) fun v1 H1 s1 h1 => ?_
    have l1 : v1.length = gOnes.length := Paired.length h1
    refine ⟨by rw [l1]; decide, fun a1 ha1 => ?_⟩
    have t1 := sm_new (o := HO.lst v1) ha1
    have e1 : (upd H1 a1 (.lst v1)) a1 = some (.lst v1) := upd_same
    have u1 := L2.Same.trans s1 t1
    have h1' := Els.mono (tk t1) h1
    have n1 := (st.same s1).new ha1
    generalize upd H1 a1 (HO.lst v1) = H1' at *
    refine tTs_run (by decide) fun v2 H2 s2 h2 => ?_
    have l2 : v2.length = gTwos.length := Paired.length h2
    refine ⟨by rw [l2]; decide, fun a2 ha2 => ?_⟩
    have t2 := sm_new (o := HO.lst v2) ha2
    have e2 : (upd H2 a2 (.lst v2)) a2 = some (.lst v2) := upd_same
    have u2 := L2.Same.trans s2 t2
    have h2' := Els.mono (tk t2) h2
    have n2 := (st.same (L2.Same.trans u1 s2)).new ha2
    generalize upd H2 a2 (HO.lst v2) = H2' at *
    refine tTs_run (by decide) fun v3 H3 s3 h3 => ?_
    have l3 : v3.length = gThrees.length := Paired.length h3
    refine ⟨by rw [l3]; decide, fun a3 ha3 => ?_⟩
    have t3 := sm_new (o := HO.lst v3) ha3
    have e3 : (upd H3 a3 (.lst v3)) a3 = some (.lst v3) := upd_same
    have u3 := L2.Same.trans s3 t3
    have h3' := Els.mono (tk t3) h3
    have n3 := (st.same (L2.Same.trans u1 (L2.Same.trans u2 s3))).new ha3
    generalize upd H3 a3 (HO.lst v3) = H3' at *
    refine ⟨_, rfl, _, rfl, _, rfl, _, rfl, _, rfl, by show 3 ≤ sizeLine; decide, fun p hp => ?_⟩
    have s4 := sm_new (o := HO.lst [.ref a1, .ref a2, .ref a3]) hp
    have u03 := L2.Same.trans u1 (L2.Same.trans u2 u3)
    have st3 := st.same u03
    have np := st3.new hp
    have st4 := st3.same s4
    refine ⟨sA, gA, fA, p, _, rfl, st4, upd_same, np.1, np.2.1, by show 1 ≤ 3; decide, by show 3 ≤ 1000; decide, fun j v H5 hj st5 b5 => ?_⟩
    have fin : ∀ (a : Addr) (xs : List V) (L : List (List Int)), v = .ref a → H3' a = some (.lst xs) → Els H3' xs L → a ≠ sA → a ≠ gA → 1 ≤ L.length → L.length ≤ 1000 → (∀ G ∈ L, okB G = true) →
        spPick [.ref sA, v] H5 Q E0 := by
      intro a xs L e ha hx na ng lo hi hok
      subst e
      have b35 : Bt sA gA H3' H5 := (Bt.of s4).trans b5
      have t35 := st3.tk b35
      have lx := Paired.length hx
      refine ⟨sA, gA, fA, a, xs, rfl, st5, b35.lst ha na ng, na, ng, by omega, by omega, fun j2 v2 H6 hj2 st6 b6 => ?_⟩
      obtain ⟨G, hG, hv⟩ := Paired.get hx hj2
      exact q _ _ G st6 (((Bt.of u03).trans b35).trans b6) ((hv.mono t35).mono (st5.tk b6)) (okG_of (hok G (List.mem_of_getElem? hG)))
    match j, hj with
    | 0, hj => exact fin a1 v1 gOnes (Option.some.inj hj).symm (L2.Same.trans u2 u3 _ _ e1) (Els.mono (tk (L2.Same.trans u2 u3)) h1') n1.1 n1.2.1 (by decide) (by decide) (by decide)
    | 1, hj => exact fin a2 v2 gTwos (Option.some.inj hj).symm (u3 _ _ e2) (Els.mono (tk u3) h2') n2.1 n2.2.1 (by decide) (by decide) (by decide)
    | 2, hj => exact fin a3 v3 gThrees (Option.some.inj hj).symm e3 h3' n3.1 n3.2.1 (by decide) (by decide) (by decide)
    | j + 3, hj => simp at hj

/-! ### _law_element -/
abbrev sEle : Stmt := top 30
abbrev nEle : List Str := ["_law_stock_here", "_law_group_here", "_law_modulus"]
theorem scEle : FnScope nEle ["_law_stock_here", "_law_group_here"] (defScope sEle) := ⟨rfl, rfl, rfl, by decide +kernel, rfl, by decide +kernel, by decide +kernel⟩
def spEle : Sp := fun vs H Q _ => ∃ (s g f : Addr) (G : List Int) (u : V), vs = [.ref s, u] ∧ Stk s g f H ∧ OkG G ∧ EV H u G ∧ ∀ v H' x, Stk s g f H' → Bt s g H H' → EV H' v x → Oh.MemE G x → Q v H'
theorem ok_ele (T : Glob mg) (cD : Kept P w K mg base 1 "_law_draw" ["_law_stock_here", "_law_size"] spDraw) (h : Here K mg "_law_element" sEle ["_law_stock_here", "_law_group_here"]) : Kept P w K mg base 2 "_law_element" ["_law_stock_here", "_law_group_here"] spEle := by
  refine kept_of h scEle (fun vs H Q E h => ?_) (fun f cdv A outer s H vs Q E hr h => ?_)
  · obtain ⟨s, g, f, G, u, rfl, _⟩ := h
    rfl
  · obtain ⟨sA, gA, fA, G, u, rfl, st, ok, ⟨uA, rfl, hu⟩, q⟩ := h
    refine ⟨_, pss_one (ps_ret (pe_callTy call_tuple_of (by rfl) T.tuple (by decide +kernel) (pa_cons (pe_lc (own := [("_law_modulus", 2)]) (g := gName 2) (tt := tYes) rfl scEle.nd (pi_tup (pv 1)) (blkOk_by (N := nEle) (sc := defScope sEle) (by decide +kernel))
      (fun _ _ _ _ _ => pg_name (i := 2) scEle.nd rfl (Or.inl rfl)) (fun _ _ _ _ _ => pts_nil) (fun _ _ _ _ _ => pe_k cD hr (by decide) (by rfl) (pa_cons (pv 0) (pa_cons (pv 2) pa_nil)))) pa_nil))), ?_⟩
    refine ⟨_, rfl, uA, rfl, ⟨_, SqT.of hu⟩, fun D hD => ?_⟩
    refine lc_stk (walk_tup (xs := G.map V.int)) (by rw [List.length_map]; have := ok.few; omega) hD st (fun i y _ => ∃ z : Int, y = V.int z ∧ (0 ≤ z ∧ z < G.getD i 0)) (fun _ _ _ _ _ r => r)
      (fun H1 b s1 => SqT.of (st.tk b _ _ hu)) (fun i t H1 H2 hi b1 s1 hy Q1 k1 => ?_) (fun ys H1 b1 s1 hD1 hp1 => ?_)
    · obtain ⟨rfl, ht⟩ := hy
      rw [List.length_map] at hi
      obtain rfl := at_int ht
      have m0 := ok.le hi
      exact ⟨rfl, _, rfl, _, rfl, sA, gA, fA, _, rfl, s1, by omega, by omega, fun r H3 r0 r1 s3 b3 => k1 _ _ b3 s3 ⟨r, rfl, r0, r1⟩⟩
    · obtain ⟨zs, rfl, hz⟩ := ints_of_bd (F := fun i z => 0 ≤ z ∧ z < G.getD i 0) hp1
      have lz := Paired.length hz
      rw [List.length_range, List.length_map] at lz
      refine ⟨D, _, rfl, .inl ⟨SqL.of hD1, fun t ht => ?_⟩⟩
      have n := s1.new ht
      refine q _ _ zs (s1.upd n) (b1.trans (Bt.of (sm_new ht))) ⟨t, rfl, upd_same⟩ (memE_ix lz fun i hi => ?_)
      rw [List.length_map] at hz
      exact paired_range (F := fun i z => 0 ≤ z ∧ z < G.getD i 0) hz hi

/-! ### _law_plus -/
abbrev sPlus : Stmt := top 31
abbrev nPlus : List Str := ["_law_group_here", "_law_one", "_law_two", "_law_a", "_law_b", "_law_modulus"]
theorem scPlus : FnScope nPlus ["_law_group_here", "_law_one", "_law_two"] (defScope sPlus) := ⟨rfl, rfl, rfl, by decide +kernel, rfl, by decide +kernel, by decide +kernel⟩
theorem ok_plus (T : Glob mg) (h : Here K mg "_law_plus" sPlus ["_law_group_here", "_law_one", "_law_two"]) : Kept P w K mg base 1 "_law_plus" ["_law_group_here", "_law_one", "_law_two"] spAdded := by
  refine kept_of h scPlus (fun vs H Q E h => ?_) (fun f cdv A outer s H vs Q E hr h => ?_)
  · obtain ⟨G, x, y, g, a, b, rfl, _⟩ := h
    rfl
  · obtain ⟨G, x, y, g, a, b, rfl, hp, ⟨gA, rfl, hg⟩, ⟨aA, rfl, ha⟩, ⟨bA, rfl, hb⟩, lx, ly, lG, q⟩ := h
    refine ⟨_, pss_one (ps_ret (pe_callTy call_tuple_of (by rfl) T.tuple (by decide +kernel) (pa_cons (pe_lc (own := [("_law_a", 3), ("_law_b", 4), ("_law_modulus", 5)]) (g := gTup K 3 (gCons (gName 3) (gCons (gName 4) (gCons (gName 5) gNil)))) (tt := tYes) rfl scPlus.nd
      (pi_zip3 (by rfl) T.zip (pa_cons (pv 1) (pa_cons (pv 2) (pa_cons (pv 0) pa_nil)))) (blkOk_by (N := nPlus) (sc := defScope sPlus) (by decide +kernel))
      (fun _ _ _ _ _ => pg_tup rfl (pgs_cons (pg_name (i := 3) scPlus.nd rfl (Or.inl rfl)) (pgs_cons (pg_name (i := 4) scPlus.nd rfl (Or.inl rfl)) (pgs_cons (pg_name (i := 5) scPlus.nd rfl (Or.inl rfl)) pgs_nil))))
      (fun _ _ _ _ _ => pts_nil) (fun _ _ _ _ _ => pe_op op_mod (pe_callTy call_int1 (by rfl) T.int (by decide +kernel) (pa_cons (pe_op op_add (pv 3) (pv 4)) pa_nil)) (pv 5))) pa_nil))), ?_⟩
    refine ⟨_, rfl, _, rfl, _, rfl, _, _, _, _, _, _, rfl, SqT.of ha, SqT.of hb, SqT.of hg, fun D hD => ?_⟩
    refine lc_pure (walk_zip3 (n := G.length) (by simp [lx]) (by simp [ly]) (by simp)) (by omega) hD (fun _ => true) (fun i y' _ => y' = V.int ((x.getD i 0 + y.getD i 0) % G.getD i 0)) (fun _ _ _ _ _ r => r)
      (fun H1 s => ⟨SqT.of (s _ _ ha), SqT.of (s _ _ hb), SqT.of (s _ _ hg)⟩) (fun i t H1 H2 hi s1 hy Q1 Q0 k1 k0 => ?_) (fun ys H1 s1 hD1 hp1 => ?_)
    · obtain ⟨t, u, v, z, rfl, ht, rfl, h1, h2, h3⟩ := hy
      obtain rfl := at_int h1
      obtain rfl := at_int h2
      obtain rfl := at_int h3
      have m0 := hp _ (Oh.getD_mem hi)
      rw [← getD_01 hi] at m0
      exact ⟨t, _, rfl, SqT.of upd_same, rfl, _, _, rfl, _, _, rfl, _, _, rfl, rfl, rfl, _, rfl, _, rfl, _, _, rfl, rfl, .inl ⟨_, rfl, _, rfl, _, _, rfl, rfl, m0, k1 _ _ (sm_new ht) rfl rfl⟩⟩
    · rw [range_all] at hp1
      have e := paired_fn hp1
      refine ⟨D, ys, rfl, .inl ⟨SqL.of hD1, fun l hl => q _ _ (L2.Same.trans s1 (sm_new hl)) ⟨l, rfl, ?_⟩⟩⟩
      rw [upd_same, e, Oh.addE_ix lx ly, List.map_map]
      rfl

/-! ### _law_kills -/
abbrev sLK : Stmt := top 32
abbrev nLK : List Str := ["_law_group_here", "_law_ask", "_law_element_here", "_law_whole", "_law_found", "_law_modulus", "_law_a", "_law_b"]
theorem scLK : FnScope nLK ["_law_group_here", "_law_ask", "_law_element_here"] (defScope sLK) := ⟨rfl, rfl, rfl, by decide +kernel, rfl, by decide +kernel, by decide +kernel⟩
theorem sum_snoc (f : Nat → Int) (i : Nat) : ((List.range (i + 1)).map f).sum = ((List.range i).map f).sum + f i := by
  rw [List.range_succ, List.map_append, List.sum_append]
  simp
theorem ok_lk (T : Glob mg) (h : Here K mg "_law_kills" sLK ["_law_group_here", "_law_ask", "_law_element_here"]) : Kept P w K mg base 1 "_law_kills" ["_law_group_here", "_law_ask", "_law_element_here"] spKills := by
  refine kept_of h scLK (fun vs H Q E h => ?_) (fun f cdv A outer s H vs Q E hr h => ?_)
  · obtain ⟨G, c, x, g, a, b, rfl, _⟩ := h
    rfl
  · obtain ⟨G, c, x, g, a, b, rfl, ok, ⟨gA, rfl, hg⟩, ⟨aA, rfl, ha⟩, ⟨bA, rfl, hb⟩, mc, mx, q⟩ := h
    have lc := mc.len
    have lx := mx.len
    refine ⟨_, pss_cons (ps_asg (pe_tup (pa_cons pe_int (pa_cons pe_int pa_nil))) (pg_tup rfl (pgs_cons (pg_name (i := 3) scLK.nd rfl (Or.inl rfl)) (pgs_cons (pg_name (i := 4) scLK.nd rfl (Or.inl rfl)) pgs_nil))))
      (pss_cons (ps_for PassesOwn.never rfl (pi_tup (pv 0)) (pg_name (i := 5) scLK.nd rfl (Or.inl rfl)) (pss_one (ps_set (i := 3) scLK.nd rfl (Or.inl rfl) (pe_op op_mul (pv 3) (pv 5)))))
      (pss_cons (ps_for PassesOwn.never rfl (pi_zip3 (by rfl) T.zip (pa_cons (pv 1) (pa_cons (pv 2) (pa_cons (pv 0) pa_nil)))) (pg_tup rfl (pgs_cons (pg_name (i := 6) scLK.nd rfl (Or.inl rfl)) (pgs_cons (pg_name (i := 7) scLK.nd rfl (Or.inl rfl)) (pgs_cons (pg_name (i := 5) scLK.nd rfl (Or.inl rfl)) pgs_nil))))
        (pss_one (ps_set (i := 4) scLK.nd rfl (Or.inl rfl) (pe_op op_add (pv 4) (pe_op op_mul (pe_op op_mul (pv 6) (pv 7)) (pe_op op_fdiv (pv 3) (pv 5)))))))
      (pss_one (ps_ret (pe_cmpR op_eq (pe_op op_mod (pe_callTy call_int1 (by rfl) T.int (by decide +kernel) (pa_cons (pv 4) pa_nil)) (pv 3)) pe_int (nomark _)))))), ?_⟩
    refine ⟨by show 2 ≤ sizeLine; decide, fun p hp => ⟨p, _, rfl, SqT.of upd_same, rfl, _, _, rfl, _, _, rfl, rfl, ?_⟩⟩
    have s0 := sm_new (o := HO.tup [V.int 1, V.int 0]) hp
    replace hg := s0 _ _ hg
    replace ha := s0 _ _ ha
    replace hb := s0 _ _ hb
    generalize upd H p (HO.tup [V.int 1, V.int 0]) = H0 at *
    refine ⟨_, rfl, gA, rfl, ⟨_, SqT.of hg⟩, for_tup (K := K) (a := gA) (xs := G.map V.int) (fun i σ H' => H' = H0 ∧ ∃ (v5 : Option V), σ = [some (.ref gA), some (.ref aA), some (.ref bA), some (.int ((G.take i).foldl (· * ·) 1)), some (.int 0), v5, none, none])
      ⟨rfl, none, rfl⟩ (fun i σ H' _ ⟨e, _⟩ => by rw [e]; exact SqT.of hg) ?_ ?_⟩
    · rintro i t σ H1 hi ⟨rfl, v5, rfl⟩
      obtain ⟨m, hm, rfl⟩ := map_get hi
      have mm := ok.each m (List.mem_of_getElem? hm)
      refine ⟨_, rfl, _, rfl, _, _, rfl, rfl, .inr ⟨by omega, by omega⟩, rfl, some (.int m), ?_⟩
      rw [take_succ_get hm, List.foldl_append]
      rfl
    · rintro σ H1 ⟨rfl, v5, rfl⟩
      rw [List.length_map, List.take_length]
      show tSeq _ _ _ [some (V.ref gA), some (V.ref aA), some (V.ref bA), some (V.int (Oh.wholeE G)), some (.int 0), v5, none, none] H1
      have w0 := Oh.whole_pos ok.pos
      refine ⟨_, rfl, _, rfl, _, rfl, _, _, _, _, _, _, rfl, SqT.of ha, SqT.of hb, SqT.of hg, for_it (walk_zip3 (n := G.length) (by simp [lc]) (by simp [lx]) (by simp))
        (fun i σ H' => Same H1 H' ∧ ∃ (v5 v6 v7 : Option V), σ = [some (.ref gA), some (.ref aA), some (.ref bA), some (.int (Oh.wholeE G)), some (.int ((List.range i).map fun i => c.getD i 0 * x.getD i 0 * (Oh.wholeE G / G.getD i 0)).sum), v5, v6, v7])
        ⟨L2.Same.refl H1, v5, none, none, rfl⟩ (fun i σ H' _ ⟨s, _⟩ => ⟨SqT.of (s _ _ ha), SqT.of (s _ _ hb), SqT.of (s _ _ hg)⟩) ?_ ?_⟩
      · rintro i t σ H2 H3 hi ⟨s2, v5, v6, v7, rfl⟩ hy
        obtain ⟨t, u, v, z, rfl, ht, rfl, h1, h2, h3⟩ := hy
        obtain rfl := at_int h1
        obtain rfl := at_int h2
        obtain rfl := at_int h3
        have m0 := ok.le hi
        have c0 := mem_le ok mc hi
        have x0 := mem_le ok mx hi
        have cx0 : 0 ≤ c.getD i 0 * x.getD i 0 := Int.mul_nonneg c0.1 x0.1
        have cx1 : c.getD i 0 * x.getD i 0 ≤ 64 * 64 := Int.mul_le_mul (by omega) (by omega) x0.1 (by decide)
        refine ⟨t, _, rfl, SqT.of upd_same, rfl, _, _, rfl, _, _, rfl, _, _, rfl, rfl, _, rfl, _, rfl, _, rfl, _, _, rfl, rfl, .inl ⟨by omega, by omega⟩, _, rfl, _, rfl, _, _, rfl, rfl, ⟨by omega, by omega⟩, _, _, rfl, rfl, .inl ⟨by omega, by omega⟩, _, _, rfl, rfl, L2.Same.trans s2 (sm_new ht), some (V.int (G.getD i 0)), some (V.int (c.getD i 0)), some (V.int (x.getD i 0)), ?_⟩
        rw [sum_snoc]
        rfl
      · rintro σ H2 ⟨s2, v5, v6, v7, rfl⟩
        rw [← dot_ix (Oh.wholeE G) lc lx]
        refine ⟨_, rfl, .inl ⟨_, rfl, _, rfl, _, _, rfl, rfl, w0, rfl, ?_⟩⟩
        have e3 : decide (V.int (Oh.dotE (Oh.wholeE G) G c x % Oh.wholeE G) = V.int 0) = Oh.killsE G c x := by
          unfold Oh.killsE
          exact dec_int
        rw [e3]
        exact q _ (L2.Same.trans s0 s2)
end
end OhL

set_option Elab.async false
set_option linter.all false
set_option maxRecDepth 100000
set_option maxHeartbeats 4000000
/-! the law's own: spanned, rows -/
namespace OhL
open PySem PySem.Spec PyProof.Rows L2
section
variable {P : Program} {w : World} {K : PySem.W.Frag} {mg : Str → Option Value} {base : Heap}

/-! ### _law_spanned -/
abbrev sSpd : Stmt := top 33
abbrev nSpd : List Str := ["_law_group_here", "_law_some", "_law_found", "_law_at", "_law_turn", "_law_item", "_law_fresh"]
theorem scSpd : FnScope nSpd ["_law_group_here", "_law_some"] (defScope sSpd) := ⟨rfl, rfl, rfl, by decide +kernel, rfl, by decide +kernel, by decide +kernel⟩
def spSpd : Sp := fun vs H Q _ => ∃ (G : List Int) (S : List Oh.El) (g a : V), vs = [g, a] ∧ OkG G ∧ EV H g G ∧ ET H a S ∧ S.length ≤ 1000 ∧ (∀ s ∈ S, Oh.MemE G s) ∧ ∀ v H' l, Same H H' → EL H' v l → (∀ x, x ∈ l ↔ Oh.Sp G S x) → Q v H'
theorem ok_spd (T : Glob mg) (cP : Kept P w K mg base 1 "_law_plus" ["_law_group_here", "_law_one", "_law_two"] spAdded) (h : Here K mg "_law_spanned" sSpd ["_law_group_here", "_law_some"]) : Kept P w K mg base 2 "_law_spanned" ["_law_group_here", "_law_some"] spSpd := by
  refine kept_of h scSpd (fun vs H Q E h => ?_) (fun f cdv A outer s H vs Q E hr h => ?_)
  · obtain ⟨G, S, g, a, rfl, _⟩ := h
    rfl
  · obtain ⟨G, S, g, a, rfl, ok, ⟨gA, rfl, hg⟩, ⟨aA, ss, rfl, ha, hS⟩, lS, mS, q⟩ := h
    have fw := ok.few
    have lss := Paired.length hS
    refine ⟨_, pss_cons (ps_asg (pe_tup (pa_cons (pe_lst (pa_cons (pe_callTy call_tuple_of (by rfl) T.tuple (by decide +kernel) (pa_cons (pe_op op_rep (pe_lst (pa_cons pe_int pa_nil)) (pe_callB call_len_seq (by rfl) T.len PySem.boot_len (pa_cons (pv 0) pa_nil))) pa_nil)) pa_nil)) (pa_cons pe_int pa_nil)))
        (pg_tup rfl (pgs_cons (pg_name (i := 2) scSpd.nd rfl (Or.inr rfl)) (pgs_cons (pg_name (i := 3) scSpd.nd rfl (Or.inr rfl)) pgs_nil))))
      (pss_cons (ps_for PassesOwn.never rfl (pi_range1 (by rfl) T.range (pa_cons pe_int pa_nil)) (pg_name (i := 4) scSpd.nd rfl (Or.inl rfl))
        (pss_one (ps_if (pt_cmpR op_lt (pv 3) (pe_callB call_len_seq (by rfl) T.len PySem.boot_len (pa_cons (pv 2) pa_nil)) (nomark _))
          (pss_cons (ps_setLc (i := 6) (own := [("_law_item", 5)]) (g := gName 5) (tt := tYes) (te := tCall spAdded [] E0 (tCons (tVar 0) (tCons (tOp (rIxL K) (tVar 2) (tVar 3)) (tCons (tVar 5) tNil)))) rfl scSpd.nd rfl rfl (sw_true rfl rfl rfl (by decide +kernel)) (pi_tup (pv 1)) (blkOk_by (N := nSpd) (sc := defScope sSpd) (by decide +kernel))
            (fun _ _ _ _ _ => pg_name (i := 5) scSpd.nd rfl (Or.inl rfl)) (fun _ _ _ _ _ => pts_nil) (fun _ _ _ _ _ => pe_k cP hr (by decide) (by rfl) (pa_cons (pv 0) (pa_cons (pe_ix ix_list (pv 2) (pv 3) (fun _ _ => rfl)) (pa_cons (pv 5) pa_nil)))))
          (pss_cons (ps_for PassesOwn.never rfl (pi_list (pv 6)) (pg_name (i := 5) scSpd.nd rfl (Or.inl rfl))
            (pss_one (ps_if (pt_cmpR (op_notInD (hu65 hr)) (pv 5) (pv 2) (by rfl)) (pss_one (ps_expr (pe_bm PySem.F.plainAttrs_list PySem.F.slot_list_append PySem.F.type_list_append mt_append (pv 2) (pa_cons (pv 5) pa_nil)))) pss_nil)))
          (pss_one (ps_set (i := 3) scSpd.nd rfl (Or.inr rfl) (pe_op op_add (pv 3) pe_int))))) pss_nil)))
      (pss_one (ps_ret (pe_callB cr_sortE (by rfl) T.sorted (by decide +kernel) (pa_cons (pv 2) pa_nil))))), ?_⟩
    refine ⟨by show 1 ≤ sizeLine; decide, fun p1 hp1 => ?_⟩
    have s1 := sm_new (o := HO.lst [V.int 0]) hp1
    refine ⟨_, rfl, gA, _, rfl, .inr (SqT.of (s1 _ _ hg)), p1, _, _, rfl, rfl, upd_same, by omega, by rw [List.length_map]; omega, by rw [List.length_map, List.length_singleton]; exact Nat.le_of_lt (line_big (by omega)), fun p2 hp2 => ?_⟩
    rw [zero_rep]
    have s2 := sm_new (o := HO.lst ((Oh.zeroE G).map V.int)) hp2
    refine ⟨p2, _, rfl, .inl ⟨SqL.of upd_same, fun t ht => ?_⟩⟩
    have s3 := sm_new (o := HO.tup ((Oh.zeroE G).map V.int)) ht
    refine ⟨by show 1 ≤ sizeLine; decide, fun l hl => ?_⟩
    have s4 := sm_new (o := HO.lst [V.ref t]) hl
    have zt : EV (upd (upd (upd (upd H p1 (.lst [V.int 0])) p2 (.lst ((Oh.zeroE G).map V.int))) t (.tup ((Oh.zeroE G).map V.int))) l (.lst [V.ref t])) (.ref t) (Oh.zeroE G) := ⟨t, rfl, s4 _ _ upd_same⟩
    have hl4 : (upd (upd (upd (upd H p1 (.lst [V.int 0])) p2 (.lst ((Oh.zeroE G).map V.int))) t (.tup ((Oh.zeroE G).map V.int))) l (.lst [V.ref t])) l = some (.lst [V.ref t]) := upd_same
    have s03 := L2.Same.trans s1 (L2.Same.trans s2 s3)
    have l0 : H l = none := L2.Same.free s03 hl
    have s04 := L2.Same.trans s03 s4
    generalize (upd (upd (upd (upd H p1 (.lst [V.int 0])) p2 (.lst ((Oh.zeroE G).map V.int))) t (.tup ((Oh.zeroE G).map V.int))) l (.lst [V.ref t])) = H4 at *
    refine ⟨by show 2 ≤ sizeLine; decide, fun p5 hp5 => ⟨p5, _, rfl, SqT.of upd_same, rfl, _, _, rfl, _, _, rfl, rfl, ?_⟩⟩
    have s5 := sm_new (o := HO.tup [V.ref l, V.int 0]) hp5
    have s05 := L2.Same.trans s04 s5
    replace zt := zt.mono (tk s5)
    replace hl4 := s5 _ _ hl4
    generalize upd H4 p5 (HO.tup [V.ref l, V.int 0]) = H5 at *
    refine ⟨64, rfl, by decide, by decide, ?_⟩
    refine for_range (lo := 0) (n := 64) (fun i σ H' => ∃ (v4 v5 v6 : Option V) (a : Nat) (xs : List V) (fl : List Oh.El), σ = [some (.ref gA), some (.ref aA), some (.ref l), some (.int (a : Int)), v4, v5, v6] ∧ Same H H' ∧ H' l = some (.lst xs) ∧ Els H' xs fl ∧ Oh.LI G S fl a ∧ (a = i ∨ a = fl.length) ∧ a ≤ i)
      ⟨none, none, none, 0, _, _, rfl, s05, hl4, .cons zt .nil, Oh.LI.start, .inl rfl, Nat.le_refl _⟩ ?_ ?_
    · rintro i σ H6 hi ⟨v4, v5, v6, a, xs, fl, rfl, s6, hl6, hx6, li, ha2, hai⟩
      have lx6 := Paired.length hx6
      refine ⟨_, rfl, _, rfl, l, xs, rfl, .inl (SqL.of hl6), _, _, rfl, rfl, _, rfl, ?_⟩
      refine ite2 (fun z => ?_) (fun z => ?_)
      · have z' : (a : Int) < (xs.length : Int) := of_decide_eq_true z
        have hax : a < xs.length := by omega
        have haf : a < fl.length := by omega
        have hvx := List.getElem?_eq_getElem hax
        obtain ⟨m, hm, hxm⟩ := Paired.get hx6 hvx
        have lj := li.turn hm
        have mm := (li.sp m (List.mem_of_getElem? hm)).mem ok.pos mS
        refine ⟨_, rfl, aA, rfl, ⟨_, SqT.of (s6 _ _ ha)⟩, fun D hD => ?_⟩
        refine lc_pure (walk_tup (xs := ss)) (by omega) hD (fun _ => true) (fun k y H => EV H y (Oh.addE G m (S.getD k []))) (fun _ _ _ _ t r => r.mono t)
          (fun H7 s7 => SqT.of (s7 _ _ (s6 _ _ ha))) (fun k t2 H7 H8 hk s7 hy Q1 Q0 k1 k0 => ?_) (fun zs H7 s7 hD7 hz => ?_)
        · obtain ⟨rfl, ht2⟩ := hy
          obtain ⟨y, hy, hty⟩ := Paired.get hS ht2
          have s07 := L2.Same.trans s6 s7
          refine ⟨rfl, _, rfl, _, rfl, _, rfl, l, xs, (a : Int), _, rfl, rfl, SqL.of (s7 _ _ hl6), atI_nat hvx, ?_⟩
          refine ⟨_, rfl, G, m, y, _, _, _, rfl, ok.pos, ⟨gA, rfl, s07 _ _ hg⟩, hxm.mono (tk s7), hty.mono (tk s07), mm.len, (mS y (List.mem_of_getElem? hy)).len, by omega, fun v H9 s9 hv => k1 _ _ s9 rfl ?_⟩
          rw [getD_of hy]
          exact hv
        · rw [range_all] at hz
          have hz2 := paired_map_r (F := EV H7) (g := fun k : Nat => Oh.addE G m (S.getD k [])) hz
          rw [lss, map_range (fun y => Oh.addE G m y) S] at hz2
          have hl7 := s7 _ _ hl6
          have lz : zs.length = S.length := by rw [Paired.length hz2, List.length_map]
          have Dl : D ≠ l := fun e => by
            rw [e, hl6] at hD
            cases hD
          refine ⟨_, rfl, D, rfl, ⟨_, SqL.of hD7⟩, for_list (K := K) (a := D) (xs := zs) (fun j σ H' => ∃ (v5 : Option V) (xs : List V) (fl : List Oh.El), σ = [some (.ref gA), some (.ref aA), some (.ref l), some (.int (a : Int)), some (.int (0 + (i : Int))), v5, some (.ref D)] ∧
            Same H H' ∧ But l H7 H' ∧ H' l = some (.lst xs) ∧ Els H' xs fl ∧ Oh.LJ G S m a j fl)
            ⟨v5, xs, fl, rfl, L2.Same.trans s6 s7, But.refl _ _, hl7, Els.mono (tk s7) hx6, lj⟩ (fun j σ H' _ ⟨_, _, _, _, _, b, _⟩ => SqL.of (b _ _ Dl hD7)) ?_ ?_⟩
          · rintro j x σ H8 hj ⟨v5, xs, fl, rfl, s8, b8, hl8, hx8, lj⟩
            obtain ⟨y, hy, hxy⟩ := Paired.get hz2 hj
            obtain ⟨sv, hsv, rfl⟩ : ∃ sv, S[j]? = some sv ∧ y = Oh.addE G m sv := by
              rw [List.getElem?_map] at hy
              cases e : S[j]? with
              | none => rw [e] at hy; cases hy
              | some z => rw [e] at hy; exact ⟨z, rfl, (Option.some.inj hy).symm⟩
            have nt7 := not_tup hl7
            have hxy8 := hxy.mono (b8.tk nt7)
            have few := few_of ok lj.nd fun x hx => (lj.sp x hx).mem ok.pos mS
            have lx8 := Paired.length hx8
            refine ⟨_, rfl, _, rfl, _, _, hxy8.dp, .lst (SqL.of hl8) (Els.dp hx8), sh_E _, sh_L _, _, rfl, ?_⟩
            rw [any_dE]
            by_cases hin : Oh.addE G m sv ∈ fl
            · rw [decide_eq_true hin]
              exact ⟨some x, xs, fl, rfl, s8, b8, hl8, hx8, lj.same hsv hin⟩
            · rw [decide_eq_false hin]
              have t9 : Tk H8 (upd H8 l (.lst (xs ++ [x]))) := (Tk.refl _).upd (not_tup hl8)
              refine ⟨_, rfl, .inl ⟨rfl, _, SqL.of hl8⟩, _, rfl, l, xs, _, rfl, rfl, hl8, line_big (by omega), some x, _, _, rfl, sm_upd s8 l0, b8.upd, upd_same, ?_, lj.more hsv hin⟩
              exact Paired.append (Els.mono t9 hx8) (.cons (hxy8.mono t9) .nil)
          · rintro σ H8 ⟨v5, xs, fl, rfl, s8, b8, hl8, hx8, lj⟩
            rw [lz] at lj
            have li2 := lj.done
            have hlt : a < fl.length := (List.getElem?_eq_some_iff.mp lj.mm).1
            refine ⟨_, rfl, _, _, rfl, rfl, some (.int (0 + (i : Int))), v5, some (.ref D), a + 1, xs, fl, rfl, s8, hl8, hx8, li2, ?_, by omega⟩
            rcases ha2 with e | e
            · exact .inl (by omega)
            · omega
      · have z' : ¬ (a : Int) < (xs.length : Int) := fun y => z (decide_eq_true y)
        have := li.le
        exact ⟨_, v5, v6, a, xs, fl, rfl, s6, hl6, hx6, li, .inr (by omega), by omega⟩
    · rintro σ H6 ⟨v4, v5, v6, a, xs, fl, rfl, s6, hl6, hx6, li, ha2, hai⟩
      have few := few_of ok li.nd fun x hx => (li.sp x hx).mem ok.pos mS
      have e : a = fl.length := by
        have := li.le
        rcases ha2 with e | e
        · have e' : a = 64 := e
          omega
        · exact e
      subst e
      refine ⟨_, rfl, l, xs, fl, G.length, rfl, SqL.of hl6, hx6, ok.one, fun x hx => ((li.sp x hx).mem ok.pos mS).len, fun ys mss r2 hys hperm hsrt hr2 => ?_⟩
      have s8 := sm_new (o := HO.lst ys) hr2
      exact q _ _ mss (L2.Same.trans s6 s8) ⟨r2, ys, rfl, upd_same, Els.mono (tk s8) hys⟩ (Oh.sp_sorted li.ended hperm)

/-! ### _law_rows -/
abbrev sLR : Stmt := top 34
abbrev nLR : List Str := ["_law_group_here", "_law_marks", "_law_space", "_law_begin", "_law_rows_here", "_law_ahead", "_law_mark", "_law_top", "_law_own", "_law_item", "_law_here", "_law_k"]
theorem scLR : FnScope nLR ["_law_group_here", "_law_marks", "_law_space", "_law_begin"] (defScope sLR) := ⟨rfl, rfl, rfl, by decide +kernel, rfl, by decide +kernel, by decide +kernel⟩
def spLR : Sp := fun vs H Q _ => ∃ (G : List Int) (marks : List Oh.El) (room : List Nat) (g a b c : V), vs = [g, a, b, c] ∧ OkG G ∧ EV H g G ∧ ET H a marks ∧ EV H b (zN room) ∧ EL H c [Oh.zeroE G] ∧ marks.length = room.length ∧ marks.length ≤ 1000 ∧ (∀ m ∈ marks, Oh.MemE G m) ∧ (∀ n ∈ room, n ≤ 1000) ∧
  ∀ v H', Same H H' → ELT H' v (Oh.rowsE G marks room [Oh.zeroE G]) → Q v H'
theorem ok_lr (T : Glob mg) (cP : Kept P w K mg base 1 "_law_plus" ["_law_group_here", "_law_one", "_law_two"] spAdded)
    (h : Here K mg "_law_rows" sLR ["_law_group_here", "_law_marks", "_law_space", "_law_begin"]) : Kept P w K mg base 2 "_law_rows" ["_law_group_here", "_law_marks", "_law_space", "_law_begin"] spLR := by
  refine kept_of h scLR (fun vs H Q E h => ?_) (fun f cdv A outer s H vs Q E hr h => ?_)
  · obtain ⟨G, marks, room, g, a, b, c, rfl, _⟩ := h
    rfl
  · obtain ⟨G, marks, room, g, a, b, c, rfl, ok, ⟨gA, rfl, hg⟩, ⟨aA, ms, rfl, ha, hms⟩, ⟨bA, rfl, hb⟩, ⟨cA, cs, rfl, hc, hcs⟩, le, lm, mm, mr, q⟩ := h
    have fw := ok.few
    have lms : ms.length = marks.length := Paired.length hms
    refine ⟨_, pss_cons (ps_par (i := 4) (j := 5) rfl scLR.nd rfl rfl (by decide) rfl rfl (pa_cons (pe_lst pa_nil) (pa_cons (pe_callTy call_list_of (by rfl) T.list (by decide +kernel) (pa_cons (pv 3) pa_nil)) pa_nil)) (by rfl))
      (pss_cons (ps_for PassesOwn.never rfl (RZ.pi_zipA (by rfl) T.zip (pa_cons (pv 1) (pa_cons (pv 2) pa_nil))) (pg_tup rfl (pgs_cons (pg_name (i := 6) scLR.nd rfl (Or.inl rfl)) (pgs_cons (pg_name (i := 7) scLR.nd rfl (Or.inl rfl)) pgs_nil)))
        (pss_cons (ps_set (i := 8) scLR.nd rfl (Or.inl rfl) (pe_lst pa_nil))
        (pss_cons (ps_for PassesOwn.never rfl (pi_list (pv 5)) (pg_name (i := 9) scLR.nd rfl (Or.inl rfl))
          (pss_cons (ps_set (i := 10) scLR.nd rfl (Or.inl rfl) (pv 9))
          (pss_one (ps_for PassesOwn.never rfl (pi_range1 (by rfl) T.range (pa_cons (pe_op op_add (pv 7) pe_int) pa_nil)) (pg_name (i := 11) scLR.nd rfl (Or.inl rfl))
            (pss_cons (ps_if (pt_cmpR (op_notInD (hu65 hr)) (pv 10) (pv 8) (by rfl)) (pss_one (ps_expr (pe_bm PySem.F.plainAttrs_list PySem.F.slot_list_append PySem.F.type_list_append mt_append (pv 8) (pa_cons (pv 10) pa_nil)))) pss_nil)
            (pss_one (ps_set (i := 10) scLR.nd rfl (Or.inl rfl) (pe_k cP hr (by decide) (by rfl) (pa_cons (pv 0) (pa_cons (pv 10) (pa_cons (pv 6) pa_nil)))))))))))
        (pss_cons (ps_set (i := 5) scLR.nd rfl (Or.inl rfl) (pe_callB cr_sortE (by rfl) T.sorted (by decide +kernel) (pa_cons (pv 8) pa_nil)))
        (pss_one (ps_expr (pe_bm PySem.F.plainAttrs_list PySem.F.slot_list_append PySem.F.type_list_append mt_append (pv 4) (pa_cons (pe_callTy call_tuple_of (by rfl) T.tuple (by decide +kernel) (pa_cons (pv 5) pa_nil)) pa_nil))))))))
      (pss_one (ps_ret (pv 4)))), ?_⟩
    refine ⟨Nat.zero_le _, fun l hl => ?_⟩
    have s1 := sm_new (o := HO.lst []) hl
    refine ⟨_, rfl, cA, cs, rfl, .inl (SqL.of (s1 _ _ hc)), fun p hp => ⟨_, _, rfl, ?_⟩⟩
    have s2 := sm_new (o := HO.lst cs) hp
    have s03 := L2.Same.trans s1 s2
    have pnl : p ≠ l := ne_of_none upd_same hp |> Ne.symm
    have hp3 : (upd (upd H l (.lst [])) p (.lst cs)) p = some (.lst cs) := upd_same
    have hl3 := s2 _ _ (upd_same (H := H) (a := l) (o := HO.lst []))
    have hc3 := Els.mono (tk s03) hcs
    generalize upd (upd H l (HO.lst [])) p (HO.lst cs) = H3 at *
    refine ⟨_, rfl, _, rfl, _, _, _, _, rfl, .inr ⟨SqT.of (s03 _ _ ha), SqT.of (s03 _ _ hb), for_it (walk_zipT (n := marks.length) lms (by rw [List.length_map, zN_len, le]))
      (fun i σ H' => ∃ (v6 v7 v8 v9 v10 v11 : Option V) (fA : Addr) (fs rs : List V) (fl : List Oh.El) (racc : List (List Oh.El)), σ = [some (.ref gA), some (.ref aA), some (.ref bA), some (.ref cA), some (.ref l), some (.ref fA), v6, v7, v8, v9, v10, v11] ∧ Same H H' ∧ fA ≠ l ∧ H' fA = some (.lst fs) ∧ Els H' fs fl ∧
        fl.Nodup ∧ (∀ x ∈ fl, Oh.MemE G x) ∧ H' l = some (.lst rs) ∧ Paired (ET H') rs racc ∧ racc.length = i ∧ Oh.rowsE G marks room [Oh.zeroE G] = racc ++ Oh.rowsE G (marks.drop i) (room.drop i) fl)
      ⟨none, none, none, none, none, none, p, _, _, _, [], rfl, s03, pnl, hp3, hc3, by simp, fun x hx => by
        have e : x = Oh.zeroE G := by simpa using hx
        rw [e]
        exact Oh.zeroE_mem ok.pos, hl3, by exact .nil, rfl, rfl⟩ (fun i σ H' _ ⟨_, _, _, _, _, _, _, _, _, _, _, _, s, _⟩ => ⟨SqT.of (s _ _ ha), SqT.of (s _ _ hb)⟩) ?_ ?_⟩⟩
    · rintro i t σ H4 H5 hi ⟨v6, v7, v8, v9, v10, v11, fA, fs, rs, fl, racc, rfl, s4, fnl, hf4, hx4, nd4, mf4, hl4, hrs4, lr, rows⟩ hy
      obtain ⟨t, u, v, rfl, ht, rfl, h1, h2⟩ := hy
      obtain ⟨rfl, hrm⟩ := at_nat h2
      obtain ⟨m, hm, hu1⟩ := Paired.get hms h1
      have mmk := mm m (List.mem_of_getElem? hm)
      have rle := mr _ (List.mem_of_getElem? hrm)
      have lfl := Paired.length hx4
      have s5 := sm_new (o := HO.tup [u, V.int ((room.getD i 0 : Nat) : Int)]) ht
      refine ⟨t, _, rfl, SqT.of upd_same, rfl, _, _, rfl, _, _, rfl, rfl, Nat.zero_le _, fun d hd => ?_⟩
      have s6 := sm_new (o := HO.lst []) hd
      have s46 := L2.Same.trans s5 s6
      have s06 := L2.Same.trans s4 s46
      have d4 : H4 d = none := L2.Same.free s5 hd
      have d0 : H d = none := L2.Same.free s4 d4
      have hd6 : (upd (upd H4 t (.tup [u, V.int ((room.getD i 0 : Nat) : Int)])) d (.lst [])) d = some (.lst []) := upd_same
      generalize upd (upd H4 t (HO.tup [u, V.int ((room.getD i 0 : Nat) : Int)])) d (HO.lst []) = H6 at *
      have um : EV H6 u m := hu1.mono (tk s06)
      have nt6 := not_tup hd6
      have fne : fA ≠ d := ne_of_none hf4 d4
      have lne : l ≠ d := ne_of_none hl4 d4
      have gne : gA ≠ d := ne_of_none hg d0
      have hf6 := s46 _ _ hf4
      have hx6 := Els.mono (tk s46) hx4
      refine ⟨_, rfl, fA, rfl, ⟨_, SqL.of hf6⟩, for_list (K := K) (a := fA) (xs := fs) (fun j σ H' => ∃ (v9 v10 v11 : Option V) (ks : List V) (kl : List Oh.El), σ = [some (.ref gA), some (.ref aA), some (.ref bA), some (.ref cA), some (.ref l), some (.ref fA), some u, some (.int ((room.getD i 0 : Nat) : Int)), some (.ref d), v9, v10, v11] ∧
        But d H6 H' ∧ H' d = some (.lst ks) ∧ Els H' ks kl ∧ kl.Nodup ∧ (∀ x ∈ kl, Oh.MemE G x) ∧ ∀ x, x ∈ kl ↔ ∃ b ∈ fl.take j, ∃ k : Nat, k ≤ room.getD i 0 ∧ x = Oh.addE G b (Oh.repE G m (k : Int)))
        ⟨v9, v10, v11, [], [], rfl, But.refl _ _, hd6, by exact .nil, by simp, by simp, fun x => by simp⟩ (fun j σ H' _ ⟨_, _, _, _, _, _, b, _⟩ => SqL.of (b _ _ fne hf6)) ?_ ?_⟩
      · rintro j x σ H7 hj ⟨v9, v10, v11, ks, kl, rfl, b7, hd7, hk7, nd7, mf7, st7⟩
        obtain ⟨b, hb', hxb⟩ := Paired.get hx6 hj
        have mb := mf4 b (List.mem_of_getElem? hb')
        have hxb7 := hxb.mono (b7.tk nt6)
        refine ⟨_, rfl, _, rfl, _, _, rfl, rfl, ((room.getD i 0 : Nat) : Int) + 1, rfl, by omega, by omega, ?_⟩
        have en : (((room.getD i 0 : Nat) : Int) + 1).toNat = room.getD i 0 + 1 := by omega
        rw [en]
        let Inn : Nat → L2.St → Hp → Prop := fun k σ H' => ∃ (v11 : Option V) (hv : V) (ks : List V) (kl : List Oh.El), σ = [some (.ref gA), some (.ref aA), some (.ref bA), some (.ref cA), some (.ref l), some (.ref fA), some u, some (.int ((room.getD i 0 : Nat) : Int)), some (.ref d), some x, some hv, v11] ∧
            But d H6 H' ∧ EV H' hv (Oh.addE G b (Oh.repE G m (k : Int))) ∧ H' d = some (.lst ks) ∧ Els H' ks kl ∧ kl.Nodup ∧ (∀ x ∈ kl, Oh.MemE G x) ∧ ∀ x, x ∈ kl ↔ (∃ b ∈ fl.take j, ∃ k : Nat, k ≤ room.getD i 0 ∧ x = Oh.addE G b (Oh.repE G m (k : Int))) ∨ ∃ k' : Nat, k' < k ∧ x = Oh.addE G b (Oh.repE G m (k' : Int))
        refine for_range (lo := 0) (n := room.getD i 0 + 1) Inn
          ⟨v11, x, ks, kl, rfl, b7, ?_, hd7, hk7, nd7, mf7, fun y => by rw [st7]; simp⟩ ?_ ?_
        · have e : Oh.addE G b (Oh.repE G m ((0 : Nat) : Int)) = b := by
            rw [show ((0 : Nat) : Int) = 0 from rfl, Oh.repE_zero mmk.len, Oh.addE_zero mb]
          rw [e]
          exact hxb7
        · rintro k σ H8 hk ⟨v11, hv, ks, kl, rfl, b8, hh8, hd8, hk8, nd8, mf8, st8⟩
          have mh : Oh.MemE G (Oh.addE G b (Oh.repE G m (k : Int))) := Oh.addE_mem ok.pos mb.len (Oh.repE_mem ok.pos mmk.len).len
          have lks := Paired.length hk8
          have few := few_of ok nd8 mf8
          refine ⟨_, rfl, _, rfl, _, _, hh8.dp, .lst (SqL.of hd8) (Els.dp hk8), sh_E _, sh_L _, _, rfl, ?_⟩
          rw [any_dE]
          have nxt : ∀ (H9 : Hp) (ks : List V) (kl : List Oh.El), But d H6 H9 → EV H9 hv (Oh.addE G b (Oh.repE G m (k : Int))) → H9 d = some (.lst ks) → Els H9 ks kl → kl.Nodup → (∀ x ∈ kl, Oh.MemE G x) →
              (∀ x, x ∈ kl ↔ (∃ b ∈ fl.take j, ∃ k : Nat, k ≤ room.getD i 0 ∧ x = Oh.addE G b (Oh.repE G m (k : Int))) ∨ ∃ k' : Nat, k' < k + 1 ∧ x = Oh.addE G b (Oh.repE G m (k' : Int))) →
              tAsg (tCall spAdded [] E0 (tCons (tVar 0) (tCons (tVar 10) (tCons (tVar 6) tNil)))) (gName 10) { nx := Inn (k + 1), rt := Q }
              [some (.ref gA), some (.ref aA), some (.ref bA), some (.ref cA), some (.ref l), some (.ref fA), some u, some (.int ((room.getD i 0 : Nat) : Int)), some (.ref d), some x, some hv, some (.int (0 + (k : Int)))] H9 := by
            intro H9 ks kl b9 hh9 hd9 hk9 nd9 mf9 st9
            refine ⟨_, rfl, _, rfl, _, rfl, G, _, m, _, _, _, rfl, ok.pos, ⟨gA, rfl, b9 _ _ gne (s06 _ _ hg)⟩, hh9, um.mono (b9.tk nt6), mh.len, mmk.len, by omega, fun r H10 s10 hr10 => ?_⟩
            refine ⟨_, r, ks, kl, rfl, b9.trans (But.of s10), ?_, s10 _ _ hd9, Els.mono (tk s10) hk9, nd9, mf9, st9⟩
            rw [Int.natCast_succ, Oh.repE_succ mmk.len, ← Oh.addE_assoc]
            exact hr10
          by_cases hin : Oh.addE G b (Oh.repE G m (k : Int)) ∈ kl
          · rw [decide_eq_true hin]
            refine nxt H8 ks kl b8 hh8 hd8 hk8 nd8 mf8 fun y => ?_
            rw [st8]
            constructor
            · rintro (h | ⟨k', hk', h⟩)
              · exact .inl h
              · exact .inr ⟨k', by omega, h⟩
            · rintro (h | ⟨k', hk', h⟩)
              · exact .inl h
              · by_cases z : k' = k
                · subst z
                  rw [h]
                  exact (st8 _).mp hin
                · exact .inr ⟨k', by omega, h⟩
          · rw [decide_eq_false hin]
            have t9 : Tk H8 (upd H8 d (.lst (ks ++ [hv]))) := (Tk.refl _).upd (not_tup hd8)
            refine ⟨_, rfl, .inl ⟨rfl, _, SqL.of hd8⟩, _, rfl, d, ks, _, rfl, rfl, hd8, line_big (by omega), ?_⟩
            refine nxt _ (ks ++ [hv]) (kl ++ [Oh.addE G b (Oh.repE G m (k : Int))]) b8.upd (hh8.mono t9) upd_same (Paired.append (Els.mono t9 hk8) (.cons (hh8.mono t9) .nil)) ?_ ?_ fun y => ?_
            · exact List.nodup_append.mpr ⟨nd8, by simp, fun a ha b hb e => by simp at hb; subst hb; exact hin (e ▸ ha)⟩
            · intro y hy
              rcases List.mem_append.mp hy with hy | hy
              · exact mf8 y hy
              · have e : y = _ := List.mem_singleton.mp hy
                rw [e]
                exact mh
            · rw [List.mem_append, st8, List.mem_singleton]
              constructor
              · rintro ((h | ⟨k', hk', h⟩) | h)
                · exact .inl h
                · exact .inr ⟨k', by omega, h⟩
                · exact .inr ⟨k, by omega, h⟩
              · rintro (h | ⟨k', hk', h⟩)
                · exact .inl (.inl h)
                · by_cases z : k' = k
                  · subst z
                    exact .inr h
                  · exact .inl (.inr ⟨k', by omega, h⟩)
        · rintro σ H8 ⟨v11, hv, ks, kl, rfl, b8, hh8, hd8, hk8, nd8, mf8, st8⟩
          refine ⟨some x, some hv, v11, ks, kl, rfl, b8, hd8, hk8, nd8, mf8, fun y => ?_⟩
          rw [st8, take_succ_get hb']
          constructor
          · rintro (⟨b', hb2, k, hk, h⟩ | ⟨k, hk, h⟩)
            · exact ⟨b', List.mem_append_left _ hb2, k, hk, h⟩
            · exact ⟨b, List.mem_append_right _ (by simp), k, by omega, h⟩
          · rintro ⟨b', hb2, k, hk, h⟩
            rcases List.mem_append.mp hb2 with hb2 | hb2
            · exact .inl ⟨b', hb2, k, hk, h⟩
            · have e : b' = b := by simpa using hb2
              rw [e] at h
              exact .inr ⟨k, by omega, h⟩
      · rintro σ H8 ⟨v9, v10, v11, ks, kl, rfl, b8, hd8, hk8, nd8, mf8, st8⟩
        rw [lfl, List.take_length] at st8
        refine ⟨_, rfl, d, ks, kl, G.length, rfl, SqL.of hd8, hk8, ok.one, fun x hx => (mf8 x hx).len, fun ys mss r2 hys hperm hsrt hr2 => ?_⟩
        have s10 := sm_new (o := HO.lst ys) hr2
        have asc := asc_of hperm nd8 hsrt
        have em : mss = Oh.rowE G fl m (room.getD i 0) := Oh.rowE_is asc fun x => by rw [hperm.mem_iff, st8]
        have t48 : Tk H4 H8 := Tk.trans (tk s46) (b8.tk nt6)
        have hl8 := b8 _ _ lne (s46 _ _ hl4)
        have hl10 := s10 _ _ hl8
        have hr10 : (upd H8 r2 (.lst ys)) r2 = some (.lst ys) := upd_same
        have r2l : r2 ≠ l := fun z => by
          rw [z, hl8] at hr2
          cases hr2
        have hys10 := Els.mono (tk s10) hys
        have s010 := L2.Same.trans (b8.same s06 d0) s10
        have hrs10 := ets_mono (Tk.trans t48 (tk s10)) hrs4
        generalize upd H8 r2 (HO.lst ys) = H10 at *
        refine ⟨_, rfl, .inl ⟨rfl, _, SqL.of hl10⟩, _, rfl, r2, ys, rfl, .inl ⟨SqL.of hr10, fun tp htp => ?_⟩⟩
        have s11 := sm_new (o := HO.tup ys) htp
        have hl11 := s11 _ _ hl10
        have l0 : H l = none := hl
        have rlen : rs.length < sizeLine := by
          have := Paired.length hrs4
          exact line_big (by omega)
        refine ⟨l, rs, _, rfl, rfl, hl11, rlen, ?_⟩
        have t12 : Tk (upd H10 tp (.tup ys)) (upd (upd H10 tp (.tup ys)) l (.lst (rs ++ [.ref tp]))) := (Tk.refl _).upd (not_tup hl11)
        have htp12 : (upd (upd H10 tp (.tup ys)) l (.lst (rs ++ [.ref tp]))) tp = some (.tup ys) := t12 _ _ upd_same
        refine ⟨some u, some (.int ((room.getD i 0 : Nat) : Int)), some (.ref d), v9, v10, v11, r2, ys, _, mss, racc ++ [mss], rfl, sm_upd (L2.Same.trans s010 s11) l0, r2l, ?_, Els.mono (Tk.trans (tk s11) t12) hys10, asc.nodup, fun x hx => mf8 x (hperm.mem_iff.mp hx), upd_same,
          Paired.append (ets_mono (Tk.trans (tk s11) t12) hrs10) (.cons ⟨tp, ys, rfl, htp12, Els.mono (Tk.trans (tk s11) t12) hys10⟩ .nil), by rw [List.length_append, lr]; rfl, ?_⟩
        · rw [upd_ne r2l]
          exact s11 _ _ hr10
        · rw [rows, Oh.rows_drop hm hrm, em, List.append_assoc]
          rfl
    · rintro σ H4 ⟨v6, v7, v8, v9, v10, v11, fA, fs, rs, fl, racc, rfl, s4, fnl, hf4, hx4, nd4, mf4, hl4, hrs4, lr, rows⟩
      rw [Oh.rows_end (Nat.le_refl _), List.append_nil] at rows
      refine ⟨_, rfl, q _ _ s4 ⟨l, rs, rfl, hl4, ?_⟩⟩
      rw [rows]
      exact hrs4
end
end OhL

set_option Elab.async false
set_option linter.all false
set_option maxRecDepth 100000
set_option maxHeartbeats 4000000
/-! the law's own: card, room, due -/
namespace OhL
open PySem PySem.Spec PyProof.Rows L2
theorem zN_ints : ∀ {zs : List Int}, (∀ z ∈ zs, 0 ≤ z) → zN (zs.map Int.toNat) = zs
  | [], _ => rfl
  | z :: zs, h => by
    show ((z.toNat : Nat) : Int) :: zN (zs.map Int.toNat) = z :: zs
    rw [Int.toNat_of_nonneg (h z List.mem_cons_self), zN_ints fun y hy => h y (List.mem_cons_of_mem _ hy)]
theorem paired_all {α : Type} {F : α → Prop} {zs : List α} {l : List Nat} (h : Paired (fun z _ => F z) zs l) : ∀ z ∈ zs, F z := fun z hz => by
  obtain ⟨_, _, f⟩ := paired_mem h z hz
  exact f
theorem flen {α : Type} (p : α → Bool) (d : α) : ∀ S : List α, ((List.range S.length).filter fun i => p (S.getD i d)).length = (S.filter p).length
  | [] => rfl
  | x :: S => by
    have ih := flen p d S
    have e : ((List.range S.length).map Nat.succ).filter (fun i => p ((x :: S).getD i d)) = ((List.range S.length).filter fun i => p (S.getD i d)).map Nat.succ := by
      rw [List.filter_map]
      rfl
    rw [List.length_cons, List.range_succ_eq_map, List.filter_cons, List.filter_cons, e]
    by_cases q : p x = true
    · have q' : p ((x :: S).getD 0 d) = true := q
      rw [if_pos q, if_pos q', List.length_cons, List.length_cons, List.length_map, ih]
    · have q' : ¬ p ((x :: S).getD 0 d) = true := q
      rw [if_neg q, if_neg q', List.length_map, ih]
theorem none_left (G : List Int) (c : Oh.El) (S : List Oh.El) : (S.filter fun m => !Oh.killsE G c m).isEmpty = S.all (Oh.killsE G c) := by
  induction S with
  | nil => rfl
  | cons x S ih =>
    rw [List.filter_cons, List.all_cons]
    cases h : Oh.killsE G c x with
    | true => simpa [h] using ih
    | false => simp [h]
theorem eqv_nilE (l : List Int) : PyData.eqv (.list (l.map PyData.int)) (.list []) = l.isEmpty := by
  cases l with
  | nil => simp [PyData.eqv, PyData.eqvAll]
  | cons x l => simp [PyData.eqv, PyData.eqvAll]
theorem atI_last {α : Type} {xs : List α} {v : α} (h : xs[xs.length - 1]? = some v) : atI xs (-1) = some v := by
  have hl := (List.getElem?_eq_some_iff.mp h).1
  have e : ixN xs.length (-1) = some (xs.length - 1) := by
    unfold ixN
    rw [if_neg (by decide), if_pos (by omega)]
    congr 1
    omega
  show (ixN xs.length (-1)).bind _ = _
  rw [e]
  exact h
section
variable {P : Program} {w : World} {K : PySem.W.Frag} {mg : Str → Option Value} {base : Heap}

/-! ### _law_card -/
abbrev sCard : Stmt := top 35
abbrev nCard : List Str := ["_law_stock_here", "_law_most", "_law_tops", "_law_count", "_law_turn", "_law_top"]
theorem scCard : FnScope nCard ["_law_stock_here", "_law_most"] (defScope sCard) := ⟨rfl, rfl, rfl, by decide +kernel, rfl, by decide +kernel, by decide +kernel⟩
def spCard : Sp := fun vs H Q _ => ∃ (s g f : Addr), vs = [.ref s, .int 27] ∧ Stk s g f H ∧ ∀ v H' (room : List Nat), Stk s g f H' → Bt s g H H' → EV H' v (zN room) → 1 ≤ room.length → room.length ≤ 4 → (∀ n ∈ room, n ≤ 7) → Q v H'
def cTops : List Int := [1, 1, 1, 2, 2, 3, 5, 7]
theorem ok_card (T : Glob mg) (cD : Kept P w K mg base 1 "_law_draw" ["_law_stock_here", "_law_size"] spDraw) (cP : Kept P w K mg base 2 "_law_pick" ["_law_stock_here", "_law_row"] spPick)
    (h : Here K mg "_law_card" sCard ["_law_stock_here", "_law_most"]) : Kept P w K mg base 3 "_law_card" ["_law_stock_here", "_law_most"] spCard := by
  refine kept_of h scCard (fun vs H Q E h => ?_) (fun f cdv A outer s H vs Q E hr h => ?_)
  · obtain ⟨s, g, f, rfl, _⟩ := h
    rfl
  · obtain ⟨sA, gA, fA, rfl, st, q⟩ := h
    refine ⟨_, pss_cons (ps_par (i := 2) (j := 3) rfl scCard.nd rfl rfl (by decide) rfl rfl (pa_cons (pe_lst pa_nil) (pa_cons pe_int pa_nil)) (by rfl))
      (pss_cons (ps_for PassesOwn.never rfl (pi_range1 (by rfl) T.range (pa_cons (pe_op op_add pe_int (pe_k cD hr (by decide) (by rfl) (pa_cons (pv 0) (pa_cons pe_int pa_nil)))) pa_nil)) (pg_name (i := 4) scCard.nd rfl (Or.inl rfl))
        (pss_cons (ps_set (i := 5) scCard.nd rfl (Or.inl rfl) (pe_k cP hr (by decide) (by rfl) (pa_cons (pv 0) (pa_cons (pe_lst (t := tIn cTops) (pa_cons pe_int (pa_cons pe_int (pa_cons pe_int (pa_cons pe_int (pa_cons pe_int (pa_cons pe_int (pa_cons pe_int (pa_cons pe_int pa_nil))))))))) pa_nil))))
        (pss_one (ps_if (pt_cmpR op_le (pe_op op_mul (pv 3) (pe_op op_add (pv 5) pe_int)) (pv 1) (nomark _))
          (pss_cons (ps_expr (pe_bm PySem.F.plainAttrs_list PySem.F.slot_list_append PySem.F.type_list_append mt_append (pv 2) (pa_cons (pv 5) pa_nil)))
          (pss_one (ps_set (i := 3) scCard.nd rfl (Or.inl rfl) (pe_op op_mul (pv 3) (pe_op op_add (pv 5) pe_int))))) pss_nil))))
      (pss_one (ps_ret (pe_callTy call_tuple_of (by rfl) T.tuple (by decide +kernel) (pa_cons (pv 2) pa_nil))))), ?_⟩
    refine ⟨Nat.zero_le _, fun l hl => ⟨_, _, rfl, ?_⟩⟩
    have n0 := st.new hl
    have b0 : Bt sA gA H (upd H l (.lst [])) := Bt.of (sm_new hl)
    have st0 : Stk sA gA fA (upd H l (.lst [])) := st.upd n0
    have hl0 : (upd H l (.lst [])) l = some (.lst ((zN []).map V.int)) := upd_same
    generalize upd H l (HO.lst []) = H0 at *
    refine ⟨_, rfl, sA, gA, fA, 4, rfl, st0, by decide, by decide, fun r H1 r0 r1 st1 b1 => ?_⟩
    refine ⟨_, _, rfl, rfl, 1 + r, rfl, by omega, by omega, ?_⟩
    have en : (1 + r).toNat = r.toNat + 1 := by omega
    rw [en]
    refine for_range (lo := 0) (n := r.toNat + 1) (fun i σ H' => ∃ (c : Int) (v4 v5 : Option V) (room : List Nat), σ = [some (.ref sA), some (.int 27), some (.ref l), some (.int c), v4, v5] ∧ Stk sA gA fA H' ∧ Bt sA gA H H' ∧ H' l = some (.lst ((zN room).map V.int)) ∧ room.length ≤ i ∧ (∀ n ∈ room, n ≤ 7) ∧ (i = 0 → c = 1) ∧ (1 ≤ i → 1 ≤ room.length))
      ⟨1, none, none, [], rfl, st1, b0.trans b1, b1.lst hl0 n0.1 n0.2.1, Nat.le_refl _, by simp, fun _ => rfl, fun h => absurd h (by decide)⟩ ?_ ?_
    · rintro i σ H2 hi ⟨c, v4, v5, room, rfl, st2, b2, hl2, lr, mr, c0, c1⟩
      refine ⟨_, rfl, ?_⟩
      refine tIn_run ⟨by show 8 ≤ sizeLine; decide, fun p hp => ?_⟩
      have np := st2.new hp
      have st3 : Stk sA gA fA (upd H2 p (.lst (cTops.map V.int))) := st2.upd np
      have b3 : Bt sA gA H2 (upd H2 p (.lst (cTops.map V.int))) := Bt.of (sm_new hp)
      have hp3 : (upd H2 p (.lst (cTops.map V.int))) p = some (.lst (cTops.map V.int)) := upd_same
      generalize upd H2 p (HO.lst (cTops.map V.int)) = H3 at *
      refine ⟨sA, gA, fA, p, _, rfl, st3, hp3, np.1, np.2.1, by show 1 ≤ 8; decide, by show 8 ≤ 1000; decide, fun j v H4 hj st4 b4 => ?_⟩
      obtain ⟨tz, htz, rfl⟩ : ∃ tz : Nat, tz ≤ 7 ∧ v = V.int (tz : Int) := by
        have hv := List.mem_of_getElem? hj
        obtain ⟨z, hz, rfl⟩ := List.mem_map.mp hv
        have all : ∀ z ∈ cTops, 0 ≤ z ∧ z ≤ 7 := by decide
        have := all z hz
        exact ⟨z.toNat, by omega, by rw [Int.toNat_of_nonneg this.1]⟩
      have hl4 := (b3.trans b4).lst hl2 n0.1 n0.2.1
      have b24 := b2.trans (b3.trans b4)
      refine ⟨_, rfl, _, rfl, _, _, rfl, rfl, _, _, rfl, rfl, .inr ⟨by omega, by omega⟩, _, rfl, _, _, rfl, rfl, _, rfl, ?_⟩
      refine ite2 (fun _ => ?_) (fun z => ?_)
      · refine ⟨_, rfl, .inl ⟨rfl, _, SqL.of hl4⟩, _, rfl, l, _, _, rfl, rfl, hl4, ?_, ?_⟩
        · rw [List.length_map, zN_len]
          exact line_big (by omega)
        · refine ⟨_, rfl, _, rfl, _, _, rfl, rfl, _, _, rfl, rfl, .inr ⟨by omega, by omega⟩, ?_⟩
          have em : (zN room).map V.int ++ [V.int (tz : Int)] = (zN (room ++ [tz])).map V.int := by simp [zN]
          rw [em]
          refine ⟨_, some (.int (0 + (i : Int))), some (.int (tz : Int)), room ++ [tz], rfl, st4.upd n0, b24.updNew hl, upd_same, by rw [List.length_append, List.length_singleton]; omega, fun n hn => ?_, fun h => absurd h (by omega), fun _ => by rw [List.length_append, List.length_singleton]; omega⟩
          rcases List.mem_append.mp hn with hn | hn
          · exact mr n hn
          · have e : n = tz := by simpa using hn
            omega
      · have z' : ¬ c * ((tz : Int) + 1) ≤ 27 := fun y => z (decide_eq_true y)
        refine ⟨c, some (.int (0 + (i : Int))), some (.int (tz : Int)), room, rfl, st4, b24, hl4, by omega, mr, fun h => absurd h (by omega), fun _ => ?_⟩
        by_cases e : i = 0
        · exfalso
          rw [c0 e, Int.one_mul] at z'
          omega
        · exact c1 (by omega)
    · rintro σ H2 ⟨c, v4, v5, room, rfl, st2, b2, hl2, lr, mr, c0, c1⟩
      refine ⟨_, rfl, l, _, rfl, .inl ⟨SqL.of hl2, fun t ht => ?_⟩⟩
      exact q _ _ room (st2.upd (st2.new ht)) (b2.trans (Bt.of (sm_new ht))) ⟨t, rfl, upd_same⟩ (c1 (by omega)) (by omega) mr

/-! ### _law_room -/
abbrev sRm : Stmt := top 36
abbrev nRm : List Str := ["_law_stock_here", "_law_top"]
theorem scRm : FnScope nRm ["_law_stock_here"] (defScope sRm) := ⟨rfl, rfl, rfl, by decide +kernel, rfl, by decide +kernel, by decide +kernel⟩
def spRm : Sp := fun vs H Q _ => ∃ (s g f : Addr), vs = [.ref s] ∧ Stk s g f H ∧ ∀ v H' (room : List Nat), Stk s g f H' → Bt s g H H' → EV H' v (zN room) → 1 ≤ room.length → room.length ≤ 4 → (∀ n ∈ room, n ≤ 7) → Q v H'
theorem ok_rm (T : Glob mg) (cD : Kept P w K mg base 1 "_law_draw" ["_law_stock_here", "_law_size"] spDraw) (cC : Kept P w K mg base 3 "_law_card" ["_law_stock_here", "_law_most"] spCard)
    (h : Here K mg "_law_room" sRm ["_law_stock_here"]) : Kept P w K mg base 4 "_law_room" ["_law_stock_here"] spRm := by
  refine kept_of h scRm (fun vs H Q E h => ?_) (fun f cdv A outer s H vs Q E hr h => ?_)
  · obtain ⟨s, g, f, rfl, _⟩ := h
    rfl
  · obtain ⟨sA, gA, fA, rfl, st, q⟩ := h
    refine ⟨_, pss_one (ps_ret (pe_callTy call_tuple_of (by rfl) T.tuple (by decide +kernel) (pa_cons (pe_lc (own := [("_law_top", 1)]) (g := gName 1) (tt := tYes) rfl scRm.nd (pi_tup (pe_k cC hr (by decide) (by rfl) (pa_cons (pv 0) (pa_cons pe_int pa_nil)))) (blkOk_by (N := nRm) (sc := defScope sRm) (by decide +kernel))
      (fun _ _ _ _ _ => pg_name (i := 1) scRm.nd rfl (Or.inl rfl)) (fun _ _ _ _ _ => pts_nil)
      (fun _ _ _ _ _ => pe_op op_mul (pv 1) (pe_callTy call_int1 (by rfl) T.int (by decide +kernel) (pa_cons (pe_cmpR op_gt (pe_k cD hr (by decide) (by rfl) (pa_cons (pv 0) (pa_cons pe_int pa_nil))) pe_int (nomark _)) pa_nil)))) pa_nil))), ?_⟩
    refine ⟨_, rfl, sA, gA, fA, rfl, st, fun v H1 room st1 b1 hv l1 l4 m7 => ?_⟩
    obtain ⟨vA, rfl, hvA⟩ := hv
    refine ⟨vA, rfl, ⟨_, SqT.of hvA⟩, fun D hD => ?_⟩
    refine lc_stk (walk_tup (xs := (zN room).map V.int)) (by rw [List.length_map, zN_len]; omega) hD st1 (fun i y _ => ∃ z : Int, y = V.int z ∧ (0 ≤ z ∧ z ≤ 7)) (fun _ _ _ _ _ r => r)
      (fun H2 b s2 => SqT.of (st1.tk b _ _ hvA)) (fun i t H2 H3 hi b2 s2 hy Q1 k1 => ?_) (fun ys H2 b2 s2 hD2 hp2 => ?_)
    · obtain ⟨rfl, ht⟩ := hy
      obtain ⟨rfl, hrm⟩ := at_nat ht
      have mr := m7 _ (List.mem_of_getElem? hrm)
      refine ⟨rfl, _, rfl, _, rfl, sA, gA, fA, 3, rfl, s2, by decide, by decide, fun r H4 r0 r1 s4 b4 => ⟨_, _, rfl, rfl, .inr ⟨_, rfl, _, _, rfl, rfl, .inr ?_, k1 _ _ b4 s4 ⟨_, rfl, ?_⟩⟩⟩⟩
      · split <;> exact ⟨by decide, by decide⟩
      · split
        · rw [Int.mul_one]; omega
        · rw [Int.mul_zero]; omega
    · obtain ⟨zs, rfl, hz⟩ := ints_of_bd (F := fun i z => 0 ≤ z ∧ z ≤ 7) hp2
      have lz := Paired.length hz
      rw [List.length_range, List.length_map, zN_len] at lz
      have az := paired_all (F := fun z : Int => 0 ≤ z ∧ z ≤ 7) hz
      have ez : zN (zs.map Int.toNat) = zs := zN_ints fun z h => (az z h).1
      refine ⟨D, _, rfl, .inl ⟨SqL.of hD2, fun t ht => ?_⟩⟩
      refine q _ _ (zs.map Int.toNat) (s2.upd (s2.new ht)) ((b1.trans b2).trans (Bt.of (sm_new ht))) ⟨t, rfl, ?_⟩ (by rw [List.length_map]; omega) (by rw [List.length_map]; omega) fun n hn => ?_
      · rw [ez]
        exact upd_same
      · obtain ⟨z, hz, rfl⟩ := List.mem_map.mp hn
        have := az z hz
        omega

/-! ### _law_due -/
abbrev sDue : Stmt := top 37
abbrev nDue : List Str := ["_law_group_here", "_law_marks", "_law_space", "_law_member", "_law_rows_here", "_law_some", "_law_ask", "_law_mark", "_law_top"]
theorem scDue : FnScope nDue ["_law_group_here", "_law_marks", "_law_space", "_law_member"] (defScope sDue) := ⟨rfl, rfl, rfl, by decide +kernel, rfl, by decide +kernel, by decide +kernel⟩
def spDue : Sp := fun vs H Q _ => ∃ (G : List Int) (marks : List Oh.El) (room : List Nat) (x : Oh.El) (g a b m : V), vs = [g, a, b, m] ∧ OkG G ∧ EV H g G ∧ ET H a marks ∧ EV H b (zN room) ∧ EV H m x ∧ marks.length = room.length ∧ 1 ≤ room.length ∧ marks.length ≤ 1000 ∧ (∀ m ∈ marks, Oh.MemE G m) ∧ (∀ n ∈ room, n ≤ 1000) ∧
  Oh.MemE G x ∧ ∀ v H', Same H H' → BV H' v (Oh.barE G marks room x) → Q v H'
theorem ok_due (T : Glob mg) (cR : Kept P w K mg base 2 "_law_rows" ["_law_group_here", "_law_marks", "_law_space", "_law_begin"] spLR) (cM : Kept P w K mg base 1 "_law_members" ["_law_sizes"] spMems)
    (cK : Kept P w K mg base 1 "_law_kills" ["_law_group_here", "_law_ask", "_law_element_here"] spKills)
    (h : Here K mg "_law_due" sDue ["_law_group_here", "_law_marks", "_law_space", "_law_member"]) : Kept P w K mg base 3 "_law_due" ["_law_group_here", "_law_marks", "_law_space", "_law_member"] spDue := by
  refine kept_of h scDue (fun vs H Q E h => ?_) (fun f cdv A outer s H vs Q E hr h => ?_)
  · obtain ⟨G, marks, room, x, g, a, b, m, rfl, _⟩ := h
    rfl
  · obtain ⟨G, marks, room, x, g, a, b, m, rfl, ok, ⟨gA, rfl, hg⟩, ⟨aA, xs, rfl, ha, hx⟩, ⟨bA, rfl, hb⟩, hm, le, l1, lm, mm, mr, mx, q⟩ := h
    have fw := ok.few
    have lx : xs.length = marks.length := Paired.length hx
    refine ⟨_, pss_cons (ps_set (i := 4) scDue.nd rfl (Or.inl rfl) (pe_k cR hr (by decide) (by rfl) (pa_cons (pv 0) (pa_cons (pv 1) (pa_cons (pv 2) (pa_cons (pe_lst (pa_cons (pe_callTy call_tuple_of (by rfl) T.tuple (by decide +kernel) (pa_cons (pe_op op_rep (pe_lst (pa_cons pe_int pa_nil)) (pe_callB call_len_seq (by rfl) T.len PySem.boot_len (pa_cons (pv 0) pa_nil))) pa_nil)) pa_nil)) pa_nil))))))
      (pss_cons (ps_if (pt_cmpR (op_inU (hu65 hr)) (pv 3) (pe_ix ix_list (pv 4) (pe_un un_neg pe_int) (fun _ _ => rfl)) (by rfl)) (pss_one (ps_ret pe_non)) pss_nil)
      (pss_cons (ps_setLc (i := 5) (own := [("_law_mark", 7), ("_law_top", 8)]) (g := gTup K 2 (gCons (gName 7) (gCons (gName 8) gNil))) rfl scDue.nd rfl rfl (sw_true rfl rfl rfl (by decide +kernel)) (RZ.pi_zipA (by rfl) T.zip (pa_cons (pv 1) (pa_cons (pv 2) pa_nil))) (blkOk_by (N := nDue) (sc := defScope sDue) (by decide +kernel))
        (fun _ _ _ _ _ => pg_tup rfl (pgs_cons (pg_name (i := 7) scDue.nd rfl (Or.inl rfl)) (pgs_cons (pg_name (i := 8) scDue.nd rfl (Or.inl rfl)) pgs_nil)))
        (fun _ _ _ _ _ => pts_one (pt_cmpR op_gt (pv 8) pe_int (nomark _))) (fun _ _ _ _ _ => pv 7))
      (pss_cons (ps_for PassesOwn.never rfl (pi_list (pe_k cM hr (by decide) (by rfl) (pa_cons (pv 0) pa_nil))) (pg_name (i := 6) scDue.nd rfl (Or.inr rfl))
        (pss_one (ps_if (pt_not (pt_val (pe_k cK hr (by decide) (by rfl) (pa_cons (pv 0) (pa_cons (pv 6) (pa_cons (pv 3) pa_nil))))))
          (pss_one (ps_if (pt_cmpR (op_eqD hr.units) (pe_lc (own := [("_law_mark", 7)]) (g := gName 7) rfl scDue.nd (pi_list (pv 5)) (blkOk_by (N := nDue) (sc := defScope sDue) (by decide +kernel))
              (fun _ _ _ _ _ => pg_name (i := 7) scDue.nd rfl (Or.inl rfl)) (fun _ _ _ _ _ => pts_one (pt_not (pt_val (pe_k cK hr (by decide) (by rfl) (pa_cons (pv 0) (pa_cons (pv 6) (pa_cons (pv 7) pa_nil))))))) (fun _ _ _ _ _ => pe_int)) (pe_lst pa_nil) (nomark _))
            (pss_one (ps_ret (pe_tup (pa_cons pe_str (pa_cons (pv 6) pa_nil))))) pss_nil)) pss_nil)))
      (pss_one (ps_ret (pe_tup (pa_cons pe_str (pa_cons (pe_callTy call_tuple_of (by rfl) T.tuple (by decide +kernel) (pa_cons (pv 4) pa_nil)) pa_nil))))))))
, ?_⟩
    refine ⟨_, rfl, _, rfl, _, rfl, by show 1 ≤ sizeLine; decide, fun p1 hp1 => ?_⟩
    have s1 := sm_new (o := HO.lst [V.int 0]) hp1
    refine ⟨_, rfl, gA, _, rfl, .inr (SqT.of (s1 _ _ hg)), p1, _, _, rfl, rfl, upd_same, by omega, by rw [List.length_map]; omega, by rw [List.length_map, List.length_singleton]; exact Nat.le_of_lt (line_big (by omega)), fun p2 hp2 => ?_⟩
    rw [zero_rep]
    have s2 := sm_new (o := HO.lst ((Oh.zeroE G).map V.int)) hp2
    refine ⟨p2, _, rfl, .inl ⟨SqL.of upd_same, fun t ht => ?_⟩⟩
    have s3 := sm_new (o := HO.tup ((Oh.zeroE G).map V.int)) ht
    refine ⟨by show 1 ≤ sizeLine; decide, fun l hl => ?_⟩
    have s4 := sm_new (o := HO.lst [V.ref t]) hl
    have s04 := L2.Same.trans s1 (L2.Same.trans s2 (L2.Same.trans s3 s4))
    refine ⟨G, marks, room, _, _, _, _, rfl, ok, ⟨gA, rfl, s04 _ _ hg⟩, ⟨aA, xs, rfl, s04 _ _ ha, Els.mono (tk s04) hx⟩, ⟨bA, rfl, s04 _ _ hb⟩, ⟨l, _, rfl, upd_same, .cons ⟨t, rfl, s4 _ _ upd_same⟩ .nil⟩, le, lm, mm, mr, fun rv H5 s5 hrv => ?_⟩
    obtain ⟨rA, rs, rfl, hrA, hrs⟩ := hrv
    have s05 := L2.Same.trans s04 s5
    have lrs : (Oh.rowsE G marks room [Oh.zeroE G]).length = room.length := Oh.rowsE_len le
    have lrr := Paired.length hrs
    have hlast : (Oh.rowsE G marks room [Oh.zeroE G])[rs.length - 1]? = some (Oh.lastE G marks room [Oh.zeroE G]) := by
      have e := Oh.lastE_get (G := G) (marks := marks) (room := room) (ahead := [Oh.zeroE G])
      rw [List.getLast?_eq_getElem?] at e
      rw [lrr]
      cases h : (Oh.rowsE G marks room [Oh.zeroE G])[(Oh.rowsE G marks room [Oh.zeroE G]).length - 1]? with
      | none =>
        rw [List.getElem?_eq_none_iff] at h
        omega
      | some z =>
        rw [h] at e
        rw [← e]
        rfl
    obtain ⟨lv, hlv, hle⟩ := Paired.get' hrs hlast
    refine ⟨_, rfl, _, rfl, _, rfl, rA, rs, _, lv, rfl, rfl, SqL.of hrA, atI_last hlv, ?_⟩
    refine ⟨_, _, (hm.mono (tk s05)).dp, hle.dp, sh_E x, sh_T _, _, rfl, ?_⟩
    rw [any_dE]
    by_cases hin : x ∈ Oh.lastE G marks room [Oh.zeroE G]
    · rw [decide_eq_true hin]
      refine q _ _ s05 ?_
      unfold Oh.barE
      rw [if_pos hin]
      rfl
    · rw [decide_eq_false hin]
      have hb0 : Oh.barE G marks room x = match Oh.charOf G (Oh.openE marks room) x with
          | some c => .char c
          | none => .sums (Oh.rowsE G marks room [Oh.zeroE G]) := by
        unfold Oh.barE
        exact if_neg hin
      refine ⟨_, rfl, _, rfl, _, _, _, _, rfl, .inr ⟨SqT.of (s05 _ _ ha), SqT.of (s05 _ _ hb), fun D hD => ?_⟩⟩
      refine lc_pure (walk_zipT (n := marks.length) lx (by rw [List.length_map, zN_len, le])) (by omega) hD (fun i => decide (0 < room.getD i 0)) (fun i y H => EV H y (marks.getD i [])) (fun _ _ _ _ t r => r.mono t)
        (fun H6 s => ⟨SqT.of (s _ _ (s05 _ _ ha)), SqT.of (s _ _ (s05 _ _ hb))⟩) (fun i t H6 H7 hi s6 hy Q1 Q0 k1 k0 => ?_) (fun ys H6 s6 hD6 hp6 => ?_)
      · obtain ⟨t, u, v, rfl, ht, rfl, h1, h2⟩ := hy
        obtain ⟨rfl, _⟩ := at_nat h2
        obtain ⟨mk, hmk, hu⟩ := Paired.get hx h1
        have s7 := sm_new (o := HO.tup [u, V.int ((room.getD i 0 : Nat) : Int)]) ht
        refine ⟨t, _, rfl, SqT.of upd_same, rfl, _, _, rfl, _, _, rfl, rfl, rfl, _, rfl, _, _, rfl, rfl, _, rfl, ?_⟩
        refine ite2 (fun z => ?_) (fun z => ?_)
        · have z' : (0 : Int) < ((room.getD i 0 : Nat) : Int) := of_decide_eq_true z
          refine ⟨_, rfl, k1 _ _ s7 (decide_eq_true (by omega)) ?_⟩
          rw [getD_of hmk]
          exact hu.mono (tk (L2.Same.trans s05 (L2.Same.trans s6 s7)))
        · have z' : ¬ (0 : Int) < ((room.getD i 0 : Nat) : Int) := fun y => z (decide_eq_true y)
          exact k0 _ s7 (decide_eq_false (by omega))
      · have hS := paired_map_r (F := EV H6) (g := fun i : Nat => marks.getD i []) hp6
        rw [← Oh.open_filter le] at hS
        have mS := Oh.openE_mem (room := room) mm
        have lS : (Oh.openE marks room).length ≤ 1000 := by
          rw [Oh.open_filter le, List.length_map]
          exact Nat.le_trans (List.length_filter_le _ _) (by rw [List.length_range]; exact lm)
        generalize hSo : Oh.openE marks room = S at *
        have lys := Paired.length hS
        have s06 := L2.Same.trans s05 s6
        refine ⟨_, rfl, G, _, rfl, ok, ⟨gA, rfl, s06 _ _ hg⟩, fun mv H7 s7 hmv => ?_⟩
        obtain ⟨mA, ms, rfl, hmA, hms⟩ := hmv
        have s07 := L2.Same.trans s06 s7
        have lms := Paired.length hms
        have hrA7 := s7 _ _ (s6 _ _ hrA)
        have hrs7 := ets_mono (tk (L2.Same.trans s6 s7)) hrs
        refine ⟨mA, rfl, ⟨_, SqL.of hmA⟩, for_list (K := K) (a := mA) (xs := ms) (fun i σ H' => ∃ (v6 : Option V), σ = [some (.ref gA), some (.ref aA), some (.ref bA), some m, some (.ref rA), some (.ref D), v6, none, none] ∧ Same H7 H' ∧
          ∀ y ∈ (Oh.membersE G).take i, (!Oh.killsE G y x && S.all (Oh.killsE G y)) = false) ⟨none, rfl, L2.Same.refl H7, by simp⟩ (fun i σ H' _ ⟨_, _, s, _⟩ => SqL.of (s _ _ hmA)) ?_ ?_⟩
        · rintro i t σ H8 hi ⟨v6, rfl, s8, hno⟩
          obtain ⟨c, hc, hxc⟩ := Paired.get hms hi
          have mc := (Oh.mem_members ok.pos c).mp (List.mem_of_getElem? hc)
          have s08 := L2.Same.trans s07 s8
          have nxt : ∀ H9, Same H8 H9 → (!Oh.killsE G c x && S.all (Oh.killsE G c)) = false → ∃ (v6 : Option V), [some (V.ref gA), some (V.ref aA), some (V.ref bA), some m, some (V.ref rA), some (V.ref D), some t, none, none] = [some (.ref gA), some (.ref aA), some (.ref bA), some m, some (.ref rA), some (.ref D), v6, none, none] ∧ Same H7 H9 ∧
              ∀ y ∈ (Oh.membersE G).take (i + 1), (!Oh.killsE G y x && S.all (Oh.killsE G y)) = false := fun H9 s9 hk => by
            refine ⟨some t, rfl, L2.Same.trans s8 s9, fun y hy => ?_⟩
            rw [take_succ_get hc] at hy
            rcases List.mem_append.mp hy with hy | hy
            · exact hno y hy
            · have e : y = c := by simpa using hy
              rw [e]
              exact hk
          refine ⟨_, rfl, _, rfl, _, rfl, G, c, x, _, _, _, rfl, ok, ⟨gA, rfl, s08 _ _ hg⟩, hxc.mono (tk s8), hm.mono (tk s08), mc, mx, fun H9 s9 => ?_⟩
          have s79 := L2.Same.trans s8 s9
          have s09 := L2.Same.trans s07 s79
          refine ⟨_, rfl, ?_⟩
          cases hkx : Oh.killsE G c x with
          | true => exact nxt H9 s9 (by rw [hkx]; rfl)
          | false =>
            have hD9 := s79 _ _ (s7 _ _ hD6)
            refine ⟨_, rfl, D, rfl, ⟨_, SqL.of hD9⟩, fun D2 hD2 => ?_⟩
            refine lc_pure (walk_list (xs := ys)) (by omega) hD2 (fun k => !Oh.killsE G c (S.getD k [])) (fun k y' _ => ∃ z : Int, y' = V.int z) (fun _ _ _ _ _ r => r)
              (fun H10 s => SqL.of (s _ _ hD9)) (fun k t2 H10 H11 hk s10 hy Q1 Q0 k1 k0 => ?_) (fun zs H10 s10 hD10 hz => ?_)
            · obtain ⟨rfl, ht2⟩ := hy
              obtain ⟨z, hz, htz⟩ := Paired.get hS ht2
              have mz := mS z (List.mem_of_getElem? hz)
              have s010 := L2.Same.trans s09 s10
              refine ⟨rfl, _, rfl, _, rfl, _, rfl, G, c, z, _, _, _, rfl, ok, ⟨gA, rfl, s010 _ _ hg⟩, hxc.mono (tk (L2.Same.trans s79 s10)), htz.mono (tk (L2.Same.trans s7 (L2.Same.trans s79 s10))), mc, mz, fun H12 s12 => ⟨_, rfl, ?_⟩⟩
              have ez : S.getD k [] = z := getD_of hz
              cases hkz : Oh.killsE G c z with
              | true => exact k0 _ s12 (by rw [ez, hkz]; rfl)
              | false => exact k1 _ _ s12 (by rw [ez, hkz]; rfl) ⟨_, rfl⟩
            · obtain ⟨is, rfl, li⟩ := ints_of hz
              refine ⟨Nat.zero_le _, fun p3 hp3 => ?_⟩
              have s11 := sm_new (o := HO.lst []) hp3
              refine ⟨_, _, .lst (SqL.of (s11 _ _ hD10)) (dpInts is), .lst (SqL.of upd_same) .nil, sh_ints is, sh_nil, _, rfl, ?_⟩
              rw [eqv_nilE]
              have hemp : is.isEmpty = S.all (Oh.killsE G c) := by
                rw [← none_left]
                rw [lys, flen (fun m => !Oh.killsE G c m) [] S] at li
                cases is with
                | nil =>
                  cases hf : S.filter fun m => !Oh.killsE G c m with
                  | nil => rfl
                  | cons a l => rw [hf] at li; cases li
                | cons a l =>
                  cases hf : S.filter fun m => !Oh.killsE G c m with
                  | nil => rw [hf] at li; cases li
                  | cons a l => rfl
              rw [hemp]
              cases hall : S.all (Oh.killsE G c) with
              | false => exact nxt _ (L2.Same.trans s9 (L2.Same.trans s10 s11)) (by rw [hall]; simp)
              | true =>
                have hf : Oh.charOf G S x = some c := find_at (q := fun c => !Oh.killsE G c x && S.all (Oh.killsE G c)) hc (by rw [hkx, hall]; rfl) hno
                rw [hf] at hb0
                refine ⟨_, rfl, by show 2 ≤ sizeLine; decide, fun p hp => q _ _ (L2.Same.trans s09 (L2.Same.trans s10 (L2.Same.trans s11 (sm_new hp)))) ?_⟩
                rw [hb0]
                exact ⟨p, _, rfl, upd_same, hxc.mono (tk (L2.Same.trans s79 (L2.Same.trans s10 (L2.Same.trans s11 (sm_new hp)))))⟩
        · rintro σ H8 ⟨v6, rfl, s8, hno⟩
          rw [lms, List.take_length] at hno
          have hf : Oh.charOf G S x = none := List.find?_eq_none.mpr fun y hy => by rw [hno y hy]; exact Bool.false_ne_true
          rw [hf] at hb0
          refine ⟨_, rfl, rA, rs, rfl, .inl ⟨SqL.of (s8 _ _ hrA7), fun t2 ht2 => ?_⟩⟩
          refine ⟨by show 2 ≤ sizeLine; decide, fun p hp => q _ _ (L2.Same.trans s07 (L2.Same.trans s8 (L2.Same.trans (sm_new ht2) (sm_new hp)))) ?_⟩
          rw [hb0]
          exact ⟨p, _, rfl, upd_same, t2, rs, rfl, sm_new hp _ _ upd_same, ets_mono (tk (L2.Same.trans s8 (L2.Same.trans (sm_new ht2) (sm_new hp)))) hrs7⟩
end
end OhL

set_option Elab.async false
set_option linter.all false
set_option maxRecDepth 100000
set_option maxHeartbeats 4000000
/-! the law's own: is_right. First: what repr asks of the data -/
namespace OhL
open PySem PySem.Spec PyProof.Rows L2
/-! ### data that can be shown -/
structure Fine (k n : Nat) (d : PyData) : Prop where
  lay : d.canLay0 = true
  shortI : d.intsShort 13 = true
  show_ : d.showable = true
  dep : d.depth ≤ k
  bulk : d.bulk ≤ n
theorem Fine.mono {k n k' n' : Nat} {d : PyData} (h : Fine k n d) (h1 : k ≤ k') (h2 : n ≤ n') : Fine k' n' d := ⟨h.lay, h.shortI, h.show_, Nat.le_trans h.dep h1, Nat.le_trans h.bulk h2⟩
theorem fine_int {i : Int} (h : i.natAbs < 10 ^ 12) : Fine 0 0 (.int i) := by
  refine ⟨by simp only [PyData.canLay0], ?_, ?_, by simp only [PyData.depth]; exact Nat.le_refl _, by simp only [PyData.bulk]; exact Nat.le_refl _⟩
  · simp only [PyData.intsShort, decide_eq_true_eq]
    exact PyData.shown_int_le h
  · simp only [PyData.showable, decide_eq_true_eq]
    exact log2_small (Nat.lt_of_lt_of_le h (by decide))
theorem fine_all {k n : Nat} : ∀ {ds : List PyData}, (∀ d ∈ ds, Fine k n d) → PyData.canLayAll0 ds = true ∧ PyData.intsShortAll 13 ds = true ∧ PyData.showableAll ds = true ∧ PyData.depthAll ds ≤ k ∧ PyData.bulkAll ds ≤ ds.length * (n + 1)
  | [], _ => ⟨by simp only [PyData.canLayAll0], by simp only [PyData.intsShortAll], by simp only [PyData.showableAll], by simp only [PyData.depthAll]; exact Nat.zero_le _, by simp only [PyData.bulkAll]; exact Nat.zero_le _⟩
  | d :: ds, h => by
    have h1 := h d List.mem_cons_self
    obtain ⟨a, b, c, e, f⟩ := fine_all (ds := ds) fun x hx => h x (List.mem_cons_of_mem _ hx)
    refine ⟨?_, ?_, ?_, ?_, ?_⟩
    · simp only [PyData.canLayAll0, h1.lay, a, Bool.true_and]
    · simp only [PyData.intsShortAll, h1.shortI, b, Bool.true_and]
    · simp only [PyData.showableAll, h1.show_, c, Bool.true_and]
    · have := h1.dep
      simp only [PyData.depthAll]
      omega
    · have := h1.bulk
      simp only [PyData.bulkAll, List.length_cons]
      rw [Nat.succ_mul]
      omega
theorem fine_tup {k n m : Nat} {ds : List PyData} (h : ∀ d ∈ ds, Fine k n d) (hl : ds.length ≤ m) : Fine (k + 1) (m * (n + 1)) (.tuple ds) := by
  obtain ⟨a, b, c, e, f⟩ := fine_all h
  refine ⟨by simp only [PyData.canLay0]; exact a, by simp only [PyData.intsShort]; exact b, by simp only [PyData.showable]; exact c, by simp only [PyData.depth]; omega, ?_⟩
  simp only [PyData.bulk]
  exact Nat.le_trans f (Nat.mul_le_mul_right _ hl)
theorem fine_list {k n m : Nat} {ds : List PyData} (h : ∀ d ∈ ds, Fine k n d) (hl : ds.length ≤ m) : Fine (k + 1) (m * (n + 1)) (.list ds) := by
  obtain ⟨a, b, c, e, f⟩ := fine_all h
  refine ⟨by simp only [PyData.canLay0]; exact a, by simp only [PyData.intsShort]; exact b, by simp only [PyData.showable]; exact c, by simp only [PyData.depth]; omega, ?_⟩
  simp only [PyData.bulk]
  exact Nat.le_trans f (Nat.mul_le_mul_right _ hl)
theorem fine_non : Fine 0 0 .none := ⟨by simp only [PyData.canLay0], by simp only [PyData.intsShort], by simp only [PyData.showable], by simp only [PyData.depth]; exact Nat.le_refl _, by simp only [PyData.bulk]; exact Nat.le_refl _⟩
theorem fine_dE {x : List Int} {m : Nat} (h : ∀ i ∈ x, 0 ≤ i ∧ i ≤ 64) (hl : x.length ≤ m) : Fine 1 (m * 1) (dE x) := by
  refine fine_tup (k := 0) (n := 0) (fun d hd => ?_) (by rw [List.length_map]; exact hl)
  obtain ⟨i, hi, rfl⟩ := List.mem_map.mp hd
  have := h i hi
  exact fine_int (by omega)
theorem memE_each {G : List Int} {x : Oh.El} (ok : OkG G) (h : Oh.MemE G x) : ∀ i ∈ x, 0 ≤ i ∧ i ≤ 64 := fun i hi => by
  obtain ⟨j, hj, e⟩ := List.mem_iff_getElem.mp hi
  have hl := h.len
  have := mem_le ok h (i := j) (by omega)
  rw [List.getD_eq_getElem?_getD, List.getElem?_eq_getElem hj, Option.getD_some, e] at this
  omega
theorem fine_el {G : List Int} {x : Oh.El} (ok : OkG G) (h : Oh.MemE G x) : Fine 1 3 (dE x) := fine_dE (m := 3) (memE_each ok h) (by rw [h.len]; exact ok.few)
theorem fine_row {G : List Int} {r : List Oh.El} {m : Nat} (ok : OkG G) (h : ∀ x ∈ r, Oh.MemE G x) (hl : r.length ≤ m) : Fine 2 (m * 4) (dT r) := by
  refine fine_tup (k := 1) (n := 3) (fun d hd => ?_) (by rw [List.length_map]; exact hl)
  obtain ⟨x, hx, rfl⟩ := List.mem_map.mp hd
  exact fine_el ok (h x hx)
theorem fine_str {s : Str} {n : Nat} (h1 : (PyData.str s).canLay0 = true) (h2 : s.cps.size ≤ n) : Fine 0 n (.str s) := ⟨h1, by simp only [PyData.intsShort], by simp only [PyData.showable], by simp only [PyData.depth]; exact Nat.le_refl _, by simp only [PyData.bulk]; exact h2⟩
theorem fine_bar {G : List Int} {marks : List Oh.El} {room : List Nat} {x : Oh.El} (ok : OkG G) (mm : ∀ m ∈ marks, Oh.MemE G m) (le : marks.length = room.length) (lr : room.length ≤ 4) : Fine 4 2058 (dB (Oh.barE G marks room x)) := by
  unfold Oh.barE
  by_cases hin : x ∈ Oh.lastE G marks room [Oh.zeroE G]
  · rw [if_pos hin]
    exact fine_non.mono (by decide) (by decide)
  · rw [if_neg hin]
    have two : ∀ (s : Str) (d : PyData), (PyData.str s).canLay0 = true → s.cps.size ≤ 1028 → Fine 3 1028 d → Fine 4 2058 (.tuple [.str s, d]) := fun s d h1 h2 h3 => by
      refine fine_tup (k := 3) (n := 1028) (m := 2) (fun e he => ?_) (Nat.le_refl 2)
      rcases List.mem_cons.mp he with rfl | he
      · exact (fine_str h1 h2).mono (by decide) (Nat.le_refl _)
      · have e' : e = d := by simpa using he
        rw [e']
        exact h3
    cases hc : Oh.charOf G (Oh.openE marks room) x with
    | some c =>
      exact two _ _ (by decide +kernel) (by decide +kernel) ((fine_el ok (Oh.charOf_some ok.pos hc).1).mono (by decide) (by decide))
    | none =>
      refine two _ _ (by decide +kernel) (by decide +kernel) ?_
      refine fine_tup (k := 2) (n := 256) (m := 4) (fun d hd => ?_) (by rw [List.length_map, Oh.rowsE_len le]; exact lr)
      obtain ⟨row, hrow, rfl⟩ := List.mem_map.mp hd
      obtain ⟨ra, rm⟩ := Oh.rows_ok (room := room) (a := [Oh.zeroE G]) ok.pos mm (fun y hy => by
        have e : y = Oh.zeroE G := by simpa using hy
        rw [e]
        exact Oh.zeroE_mem ok.pos) row hrow
      exact fine_row (m := 64) ok rm (few_of ok ra.nodup rm)
/-- repr of data, None too, where no text is being made around -/
def rReprD (K : PySem.W.Frag) : List V → Hp → VK → Prop := fun vs H Q => ∃ (x : V) (d : PyData), vs = [x] ∧ (x = .non ∨ ∃ a, x = .ref a) ∧ Dp K H x d ∧ Fine 60 1048576 d ∧ Q (.str d.shown) H
theorem cr_reprD {X : Cx} (hg : X.A.guards = some []) (hu : X.A.units + 64 < cLine) : CallR X (.builtin "repr") (rReprD X.K) := by
  intro pins s σ H vs us Q I r h
  obtain ⟨x, d, rfl, hx, hd, hf, q⟩ := h
  rcases hx with rfl | ⟨a, rfl⟩
  · cases hd
    obtain ⟨u, rfl, ru⟩ := vals1 r
    cases (show u = Value.none from ru)
    exact PySem.P.repr_of_none ⟨.str _, H, I.tok _, ⟨_, rfl⟩, q⟩
  · exact cr_repr hg hu pins s σ H _ us Q I r ⟨a, d, rfl, hd, hf.show_, PyData.hasDict_of_canLay d hf.lay, hf.dep, PyData.shown_fits_bulk (B := 13) (by decide) (by decide) (PyData.leavesShort_of_canLay0 13 d hf.lay hf.shortI) hf.bulk, q⟩
theorem BV.ref_or {H : Hp} {v : V} : ∀ {b : Oh.Bar}, BV H v b → (v = .non ∨ ∃ a, v = .ref a)
  | .no, h => .inl h
  | .char _, ⟨a, _, e, _⟩ => .inr ⟨a, e⟩
  | .sums _, ⟨a, _, e, _⟩ => .inr ⟨a, e⟩

/-! ### bar(.., member=..) -/
def gK : List Value → List Value → List Value
  | [a, b, c], [d] => [a, b, c, d]
  | _, _ => []
def gKV : List V → List V → List V
  | [a, b, c], [d] => [a, b, c, d]
  | _, _ => []
theorem kb_bar {K : PySem.W.Frag} {f : Addr} {fd : FuncData} (F : Fun K "bar" "bar" sBar f fd) : KBinds K fd ["group", "marks", "room", "member"] ["member"] gK gKV := by
  obtain ⟨oc, od, kV, doc, pm, an, cdv, ct, osl, rfl, lk, hcd⟩ := F.ex
  refine ⟨fun s us ws hin hl => ?_, fun {vs us zs ws} r1 r2 => ?_⟩
  · unfold gK at hl ⊢
    split at hl
    · exact .of_eq rfl
    · cases hl
  · cases r1 with
    | nil => exact .nil
    | cons a r1 =>
      cases r1 with
      | nil => exact .nil
      | cons b r1 =>
        cases r1 with
        | nil => exact .nil
        | cons c r1 =>
          cases r1 with
          | nil =>
            cases r2 with
            | nil => exact .nil
            | cons d r2 =>
              cases r2 with
              | nil => exact .cons a (.cons b (.cons c (.cons d .nil)))
              | cons _ _ => exact .nil
          | cons _ _ => exact .nil
theorem cut1 (xs : List V) : cutV xs (some 1) none = xs.drop 1 := by
  have e1 : HT.sIx xs.length 0 (some 1) = min 1 xs.length := HT.sIx_nat xs.length 0 1
  unfold cutV
  rw [e1, HT.sIx_none]
  cases xs with
  | nil => rfl
  | cons x xs =>
    rw [Nat.min_eq_left (by rw [List.length_cons]; omega)]
    exact List.take_of_length_le (by rw [List.length_drop]; omega)
theorem cut_one (xs : List V) : cutV xs none (some 1) = xs.take 1 := by
  have e1 : HT.sIx xs.length xs.length (some 1) = min 1 xs.length := HT.sIx_nat xs.length xs.length 1
  unfold cutV
  rw [e1, HT.sIx_none]
  cases xs with
  | nil => rfl
  | cons x xs =>
    rw [Nat.min_eq_left (by rw [List.length_cons]; omega)]
    rfl
theorem Paired.drop1 {α β : Type} {F : α → β → Prop} : ∀ {xs : List α} {ys : List β}, Paired F xs ys → Paired F (xs.drop 1) (ys.drop 1)
  | _, _, .nil => .nil
  | _, _, .cons _ t => t
theorem els_rep {H : Hp} {v : V} {x : Oh.El} (h : EV H v x) : ∀ n : Nat, Els H (List.replicate n [v]).flatten (List.replicate n x)
  | 0 => .nil
  | n + 1 => .cons h (els_rep h n)
theorem els_ex {H : Hp} {F : Oh.El → Prop} {ys : List V} {l : List Nat} (h : Paired (fun y (_ : Nat) => ∃ x, EV H y x ∧ F x) ys l) : ∃ nss : List Oh.El, Els H ys nss ∧ nss.length = l.length ∧ ∀ x ∈ nss, F x := by
  induction h with
  | nil => exact ⟨[], .nil, rfl, by simp⟩
  | cons r t ih =>
    obtain ⟨x, hx, f⟩ := r
    obtain ⟨nss, p, e, hf⟩ := ih
    refine ⟨x :: nss, .cons hx p, by rw [List.length_cons, List.length_cons, e], fun y hy => ?_⟩
    rcases List.mem_cons.mp hy with rfl | hy
    · exact f
    · exact hf y hy
theorem seq_join {t r : TS} {D : Ends} {σ : L2.St} {H : Hp} (J : L2.St → Hp → Prop) (k : ∀ σ' H', J σ' H' → r D σ' H') (h : ∀ nx : L2.St → Hp → Prop, (∀ σ' H', J σ' H' → nx σ' H') → t { D with nx := nx } σ H) : tSeq t r D σ H := h (r D) k
theorem sl_head {K : PySem.W.Frag} {a : Addr} {xs : List V} {H : Hp} {Q : VK} (ha : H a = some (.tup xs)) (q : ∀ b H', Same H H' → H' b = some (.tup (xs.take 1)) → Q (.ref b) H') : rSlA K (.ref a) none (some 1) H Q := by
  have e1 : HT.sIx xs.length xs.length (some 1) = min 1 xs.length := HT.sIx_nat xs.length xs.length 1
  refine ⟨a, xs, rfl, SqT.of ha, fun h => ?_, fun h p hp => ?_⟩
  · rw [e1] at h
    refine q a H (L2.Same.refl H) ?_
    rw [List.take_of_length_le (by omega)]
    exact ha
  · refine q p _ (sm_new hp) ?_
    rw [cut_one]
    exact upd_same
/-- a list of elements that is not empty is no list of the stock -/
theorem els_ne {s g f a : Addr} {H : Hp} {xs : List V} {nss : List Oh.El} (st : Stk s g f H) (ha : H a = some (.lst xs)) (hx : Els H xs nss) (hn : nss ≠ []) : a ≠ s ∧ a ≠ g := by
  obtain ⟨_, S, t, gs, fs, h1, h2, _⟩ := st
  refine ⟨fun e => ?_, fun e => ?_⟩
  · rw [e, h1] at ha
    cases ha
    cases hx with
    | cons _ t1 =>
      cases t1 with
      | cons _ t2 =>
        cases t2 with
        | cons r _ =>
          obtain ⟨_, e, _⟩ := r
          cases e
  · rw [e, h2] at ha
    have e2 : gs.map V.int = xs := by
      injection ha with ha
      injection ha
    subst e2
    cases gs with
    | nil =>
      cases hx
      exact hn rfl
    | cons z gs =>
      cases hx with
      | cons r _ =>
        obtain ⟨_, e, _⟩ := r
        cases e
theorem bar_no {G : List Int} {marks : List Oh.El} {room : List Nat} {x : Oh.El} (h : Oh.barE G marks room x = .no) : x ∈ Oh.lastE G marks room [Oh.zeroE G] := by
  unfold Oh.barE at h
  by_cases q : x ∈ Oh.lastE G marks room [Oh.zeroE G]
  · exact q
  · rw [if_neg q] at h
    split at h <;> cases h
theorem bar_char {G : List Int} {marks : List Oh.El} {room : List Nat} {x c : Oh.El} (ok : OkG G) (mm : ∀ m ∈ marks, Oh.MemE G m) (mx : Oh.MemE G x) (h : Oh.barE G marks room x = .char c) : ¬ x ∈ Oh.lastE G marks room [Oh.zeroE G] ∧ ¬ Oh.Sp G (Oh.openE marks room) x := by
  unfold Oh.barE at h
  by_cases q : x ∈ Oh.lastE G marks room [Oh.zeroE G]
  · rw [if_pos q] at h
    cases h
  · rw [if_neg q] at h
    refine ⟨q, (Oh.charOf_iff ok.pos (Oh.openE_mem mm) mx).mp ?_⟩
    cases hc : Oh.charOf G (Oh.openE marks room) x with
    | some c => rfl
    | none => rw [hc] at h; cases h
theorem bar_sums {G : List Int} {marks : List Oh.El} {room : List Nat} {x : Oh.El} {r : List (List Oh.El)} (ok : OkG G) (mm : ∀ m ∈ marks, Oh.MemE G m) (mx : Oh.MemE G x) (h : Oh.barE G marks room x = .sums r) : ¬ x ∈ Oh.lastE G marks room [Oh.zeroE G] ∧ Oh.Sp G (Oh.openE marks room) x := by
  unfold Oh.barE at h
  by_cases q : x ∈ Oh.lastE G marks room [Oh.zeroE G]
  · rw [if_pos q] at h
    cases h
  · rw [if_neg q] at h
    refine ⟨q, Classical.byContradiction fun n => ?_⟩
    have := (Oh.charOf_iff ok.pos (Oh.openE_mem mm) mx).mpr n
    cases hc : Oh.charOf G (Oh.openE marks room) x with
    | some c => rw [hc] at h; cases h
    | none => rw [hc] at this; cases this
theorem fine_three {G : List Int} {marks : List Oh.El} {room : List Nat} (ok : OkG G) (mm : ∀ m ∈ marks, Oh.MemE G m) (lm : marks.length ≤ 4) (lr : room.length ≤ 4) (m7 : ∀ n ∈ room, n ≤ 7) : Fine 60 1048576 (.list [dE G, dT marks, dE (zN room)]) := by
  have h : Fine 3 (3 * 17) (.list [dE G, dT marks, dE (zN room)]) := by
    refine fine_list (k := 2) (n := 16) (m := 3) (fun d hd => ?_) (Nat.le_refl 3)
    rcases List.mem_cons.mp hd with rfl | hd
    · exact (fine_dE (m := 3) (fun i hi => by have := ok.each i hi; omega) ok.few).mono (by decide) (by decide)
    · rcases List.mem_cons.mp hd with rfl | hd
      · exact fine_row (m := 4) ok mm lm
      · have e : d = dE (zN room) := by simpa using hd
        rw [e]
        refine (fine_dE (m := 4) (fun i hi => ?_) (by rw [zN_len]; exact lr)).mono (by decide) (by decide)
        obtain ⟨n, hn, rfl⟩ := List.mem_map.mp hi
        have := m7 n hn
        omega
  exact h.mono (by decide) (by decide)
structure KeptG (P : Program) (w : World) (K : PySem.W.Frag) (mg : Str → Option Value) (base : Heap) (k : Nat) (x : Str) (ps : List Str) (sp : Sp) : Prop where
  ex : ∃ (f : Addr) (fd : FuncData), FnG P w K mg base k f fd ps sp ∧ mg x = some (.ref f) ∧ PySem.W.keepIn K (.ref f) = true ∧ Binds K fd ps []
/-- the law's own defs and the program's, all kept -/
structure All (P : Program) (w : World) (K : PySem.W.Frag) (mg : Str → Option Value) (base : Heap) : Prop where
  hB : Here K mg "bar" sBar ["group", "marks", "room", "member"]
  cB : Kept P w K mg base 4 "bar" ["group", "marks", "room", "member"] spBar
  cM : Kept P w K mg base 2 "makes" ["group", "marks", "room"] spMakes
  cSp : Kept P w K mg base 2 "span" ["group", "some"] spSpan
  cH : Kept P w K mg base 5 "bar_holds" ["group", "marks", "room", "member", "value"] spHolds
  cS : Kept P w K mg base 1 "_law_stock" ["_law_script"] (spStock K)
  cD : Kept P w K mg base 1 "_law_draw" ["_law_stock_here", "_law_size"] spDraw
  cP : Kept P w K mg base 2 "_law_pick" ["_law_stock_here", "_law_row"] spPick
  cMems : Kept P w K mg base 1 "_law_members" ["_law_sizes"] spMems
  cG : Kept P w K mg base 3 "_law_group" ["_law_stock_here"] spGrp
  cE : Kept P w K mg base 2 "_law_element" ["_law_stock_here", "_law_group_here"] spEle
  cSpd : Kept P w K mg base 2 "_law_spanned" ["_law_group_here", "_law_some"] spSpd
  cRm : Kept P w K mg base 4 "_law_room" ["_law_stock_here"] spRm
  cDue : Kept P w K mg base 3 "_law_due" ["_law_group_here", "_law_marks", "_law_space", "_law_member"] spDue
section
variable {P : Program} {w : World} {K : PySem.W.Frag} {mg : Str → Option Value} {base : Heap}

/-! ### _law_is_right -/
abbrev sR : Stmt := top 38
abbrev nR : List Str := ["_law_stock_here", "_law_group_here", "_law_space", "_law_marks", "_law_some", "_law_spanned_here", "_law_known", "_law_made", "_law_told_span", "_law_members_here", "_law_place", "_law_member", "_law_due_here", "_law_told", "_law_cell", "_law_mark", "_law_top", "_law_turn"]
theorem scR : FnScope nR ["_law_stock_here"] (defScope sR) := ⟨rfl, rfl, rfl, by decide +kernel, rfl, by decide +kernel, by decide +kernel⟩
def spR : Sp := fun vs H Q _ => ∃ (s g f : Addr), vs = [.ref s] ∧ Stk s g f H ∧ ∀ H', Stk s g f H' → Bt s g H H' → Q (.bl true) H'
theorem ok_r (T : Glob mg) (C : All P w K mg base) (h : Here K mg "_law_is_right" sR ["_law_stock_here"]) : KeptG P w K mg base 6 "_law_is_right" ["_law_stock_here"] spR := by
  obtain ⟨fr, fdr, Fr, hmr, hbr⟩ := h.ex
  refine ⟨fr, fdr, fng_body Fr scR (fun vs H Q E h => ?_) (fun cdv A outer s H vs Q E hgu hr h => ?_), hmr, Fr.kp, hbr⟩
  · obtain ⟨s, g, f, rfl, _⟩ := h
    rfl
  · obtain ⟨sA, gA, fA, rfl, st, q⟩ := h
    obtain ⟨fb, fdb, FB, hmb, kpb, bb, ocb, odb, oslb, lkb⟩ := C.cB.ex
    obtain ⟨fb', fdb', Fb', hmb', _⟩ := C.hB.ex
    have efb : fb' = fb := by
      rw [hmb] at hmb'
      cases hmb'
      rfl
    subst efb
    have efd : fdb' = fdb := by
      obtain ⟨oc, od, kV, doc, pm, an, cdv, ct, osl, e, lk, hcd⟩ := Fb'.ex
      rw [lkb] at lk
      cases lk
      rfl
    subst efd
    have kb := kb_bar Fb'
    have hgX : (A.deeper (envOfC "_law_is_right" (defScope sR) s.heap.objs.size fr cdv)).guards = some [] := hgu
    refine ⟨_, pss_cons (ps_asg (pe_tup (pa_cons (pe_k C.cG hr (by decide) (by rfl) (pa_cons (pv 0) pa_nil)) (pa_cons (pe_k C.cRm hr (by decide) (by rfl) (pa_cons (pv 0) pa_nil)) pa_nil)))
        (pg_tup rfl (pgs_cons (pg_name (i := 1) scR.nd rfl (Or.inr rfl)) (pgs_cons (pg_name (i := 2) scR.nd rfl (Or.inl rfl)) pgs_nil))))
      (pss_cons (ps_if (pt_cmpR op_eq (pe_k C.cD hr (by decide) (by rfl) (pa_cons (pv 0) (pa_cons pe_int pa_nil))) pe_int (nomark _))
        (pss_one (ps_set (i := 1) scR.nd rfl (Or.inr rfl) (pe_k C.cP hr (by decide) (by rfl) (pa_cons (pv 0) (pa_cons (pe_lst (t := tTs gBig) (pa_cons (pe_tup (pa_cons pe_int pa_nil)) (pa_cons (pe_tup (pa_cons pe_int (pa_cons pe_int pa_nil))) (pa_cons (pe_tup (pa_cons pe_int (pa_cons pe_int pa_nil))) (pa_cons (pe_tup (pa_cons pe_int (pa_cons pe_int pa_nil))) (pa_cons (pe_tup (pa_cons pe_int (pa_cons pe_int (pa_cons pe_int pa_nil)))) (pa_cons (pe_tup (pa_cons pe_int (pa_cons pe_int (pa_cons pe_int pa_nil)))) (pa_cons (pe_tup (pa_cons pe_int pa_nil)) pa_nil)))))))) pa_nil))))) pss_nil)
      (pss_cons (ps_set (i := 3) scR.nd rfl (Or.inl rfl) (pe_callTy call_tuple_of (by rfl) T.tuple (by decide +kernel) (pa_cons (pe_lc (own := [("_law_cell", 14)]) (g := gName 14) (tt := tYes) rfl scR.nd (pi_tup (pv 2)) (blkOk_by (N := nR) (sc := defScope sR) (by decide +kernel))
          (fun _ _ _ _ _ => pg_name (i := 14) scR.nd rfl (Or.inl rfl)) (fun _ _ _ _ _ => pts_nil) (fun _ _ _ _ _ => pe_k C.cE hr (by decide) (by rfl) (pa_cons (pv 0) (pa_cons (pv 1) pa_nil)))) pa_nil)))
      (pss_cons (ps_if (pt_cmpR op_eq (pe_k C.cD hr (by decide) (by rfl) (pa_cons (pv 0) (pa_cons pe_int pa_nil))) pe_int (nomark _))
        (pss_one (ps_set (i := 3) scR.nd rfl (Or.inl rfl) (pe_op (op_mulOne.or op_repT) (pe_slice sl_tupA (pv 3) po_none (po_some pe_int)) (pe_callB call_len_seq (by rfl) T.len PySem.boot_len (pa_cons (pv 3) pa_nil))))) pss_nil)
      (pss_cons (ps_set (i := 4) scR.nd rfl (Or.inl rfl) (pe_callTy call_tuple_of (by rfl) T.tuple (by decide +kernel) (pa_cons (pe_lc (own := [("_law_mark", 15), ("_law_top", 16)]) (g := gTup K 2 (gCons (gName 15) (gCons (gName 16) gNil))) rfl scR.nd (RZ.pi_zipA (by rfl) T.zip (pa_cons (pv 3) (pa_cons (pv 2) pa_nil))) (blkOk_by (N := nR) (sc := defScope sR) (by decide +kernel))
          (fun _ _ _ _ _ => pg_tup rfl (pgs_cons (pg_name (i := 15) scR.nd rfl (Or.inl rfl)) (pgs_cons (pg_name (i := 16) scR.nd rfl (Or.inl rfl)) pgs_nil)))
          (fun _ _ _ _ _ => pts_one (pt_cmpR op_gt (pv 16) pe_int (nomark _))) (fun _ _ _ _ _ => pv 15)) pa_nil)))
      (pss_cons (ps_par (i := 5) (j := 6) rfl scR.nd rfl rfl (by decide) rfl rfl (pa_cons (pe_k C.cSpd hr (by decide) (by rfl) (pa_cons (pv 1) (pa_cons (pv 4) pa_nil)))
          (pa_cons (pe_callB (cr_reprD hgX hr.units) (by rfl) T.repr (by decide +kernel) (pa_cons (pe_lst (pa_cons (pv 1) (pa_cons (pv 3) (pa_cons (pv 2) pa_nil)))) pa_nil)) pa_nil)) (by rfl))
      (pss_cons (ps_par (i := 7) (j := 8) rfl scR.nd rfl rfl (by decide) rfl rfl (pa_cons (pe_k C.cM hr (by decide) (by rfl) (pa_cons (pv 1) (pa_cons (pv 3) (pa_cons (pv 2) pa_nil))))
          (pa_cons (pe_k C.cSp hr (by decide) (by rfl) (pa_cons (pv 1) (pa_cons (pv 4) pa_nil))) pa_nil)) (by rfl))
      (pss_cons (ps_set (i := 9) scR.nd rfl (Or.inr rfl) (pe_slice sl_list (pe_k C.cMems hr (by decide) (by rfl) (pa_cons (pv 1) pa_nil)) (po_some pe_int) po_none))
      (pss_cons (ps_if (pt_cmpR op_gt (pe_callB call_len_seq (by rfl) T.len PySem.boot_len (pa_cons (pv 9) pa_nil)) pe_int (nomark _))
        (pss_one (ps_set (i := 9) scR.nd rfl (Or.inr rfl) (pe_lc (own := [("_law_turn", 17)]) (g := gName 17) (tt := tYes) rfl scR.nd (pi_range1 (by rfl) T.range (pa_cons pe_int pa_nil)) (blkOk_by (N := nR) (sc := defScope sR) (by decide +kernel))
          (fun _ _ _ _ _ => pg_name (i := 17) scR.nd rfl (Or.inl rfl)) (fun _ _ _ _ _ => pts_nil) (fun _ _ _ _ _ => pe_k C.cP hr (by decide) (by rfl) (pa_cons (pv 0) (pa_cons (pv 9) pa_nil)))))) pss_nil)
      (pss_cons (ps_for PassesOwn.never rfl (pi_enum (by rfl) T.enumerate (pa_cons (pv 9) pa_nil)) (pg_tup rfl (pgs_cons (pg_name (i := 10) scR.nd rfl (Or.inl rfl)) (pgs_cons (pg_name (i := 11) scR.nd rfl (Or.inl rfl)) pgs_nil)))
        (pss_cons (ps_set (i := 12) scR.nd rfl (Or.inl rfl) (pe_k C.cDue hr (by decide) (by rfl) (pa_cons (pv 1) (pa_cons (pv 3) (pa_cons (pv 2) (pa_cons (pv 11) pa_nil))))))
        (pss_cons (ps_if (pt_cmpR op_eq (pv 10) pe_int (nomark _))
          (pss_one (ps_set (i := 13) scR.nd rfl (Or.inl rfl) (pe_callK FB (hr.mono (by decide)) (by rfl) hmb kpb kb pass0 (pa_cons (pv 1) (pa_cons (pv 3) (pa_cons (pv 2) pa_nil))) (pk_cons (pv 11) pk_nil))))
          (pss_one (ps_set (i := 13) scR.nd rfl (Or.inl rfl) (pe_k C.cB hr (by decide) (by rfl) (pa_cons (pv 1) (pa_cons (pv 3) (pa_cons (pv 2) (pa_cons (pv 11) pa_nil))))))))
        (pss_cons (ps_if (PW.pt (pw_or (pt_cmpR op_ne (pe_callB (cr_reprD hgX hr.units) (by rfl) T.repr (by decide +kernel) (pa_cons (pv 13) pa_nil)) (pe_callB (cr_reprD hgX hr.units) (by rfl) T.repr (by decide +kernel) (pa_cons (pv 12) pa_nil)) (nomark _))
            (pw_or1 (pt_cmpR op_ne (pe_cmpR op_isN (pv 12) pe_non (nomark _)) (pe_cmpR (op_inU (hu65 hr)) (pv 11) (pv 7) (by rfl)) (nomark _))))) (pss_one (ps_ret pe_bl)) pss_nil)
        (pss_cons (ps_if (pt_cmpR op_isN (pv 12) pe_non (nomark _)) (pss_one ps_continue) pss_nil)
        (pss_cons (ps_if (PW.pt (pw_or (pt_cmpR op_ne (pe_cmpR op_eq (pe_ix ix_tup (pv 12) pe_int (fun _ _ => rfl)) pe_str (nomark _)) (pe_cmpR (op_notInD (hu65 hr)) (pv 11) (pv 5) (by rfl)) (nomark _))
            (pw_or1 (pt_cmpR op_ne (pe_cmpR (op_inD (hu65 hr)) (pv 11) (pv 5) (by rfl)) (pe_cmpR (op_inU (hu65 hr)) (pv 11) (pv 8) (by rfl)) (nomark _))))) (pss_one (ps_ret pe_bl)) pss_nil)
        (pss_one (ps_if (pt_cmpR op_isnot_bl (pe_k C.cH hr (by decide) (by rfl) (pa_cons (pv 1) (pa_cons (pv 3) (pa_cons (pv 2) (pa_cons (pv 11) (pa_cons (pv 13) pa_nil)))))) pe_bl (nomark _)) (pss_one (ps_ret pe_bl)) pss_nil))))))))
      (pss_one (ps_ret (pe_cmpR op_eq (pe_callB (cr_reprD hgX hr.units) (by rfl) T.repr (by decide +kernel) (pa_cons (pe_lst (pa_cons (pv 1) (pa_cons (pv 3) (pa_cons (pv 2) pa_nil)))) pa_nil)) (pv 6) (nomark _))))))))))))), ?_⟩
    refine ⟨_, rfl, sA, gA, fA, rfl, st, fun gv0 H1 G0 st1 b1 hg0 ok0 => ⟨_, rfl, sA, gA, fA, rfl, st1, fun rv H2 room st2 b2 hrv l1 l4 m7 => ⟨by show 2 ≤ sizeLine; decide, fun p hp => ⟨p, _, rfl, SqT.of upd_same, rfl, _, _, rfl, _, _, rfl, rfl, ?_⟩⟩⟩⟩
    have s3 := sm_new (o := HO.tup [gv0, rv]) hp
    have st3 := st2.same s3
    have b03 := (b1.trans b2).trans (Bt.of s3)
    have hg3 := (hg0.mono (st1.tk b2)).mono (tk s3)
    have hr3 := hrv.mono (tk s3)
    generalize upd H2 p (HO.tup [gv0, rv]) = H3 at *
    -- the second statement
    dsimp only
    refine seq_join (fun σ' H' => ∃ gv G, σ' = [some (.ref sA), some gv, some rv, none, none, none, none, none, none, none, none, none, none, none, none, none, none, none] ∧ Stk sA gA fA H' ∧ Bt sA gA H H' ∧ EV H' gv G ∧ OkG G ∧ EV H' rv (zN room)) ?_ (fun nx k => ?_)
    rotate_left
    · refine ⟨_, rfl, sA, gA, fA, 8, rfl, st3, by decide, by decide, fun r H4 r0 r1 st4 b4 => ⟨rfl, _, rfl, ?_⟩⟩
      have t4 := st3.tk b4
      refine ite2 (fun _ => ?_) (fun _ => ?_)
      · refine ⟨_, rfl, ?_⟩
        refine tTs_run (by decide) fun vs H5 s5 hv => ?_
        have lv : vs.length = gBig.length := Paired.length hv
        refine ⟨by rw [lv]; decide, fun a ha => ?_⟩
        have s6 := sm_new (o := HO.lst vs) ha
        have st5 := st4.same s5
        have na := st5.new ha
        have st6 := st5.same s6
        refine ⟨sA, gA, fA, a, vs, rfl, st6, upd_same, na.1, na.2.1, by rw [lv]; decide, by rw [lv]; decide, fun j v H7 hj st7 b7 => ?_⟩
        obtain ⟨G, hG, hvG⟩ := Paired.get hv hj
        have okb : ∀ G ∈ gBig, okB G = true := by decide
        have t7 := st6.tk b7
        exact k _ _ ⟨v, G, rfl, st7, ((b03.trans b4).trans (Bt.of (L2.Same.trans s5 s6))).trans b7, (hvG.mono (tk s6)).mono t7, okG_of (okb G (List.mem_of_getElem? hG)), ((hr3.mono t4).mono (tk (L2.Same.trans s5 s6))).mono t7⟩
      · exact k _ _ ⟨gv0, G0, rfl, st4, b03.trans b4, hg3.mono t4, ok0, hr3.mono t4⟩
    rintro σ H4 ⟨gv, G, rfl, st4, b04, hg4, ok, hr4⟩
    -- marks
    obtain ⟨rA, rfl, hrA⟩ := hr4
    refine ⟨_, rfl, rA, rfl, ⟨_, SqT.of hrA⟩, fun D hD => ?_⟩
    refine lc_stk (walk_tup (xs := (zN room).map V.int)) (by rw [List.length_map, zN_len]; omega) hD st4 (fun i y H => ∃ x, EV H y x ∧ Oh.MemE G x) (fun _ _ _ _ t r => by obtain ⟨x, h1, h2⟩ := r; exact ⟨x, h1.mono t, h2⟩)
      (fun H5 b s5 => SqT.of (st4.tk b _ _ hrA)) (fun i t H5 H6 hi b5 st5 hy Q1 k1 => ?_) (fun ys H5 b5 st5 hD5 hp5 => ?_)
    · obtain ⟨rfl, ht⟩ := hy
      exact ⟨rfl, _, rfl, _, rfl, sA, gA, fA, G, _, rfl, st5, ok, hg4.mono (st4.tk b5), fun v H7 x st7 b7 hv mx => k1 _ _ b7 st7 ⟨x, hv, mx⟩⟩
    obtain ⟨marks0, hm5, lm5, mm5⟩ := els_ex (F := fun x => Oh.MemE G x) hp5
    rw [List.length_range, List.length_map, zN_len] at lm5
    refine ⟨D, _, rfl, .inl ⟨SqL.of hD5, fun t ht => ?_⟩⟩
    have s6 := sm_new (o := HO.tup ys) ht
    have st6 := st5.same s6
    have b46 := b5.trans (Bt.of s6)
    have b06 := b04.trans b46
    have t46 := st4.tk b46
    have hg6 := hg4.mono t46
    have hrA6 := t46 _ _ hrA
    have hm6 := Els.mono (tk s6) hm5
    have ht6 : (upd H5 t (.tup ys)) t = some (.tup ys) := upd_same
    generalize upd H5 t (HO.tup ys) = H6 at *
    dsimp only
    refine seq_join (fun σ' H' => ∃ mv marks, σ' = [some (.ref sA), some gv, some (.ref rA), some mv, none, none, none, none, none, none, none, none, none, none, none, none, none, none] ∧ Stk sA gA fA H' ∧ Bt sA gA H6 H' ∧ ET H' mv marks ∧ marks.length = room.length ∧ ∀ m ∈ marks, Oh.MemE G m) ?_ (fun nx k => ?_)
    rotate_left
    · refine ⟨_, rfl, sA, gA, fA, 5, rfl, st6, by decide, by decide, fun r H7 r0 r1 st7 b7 => ⟨rfl, _, rfl, ?_⟩⟩
      have t7 := st6.tk b7
      have ht7 := t7 _ _ ht6
      have hm7 := Els.mono t7 hm6
      refine ite2 (fun _ => ?_) (fun _ => ?_)
      · refine ⟨_, rfl, _, rfl, ?_⟩
        refine sl_head ht7 fun b H8 s8 hb8 => ?_
        have ht8 := s8 _ _ ht7
        have st8 := st7.same s8
        have hm8 := Els.mono (tk s8) hm7
        refine ⟨_, rfl, t, _, rfl, .inr (SqT.of ht8), ?_⟩
        have lys := Paired.length hm8
        cases hm8 with
        | nil => rw [List.length_nil] at lm5; omega
        | @cons x0 m0 xs' ms' h0 hrest =>
          have hb8' : H8 b = some (.tup [x0]) := hb8
          have mm0 := mm5 m0 List.mem_cons_self
          by_cases e1 : (x0 :: xs').length = 1
          · have e2 : ms' = [] := by
              rw [List.length_cons] at lys e1
              rw [List.length_cons] at lys
              exact List.length_eq_zero_iff.mp (by omega)
            subst e2
            refine .inl ⟨b, [x0], rfl, by rw [e1]; rfl, SqT.of hb8', k _ _ ⟨.ref b, [m0], rfl, st8, b7.trans (Bt.of s8), ⟨b, [x0], rfl, hb8', .cons h0 .nil⟩, lm5, mm5⟩⟩
          · refine .inr ⟨b, _, [x0], rfl, rfl, SqT.of hb8', by simp, ?_, by omega, by simp, fun p2 hp2 => ?_⟩
            · rw [List.length_cons] at e1 ⊢
              omega
            · have s9 := sm_new (o := HO.tup (List.replicate (((x0 :: xs').length : Nat) : Int).toNat [x0]).flatten) hp2
              refine k _ _ ⟨.ref p2, List.replicate (((x0 :: xs').length : Nat) : Int).toNat m0, rfl, st8.same s9, b7.trans (Bt.of (L2.Same.trans s8 s9)), ⟨p2, _, rfl, upd_same, els_rep (h0.mono (tk s9)) _⟩, ?_, fun m hm => ?_⟩
              · rw [List.length_replicate, Int.toNat_natCast, lys]
                exact lm5
              · rw [List.eq_of_mem_replicate hm]
                exact mm0
      · exact k _ _ ⟨.ref t, marks0, rfl, st7, b7, ⟨t, _, rfl, ht7, hm7⟩, lm5, mm5⟩
    rintro σ H7 ⟨mv, marks, rfl, st7, b67, ⟨mA, ms, rfl, hmA, hms⟩, le, mm⟩
    have b07 := b06.trans b67
    have hg7 := hg6.mono (st6.tk b67)
    have hrA7 := st6.tk b67 _ _ hrA6
    have lms : ms.length = marks.length := Paired.length hms
    -- some
    refine ⟨_, rfl, _, rfl, _, _, _, _, rfl, .inr ⟨SqT.of hmA, SqT.of hrA7, fun D8 hD8 => ?_⟩⟩
    refine lc_pure (walk_zipT (n := marks.length) lms (by rw [List.length_map, zN_len, le])) (by omega) hD8 (fun i => decide (0 < room.getD i 0)) (fun i y H => EV H y (marks.getD i [])) (fun _ _ _ _ t r => r.mono t)
      (fun H8 s => ⟨SqT.of (s _ _ hmA), SqT.of (s _ _ hrA7)⟩) (fun i t H8 H9 hi s8 hy Q1 Q0 k1 k0 => ?_) (fun ys H8 s8 hD8' hp8 => ?_)
    · obtain ⟨t, u, v, rfl, ht, rfl, h1, h2⟩ := hy
      obtain ⟨rfl, _⟩ := at_nat h2
      obtain ⟨mk, hmk, hu⟩ := Paired.get hms h1
      have s9 := sm_new (o := HO.tup [u, V.int ((room.getD i 0 : Nat) : Int)]) ht
      refine ⟨t, _, rfl, SqT.of upd_same, rfl, _, _, rfl, _, _, rfl, rfl, rfl, _, rfl, _, _, rfl, rfl, _, rfl, ?_⟩
      refine ite2 (fun z => ?_) (fun z => ?_)
      · have z' : (0 : Int) < ((room.getD i 0 : Nat) : Int) := of_decide_eq_true z
        refine ⟨_, rfl, k1 _ _ s9 (decide_eq_true (by omega)) ?_⟩
        rw [getD_of hmk]
        exact hu.mono (tk (L2.Same.trans s8 s9))
      · have z' : ¬ (0 : Int) < ((room.getD i 0 : Nat) : Int) := fun y => z (decide_eq_true y)
        exact k0 _ s9 (decide_eq_false (by omega))
    have hS8 := paired_map_r (F := EV H8) (g := fun i : Nat => marks.getD i []) hp8
    rw [← Oh.open_filter le] at hS8
    have mS := Oh.openE_mem (room := room) mm
    have lS : (Oh.openE marks room).length ≤ 1000 := by
      rw [Oh.open_filter le, List.length_map]
      exact Nat.le_trans (List.length_filter_le _ _) (by rw [List.length_range]; omega)
    refine ⟨D8, _, rfl, .inl ⟨SqL.of hD8', fun sT hsT => ?_⟩⟩
    have s9 := sm_new (o := HO.tup ys) hsT
    have s79 := L2.Same.trans s8 s9
    have hST : ET (upd H8 sT (.tup ys)) (.ref sT) (Oh.openE marks room) := ⟨sT, ys, rfl, upd_same, Els.mono (tk s9) hS8⟩
    generalize upd H8 sT (HO.tup ys) = H9 at *
    have mr : ∀ n ∈ room, n ≤ 1000 := fun n hn => Nat.le_trans (m7 n hn) (by decide)
    have hMT : ∀ H', Tk H7 H' → ET H' (.ref mA) marks := fun H' t => ET.mono t ⟨mA, ms, rfl, hmA, hms⟩
    have hRT : ∀ H', Tk H7 H' → EV H' (.ref rA) (zN room) := fun H' t => ⟨rA, rfl, t _ _ hrA7⟩
    have hGT : ∀ H', Tk H7 H' → EV H' gv G := fun H' t => hg7.mono t
    have dp3 : ∀ H' (p : Addr), Tk H7 H' → H' p = some (.lst [gv, .ref mA, .ref rA]) → Dp K H' (.ref p) (.list [dE G, dT marks, dE (zN room)]) := fun H' p t e => .lst (SqL.of e) (.cons (hGT H' t).dp (.cons (hMT H' t).dp (.cons (hRT H' t).dp .nil)))
    have fine3 := fine_three ok mm (by omega) l4 m7
    -- spanned, known
    refine ⟨_, rfl, _, rfl, G, Oh.openE marks room, _, _, rfl, ok, hGT _ (tk s79), hST, lS, mS, fun v5 H10 l5 s10 hv5 hsp5 => ⟨_, rfl, _, rfl, _, rfl, by show 3 ≤ sizeLine; decide, fun p3 hp3 => ?_⟩⟩
    have s11 := sm_new (o := HO.lst [gv, .ref mA, .ref rA]) hp3
    have s7b := L2.Same.trans s79 (L2.Same.trans s10 s11)
    refine ⟨.ref p3, _, rfl, .inr ⟨p3, rfl⟩, dp3 _ p3 (tk s7b) upd_same, fine3, _, _, rfl, ?_⟩
    have hST11 := hST.mono (tk (L2.Same.trans s10 s11))
    have hv511 := hv5.mono s11
    generalize upd H10 p3 (HO.lst [gv, .ref mA, .ref rA]) = H11 at *
    -- made, told_span
    refine ⟨_, rfl, _, rfl, _, rfl, G, marks, room, _, _, _, rfl, ok, hGT _ (tk s7b), hMT _ (tk s7b), hRT _ (tk s7b), le, by omega, mm, mr, fun v7 H12 l7 s12 hv7 hl7 => ?_⟩
    have s7c := L2.Same.trans s7b s12
    refine ⟨_, rfl, _, rfl, G, Oh.openE marks room, _, _, rfl, ok, hGT _ (tk s7c), hST11.mono (tk s12), mS, fun v8 H13 l8 s13 hv8 hsp8 => ⟨_, _, rfl, ?_⟩⟩
    have s7d := L2.Same.trans s7c s13
    -- members
    refine ⟨_, rfl, G, _, rfl, ok, hGT _ (tk s7d), fun m9 H14 s14 hm9 => ?_⟩
    obtain ⟨m9A, ms9, rfl, hm9A, hms9⟩ := hm9
    have s7e := L2.Same.trans s7d s14
    refine ⟨_, rfl, m9A, ms9, rfl, SqL.of hm9A, fun m0 hm0 => ?_⟩
    rw [show cutV ms9 (some 1) none = ms9.drop 1 from cut1 ms9]
    have s15 := sm_new (o := HO.lst (ms9.drop 1)) hm0
    have s7f := L2.Same.trans s7e s15
    have hm0' : (upd H14 m0 (.lst (ms9.drop 1))) m0 = some (.lst (ms9.drop 1)) := upd_same
    have hdr := Els.mono (tk s15) (Paired.drop1 hms9)
    have nm0 := (st7.same s7e).new hm0
    have few9 : (ms9.drop 1).length ≤ 64 := by
      rw [List.length_drop, Paired.length hms9, Oh.members_len]
      have := ok.prod
      omega
    have hv515 := hv511.mono (L2.Same.trans s12 (L2.Same.trans s13 (L2.Same.trans s14 s15)))
    have hv715 := hv7.mono (tk (L2.Same.trans s13 (L2.Same.trans s14 s15)))
    have hv815 := hv8.mono (tk (L2.Same.trans s14 s15))
    generalize upd H14 m0 (HO.lst (ms9.drop 1)) = H15 at *
    have st15 := st7.same s7f
    obtain ⟨l5A, l5s, rfl, hl5A, hl5⟩ := hv515
    have n5 : l5A ≠ sA ∧ l5A ≠ gA := els_ne st15 hl5A hl5 fun e => by
      have := (hsp5 _).mpr (Oh.Sp.zero (G := G) (S := Oh.openE marks room))
      rw [e] at this
      cases this
    dsimp only
    refine seq_join (fun σ' H' => ∃ (m9 : Addr) (xs : List V) (ml : List Oh.El), σ' = [some (.ref sA), some gv, some (.ref rA), some (.ref mA), some (.ref sT), some (.ref l5A), some (.str (PyData.list [dE G, dT marks, dE (zN room)]).shown), some v7, some v8, some (.ref m9), none, none, none, none, none, none, none, none] ∧
      Stk sA gA fA H' ∧ Bt sA gA H15 H' ∧ H' m9 = some (.lst xs) ∧ Els H' xs ml ∧ ∀ x ∈ ml, Oh.MemE G x ∧ x ≠ Oh.zeroE G) ?_ (fun nx k => ?_)
    rotate_left
    · refine ⟨_, rfl, m0, _, rfl, .inl (SqL.of hm0'), _, _, rfl, rfl, _, rfl, ?_⟩
      refine ite2 (fun z => ?_) (fun _ => ?_)
      · have z' : (12 : Int) < (((ms9.drop 1).length : Nat) : Int) := of_decide_eq_true z
        refine ⟨4, rfl, by decide, by decide, fun D16 hD16 => ?_⟩
        refine lc_stk walk_range (by decide) hD16 st15 (fun i y H => ∃ x, EV H y x ∧ (Oh.MemE G x ∧ x ≠ Oh.zeroE G)) (fun _ _ _ _ t r => by obtain ⟨x, h1, h2⟩ := r; exact ⟨x, h1.mono t, h2⟩)
          (fun _ _ _ => trivial) (fun i t H16 H17 hi b16 st16 hy Q1 k1 => ?_) (fun ys H16 b16 st16 hD16' hp16 => ?_)
        · obtain ⟨rfl, rfl⟩ := hy
          refine ⟨rfl, _, rfl, _, rfl, sA, gA, fA, m0, _, rfl, st16, b16.lst hm0' nm0.1 nm0.2.1, nm0.1, nm0.2.1, by omega, by omega, fun j v H18 hj st18 b18 => ?_⟩
          obtain ⟨x, hx, hvx⟩ := Paired.get hdr hj
          exact k1 _ _ b18 st18 ⟨x, (hvx.mono (st15.tk b16)).mono (st16.tk b18), Oh.members_tail ok.pos (List.mem_of_getElem? hx)⟩
        · obtain ⟨nss, hn, _, hf⟩ := els_ex (F := fun x => Oh.MemE G x ∧ x ≠ Oh.zeroE G) hp16
          exact k _ _ ⟨D16, ys, nss, rfl, st16, b16, hD16', hn, hf⟩
      · exact k _ _ ⟨m0, _, _, rfl, st15, Bt.refl _ _ _, hm0', hdr, fun x hx => Oh.members_tail ok.pos hx⟩
    rintro σ H16 ⟨m9, xs, ml, rfl, st16, b16, hm9', hxs, hml⟩
    have t16 : Tk H7 H16 := Tk.trans (tk s7f) (st15.tk b16)
    have b016 := (b07.trans (Bt.of s7f)).trans b16
    have hl5A16 := b16.lst hl5A n5.1 n5.2
    have hl516 := Els.mono (st15.tk b16) hl5
    have hv716 := hv715.mono (st15.tk b16)
    have hv816 := hv815.mono (st15.tk b16)
    refine ⟨_, rfl, m9, xs, rfl, SqL.of hm9', for_it (walk_enum (xs := xs)) (fun i σ H' => ∃ (v10 v11 v12 v13 : Option V), σ = [some (.ref sA), some gv, some (.ref rA), some (.ref mA), some (.ref sT), some (.ref l5A), some (.str (PyData.list [dE G, dT marks, dE (zN room)]).shown), some v7, some v8, some (.ref m9), v10, v11, v12, v13, none, none, none, none] ∧ Same H16 H')
      ⟨none, none, none, none, rfl, L2.Same.refl H16⟩ (fun i σ H' _ ⟨_, _, _, _, _, s⟩ => SqL.of (s _ _ hm9')) ?_ ?_⟩
    · rintro i t σ H17 H18 hi ⟨v10, v11, v12, v13, rfl, s17⟩ hy
      obtain ⟨t, u, v, rfl, ht, rfl, h1, h2⟩ := hy
      cases h1
      obtain ⟨x, hx, hvx⟩ := Paired.get hxs h2
      obtain ⟨mx, nzx⟩ := hml x (List.mem_of_getElem? hx)
      have s18 := sm_new (o := HO.tup [V.int (i : Int), v]) ht
      refine ⟨t, _, rfl, SqT.of upd_same, rfl, _, _, rfl, _, _, rfl, rfl, ?_⟩
      have s168 := L2.Same.trans s17 s18
      generalize upd H17 t (HO.tup [V.int (i : Int), v]) = H18 at *
      have t18 := Tk.trans t16 (tk s168)
      refine ⟨_, rfl, _, rfl, _, rfl, _, rfl, G, marks, room, x, _, _, _, _, rfl, ok, hGT _ t18, hMT _ t18, hRT _ t18, hvx.mono (tk s168), le, l1, by omega, mm, mr, mx, fun dv H19 s19 hdv => ?_⟩
      have s169 := L2.Same.trans s168 s19
      have t19 := Tk.trans t16 (tk s169)
      dsimp only
      refine seq_join (fun σ' H' => ∃ tv, σ' = [some (.ref sA), some gv, some (.ref rA), some (.ref mA), some (.ref sT), some (.ref l5A), some (.str (PyData.list [dE G, dT marks, dE (zN room)]).shown), some v7, some v8, some (.ref m9), some (.int (i : Int)), some v, some dv, some tv, none, none, none, none] ∧ Same H19 H' ∧ BV H' tv (Oh.barE G marks room x)) ?_ (fun nx k => ?_)
      rotate_left
      · refine ⟨_, rfl, rfl, _, rfl, ?_⟩
        refine ite2 (fun _ => ?_) (fun _ => ?_)
        · exact ⟨_, rfl, _, rfl, _, rfl, _, rfl, G, marks, room, x, _, _, _, _, rfl, ok, hGT _ t19, hMT _ t19, hRT _ t19, hvx.mono (tk s169), le, by omega, mm, mr, mx, nzx, fun tv H20 s20 htv => k _ _ ⟨tv, rfl, s20, htv⟩⟩
        · exact ⟨_, rfl, _, rfl, _, rfl, _, rfl, G, marks, room, x, _, _, _, _, rfl, ok, hGT _ t19, hMT _ t19, hRT _ t19, hvx.mono (tk s169), le, by omega, mm, mr, mx, nzx, fun tv H20 s20 htv => k _ _ ⟨tv, rfl, s20, htv⟩⟩
      rintro σ H20 ⟨tv, rfl, s20, htv⟩
      have s16a := L2.Same.trans s169 s20
      have t20 := Tk.trans t16 (tk s16a)
      have hdv20 := hdv.mono (tk s20)
      have hx20 := hvx.mono (tk s16a)
      have fb := (fine_bar (room := room) (x := x) ok mm le l4).mono (show 4 ≤ 60 by decide) (show 2058 ≤ 1048576 by decide)
      have hmade : decide (x ∈ l7) = decide (x ∈ Oh.lastE G marks room [Oh.zeroE G]) := decide_eq_decide.mpr ((hl7 x).trans (made_in (room := room) ok.pos mm nzx).symm)
      refine ⟨_, rfl, tv, _, rfl, htv.ref_or, htv.dp, fb, _, rfl, dv, _, rfl, hdv20.ref_or, hdv20.dp, fb, rfl, _, rfl, ?_⟩
      rw [show (!decide (V.str (dB (Oh.barE G marks room x)).shown = V.str (dB (Oh.barE G marks room x)).shown)) = false by simp]
      refine ⟨_, rfl, rfl, _, rfl, _, rfl, _, _, hx20.dp, (hv716.mono (tk s16a)).dp, sh_E x, sh_T l7, rfl, _, rfl, ?_⟩
      rw [any_dE, hmade]
      have nextT : ∃ (v10 v11 v12 v13 : Option V), [some (V.ref sA), some gv, some (V.ref rA), some (V.ref mA), some (V.ref sT), some (V.ref l5A), some (V.str (PyData.list [dE G, dT marks, dE (zN room)]).shown), some v7, some v8, some (V.ref m9), some (V.int (i : Int)), some v, some dv, some tv, none, none, none, none] = [some (.ref sA), some gv, some (.ref rA), some (.ref mA), some (.ref sT), some (.ref l5A), some (.str (PyData.list [dE G, dT marks, dE (zN room)]).shown), some v7, some v8, some (.ref m9), v10, v11, v12, v13, none, none, none, none] := ⟨_, _, _, _, rfl⟩
      have hsp : decide (x ∈ l8) = decide (x ∈ l5) := decide_eq_decide.mpr ((hsp8 x).trans (hsp5 x).symm)
      cases hb : Oh.barE G marks room x with
      | no =>
        rw [hb] at hdv20
        cases hdv20
        have hin := bar_no hb
        rw [decide_eq_true hin]
        refine ⟨_, rfl, rfl, _, rfl, ?_⟩
        exact ⟨_, _, _, _, rfl, s16a⟩
      | char c =>
        obtain ⟨nin, nsp⟩ := bar_char ok mm mx hb
        have hdv21 := hdv20
        rw [hb] at hdv21
        obtain ⟨dA, cu, rfl, hdA, hcu⟩ := hdv21
        rw [decide_eq_false nin]
        have n5x : ¬ x ∈ l5 := fun h => nsp ((hsp5 x).mp h)
        refine ⟨_, rfl, rfl, _, rfl, ?_⟩
        refine ⟨_, rfl, dA, _, 0, _, rfl, rfl, SqT.of hdA, rfl, rfl, _, rfl, _, rfl, _, _, hx20.dp, .lst (SqL.of (s16a _ _ hl5A16)) (Els.dp (Els.mono (tk s16a) hl516)), sh_E x, sh_L l5, rfl, _, rfl, ?_⟩
        rw [any_dE, decide_eq_false n5x]
        refine ⟨_, rfl, _, rfl, _, _, hx20.dp, .lst (SqL.of (s16a _ _ hl5A16)) (Els.dp (Els.mono (tk s16a) hl516)), sh_E x, sh_L l5, _, rfl, _, rfl, _, _, hx20.dp, (hv816.mono (tk s16a)).dp, sh_E x, sh_T l8, rfl, _, rfl, ?_⟩
        rw [any_dE, any_dE, hsp, decide_eq_false n5x]
        refine ⟨_, rfl, _, rfl, _, rfl, _, rfl, _, rfl, G, marks, room, x, _, _, _, _, _, rfl, ok, hGT _ t20, hMT _ t20, hRT _ t20, hx20, htv, le, by omega, mm, mr, mx, nin, fun H21 s21 => ⟨true, true, rfl, rfl, _, rfl, ?_⟩⟩
        exact ⟨_, _, _, _, rfl, L2.Same.trans s16a s21⟩
      | sums r =>
        obtain ⟨nin, nsp⟩ := bar_sums ok mm mx hb
        have hdv21 := hdv20
        rw [hb] at hdv21
        obtain ⟨dA, cu, rfl, hdA, hcu⟩ := hdv21
        rw [decide_eq_false nin]
        have n5x : x ∈ l5 := (hsp5 x).mpr nsp
        refine ⟨_, rfl, rfl, _, rfl, ?_⟩
        refine ⟨_, rfl, dA, _, 0, _, rfl, rfl, SqT.of hdA, rfl, rfl, _, rfl, _, rfl, _, _, hx20.dp, .lst (SqL.of (s16a _ _ hl5A16)) (Els.dp (Els.mono (tk s16a) hl516)), sh_E x, sh_L l5, rfl, _, rfl, ?_⟩
        rw [any_dE, decide_eq_true n5x]
        refine ⟨_, rfl, _, rfl, _, _, hx20.dp, .lst (SqL.of (s16a _ _ hl5A16)) (Els.dp (Els.mono (tk s16a) hl516)), sh_E x, sh_L l5, _, rfl, _, rfl, _, _, hx20.dp, (hv816.mono (tk s16a)).dp, sh_E x, sh_T l8, rfl, _, rfl, ?_⟩
        rw [any_dE, any_dE, hsp, decide_eq_true n5x]
        refine ⟨_, rfl, _, rfl, _, rfl, _, rfl, _, rfl, G, marks, room, x, _, _, _, _, _, rfl, ok, hGT _ t20, hMT _ t20, hRT _ t20, hx20, htv, le, by omega, mm, mr, mx, nin, fun H21 s21 => ⟨true, true, rfl, rfl, _, rfl, ?_⟩⟩
        exact ⟨_, _, _, _, rfl, L2.Same.trans s16a s21⟩
    · rintro σ H17 ⟨v10, v11, v12, v13, rfl, s17⟩
      refine ⟨_, rfl, _, rfl, _, rfl, by show 3 ≤ sizeLine; decide, fun p9 hp9 => ?_⟩
      have s18 := sm_new (o := HO.lst [gv, .ref mA, .ref rA]) hp9
      have t18 := Tk.trans t16 (tk (L2.Same.trans s17 s18))
      refine ⟨.ref p9, _, rfl, .inr ⟨p9, rfl⟩, dp3 _ p9 t18 upd_same, fine3, _, rfl, rfl, ?_⟩
      rw [show decide (V.str (PyData.list [dE G, dT marks, dE (zN room)]).shown = V.str (PyData.list [dE G, dT marks, dE (zN room)]).shown) = true by simp]
      exact q _ (st16.same (L2.Same.trans s17 s18)) (b016.trans (Bt.of (L2.Same.trans s17 s18)))
end
end OhL

set_option Elab.async false
set_option linter.all false
set_option maxRecDepth 100000
set_option maxHeartbeats 4000000
/-! the law -/
namespace OhL
open PySem PySem.Spec PyProof.Rows L2
def tTTs : List (List (List Int)) → TA
  | [] => tNil
  | r :: rs => tCons (tTup (tTs r)) (tTTs rs)
theorem tTTs_run : ∀ {rs : List (List (List Int))} {σ : L2.St} {H : Hp} {Q : List V → Hp → Prop}, (∀ r ∈ rs, r.length ≤ 1000 ∧ ∀ ns ∈ r, ns.length ≤ 1000) → (∀ vs H', Same H H' → Paired (ET H') vs rs → Q vs H') → tTTs rs σ H Q
  | [], _, H, _, _, h => h [] H (L2.Same.refl H) .nil
  | r :: rs, σ, H, Q, hl, h => by
    show tTs r σ H fun vs H1 => vs.length ≤ sizeLine ∧ ∀ p, H1 p = none → tTTs rs σ (upd H1 p (.tup vs)) fun xs H2 => Q (V.ref p :: xs) H2
    obtain ⟨h1, h2⟩ := hl r List.mem_cons_self
    refine tTs_run h2 fun vs H1 s1 hv => ⟨?_, fun p hp => ?_⟩
    · have := Paired.length hv
      exact Nat.le_of_lt (line_big (by omega))
    · have s2 := sm_new (o := HO.tup vs) hp
      refine tTTs_run (fun n hn => hl n (List.mem_cons_of_mem _ hn)) fun us H' s hu => ?_
      exact h _ _ (L2.Same.trans s1 (L2.Same.trans s2 s)) (.cons ⟨p, vs, rfl, s _ _ upd_same, Els.mono (tk (L2.Same.trans s2 s)) hv⟩ hu)
section
variable {P : Program} {w : World} {K : PySem.W.Frag} {mg : Str → Option Value} {base : Heap}
abbrev sLaw : Stmt := top 39
abbrev nLaw : List Str := ["_law_script", "_law_stock_here", "_law_turn", "_law_marks", "_law_told", "_law_due_here"]
theorem scLaw : FnScope nLaw ["_law_script"] (defScope sLaw) := ⟨rfl, rfl, rfl, by decide +kernel, rfl, by decide +kernel, by decide +kernel⟩
def spLaw (K : PySem.W.Frag) : Sp := fun vs H Q _ => ∃ (a : Addr) (ns : List Int), vs = [.ref a] ∧ SqL K H a (ns.map V.int) ∧ ns.length ≤ 63 ∧ ∀ H', Q (.bl true) H'
def lMarks : List Oh.El := [[1], [2], [3]]
def lRows : List (List (List Int)) := [[[0], [1]], [[0], [1]], [[0], [1], [3]]]
theorem bar1 : Oh.barE [4] lMarks [1, 0, 1] [2] = .sums lRows := by decide +kernel
theorem bar2 : Oh.barE [4] lMarks [0, 1, 0] [1] = .char [2] := by decide +kernel
theorem bar3 : Oh.barE [4] lMarks [0, 0, 0] [2] = .char [1] := by decide +kernel
theorem ok4 : OkG [4] := okG_of (by decide)
theorem mMarks : ∀ m ∈ lMarks, Oh.MemE [4] m := fun m hm => Oh.memB_iff.mp ((by decide : ∀ m ∈ lMarks, Oh.memB [4] m = true) m hm)
theorem ok_law (T : Glob mg) (C : All P w K mg base) (R : KeptG P w K mg base 6 "_law_is_right" ["_law_stock_here"] spR) {f : Addr} {fd : FuncData} (F : Fun K "law" "law" sLaw f fd) : FnG P w K mg base 7 f fd ["_law_script"] (spLaw K) := by
  obtain ⟨fr, fdr, FR, hmr, kpr, br⟩ := R.ex
  refine fng_body F scLaw (fun vs H Q E h => ?_) (fun cdv A outer s H vs Q E hgu hr h => ?_)
  · obtain ⟨a, ns, rfl, _⟩ := h
    rfl
  · obtain ⟨a, ns, rfl, ha, ln, q⟩ := h
    have hgX : (A.deeper (envOfC "law" (defScope sLaw) s.heap.objs.size f cdv)).guards = some [] := hgu
    refine ⟨_, pss_cons (ps_set (i := 1) scLaw.nd rfl (Or.inl rfl) (pe_k C.cS hr (by decide) (by rfl) (pa_cons (pv 0) pa_nil)))
      (pss_cons (ps_for PassesOwn.never rfl (pi_range1 (by rfl) T.range (pa_cons pe_int pa_nil)) (pg_name (i := 2) scLaw.nd rfl (Or.inl rfl))
        (pss_one (ps_if (pt_not (pt_val (pe_callG FR hgX (hr.mono (by decide)) (by rfl) hmr kpr br (pa_cons (pv 1) pa_nil)))) (pss_one (ps_ret pe_bl)) pss_nil)))
      (pss_cons (ps_set (i := 3) scLaw.nd rfl (Or.inl rfl) (pe_tup (t := tTs lMarks) (pa_cons (pe_tup (pa_cons pe_int pa_nil)) (pa_cons (pe_tup (pa_cons pe_int pa_nil)) (pa_cons (pe_tup (pa_cons pe_int pa_nil)) pa_nil)))))
      (pss_cons (ps_set (i := 4) scLaw.nd rfl (Or.inl rfl) (pe_lst (pa_cons (pe_k C.cB hr (by decide) (by rfl) (pa_cons (pe_tup (t := tIn [4]) (pa_cons pe_int pa_nil)) (pa_cons (pv 3) (pa_cons (pe_tup (t := tIn [1, 0, 1]) (pa_cons pe_int (pa_cons pe_int (pa_cons pe_int pa_nil)))) (pa_cons (pe_tup (t := tIn [2]) (pa_cons pe_int pa_nil)) pa_nil)))))
        (pa_cons (pe_k C.cB hr (by decide) (by rfl) (pa_cons (pe_tup (t := tIn [4]) (pa_cons pe_int pa_nil)) (pa_cons (pv 3) (pa_cons (pe_tup (t := tIn [0, 1, 0]) (pa_cons pe_int (pa_cons pe_int (pa_cons pe_int pa_nil)))) (pa_cons (pe_tup (t := tIn [1]) (pa_cons pe_int pa_nil)) pa_nil)))))
        (pa_cons (pe_k C.cB hr (by decide) (by rfl) (pa_cons (pe_tup (t := tIn [4]) (pa_cons pe_int pa_nil)) (pa_cons (pv 3) (pa_cons (pe_tup (t := tIn [0, 0, 0]) (pa_cons pe_int (pa_cons pe_int (pa_cons pe_int pa_nil)))) (pa_cons (pe_tup (t := tIn [2]) (pa_cons pe_int pa_nil)) pa_nil))))) pa_nil)))))
      (pss_cons (ps_set (i := 5) scLaw.nd rfl (Or.inl rfl) (pe_lst (pa_cons (pe_tup (pa_cons pe_str (pa_cons (pe_tup (t := tTTs lRows) (pa_cons (pe_tup (pa_cons (pe_tup (pa_cons pe_int pa_nil)) (pa_cons (pe_tup (pa_cons pe_int pa_nil)) pa_nil)))
            (pa_cons (pe_tup (pa_cons (pe_tup (pa_cons pe_int pa_nil)) (pa_cons (pe_tup (pa_cons pe_int pa_nil)) pa_nil)))
            (pa_cons (pe_tup (pa_cons (pe_tup (pa_cons pe_int pa_nil)) (pa_cons (pe_tup (pa_cons pe_int pa_nil)) (pa_cons (pe_tup (pa_cons pe_int pa_nil)) pa_nil)))) pa_nil)))) pa_nil)))
          (pa_cons (pe_tup (pa_cons pe_str (pa_cons (pe_tup (t := tIn [2]) (pa_cons pe_int pa_nil)) pa_nil))) (pa_cons (pe_tup (pa_cons pe_str (pa_cons (pe_tup (t := tIn [1]) (pa_cons pe_int pa_nil)) pa_nil))) pa_nil)))))
      (pss_one (ps_ret (pe_cmpR op_eq (pe_callB (cr_reprD hgX hr.units) (by rfl) T.repr (by decide +kernel) (pa_cons (pv 4) pa_nil)) (pe_callB (cr_reprD hgX hr.units) (by rfl) T.repr (by decide +kernel) (pa_cons (pv 5) pa_nil)) (nomark _)))))))), ?_⟩
    refine ⟨_, rfl, a, ns, rfl, ha, by omega, fun sA gA fA H1 s1 st1 _ _ => ?_⟩
    refine ⟨3, rfl, by decide, by decide, ?_⟩
    refine for_range (lo := 0) (n := 3) (fun i σ H' => ∃ (v2 : Option V), σ = [some (.ref a), some (.ref sA), v2, none, none, none] ∧ Stk sA gA fA H') ⟨none, rfl, st1⟩ ?_ ?_
    · rintro i σ H2 hi ⟨v2, rfl, st2⟩
      exact ⟨_, rfl, sA, gA, fA, rfl, st2, fun H3 st3 _ => ⟨true, rfl, some (.int (0 + (i : Int))), rfl, st3⟩⟩
    rintro σ H2 ⟨v2, rfl, _⟩
    refine tTs_run (by decide) fun vm H3 s3 hm => ⟨by rw [Paired.length hm]; decide, fun mA hmA => ?_⟩
    have s4 := sm_new (o := HO.tup vm) hmA
    have hM : ET (upd H3 mA (.tup vm)) (.ref mA) lMarks := ⟨mA, vm, rfl, upd_same, Els.mono (tk s4) hm⟩
    generalize upd H3 mA (HO.tup vm) = H4 at *
    -- one told bar
    have told : ∀ (room : List Nat) (x : Oh.El) (H5 : Hp) (Q1 : VK), Same H4 H5 → room.length = 3 → (∀ n ∈ room, n ≤ 1) → x.length ≤ 1000 → Oh.memB [4] x = true → x ≠ Oh.zeroE [4] → (∀ v H6, Same H5 H6 → BV H6 v (Oh.barE [4] lMarks room x) → Q1 v H6) →
        tCall spBar [] E0 (tCons (tTup (tIn [4])) (tCons (tVar 3) (tCons (tTup (tIn (zN room))) (tCons (tTup (tIn x)) tNil)))) [some (.ref a), some (.ref sA), v2, some (.ref mA), none, none] H5 Q1 := by
      intro room x H5 Q1 s5 lr mr lx mx nz k
      dsimp only [tCall, tCons, tTup]
      refine tIn_run ⟨by show 1 ≤ sizeLine; decide, fun p1 hp1 => ⟨_, rfl, ?_⟩⟩
      have t1 := sm_new (o := HO.tup (([4] : List Int).map V.int)) hp1
      refine tIn_run ⟨by rw [List.length_map, zN_len, lr]; decide, fun p2 hp2 => ?_⟩
      have t2 := sm_new (o := HO.tup ((zN room).map V.int)) hp2
      refine tIn_run ⟨by rw [List.length_map]; exact Nat.le_of_lt (line_big (by omega)), fun p3 hp3 => ?_⟩
      have t3 := sm_new (o := HO.tup (x.map V.int)) hp3
      have t13 := L2.Same.trans t1 (L2.Same.trans t2 t3)
      exact ⟨[4], lMarks, room, x, _, _, _, _, rfl, ok4, ⟨p1, rfl, L2.Same.trans t2 t3 _ _ upd_same⟩, hM.mono (tk (L2.Same.trans s5 t13)), ⟨p2, rfl, t3 _ _ upd_same⟩, ⟨p3, rfl, upd_same⟩, lr.symm, by decide, mMarks, fun n hn => Nat.le_trans (mr n hn) (by decide), Oh.memB_iff.mp mx, nz, fun v H6 s6 hv => k v H6 (L2.Same.trans t13 s6) hv⟩
    refine told [1, 0, 1] [2] H4 _ (L2.Same.refl H4) rfl (by decide) (by decide) (by decide) (by decide) fun w1 H5 s5 hw1 => ?_
    refine told [0, 1, 0] [1] H5 _ s5 rfl (by decide) (by decide) (by decide) (by decide) fun w2 H6 s6 hw2 => ?_
    refine told [0, 0, 0] [2] H6 _ (L2.Same.trans s5 s6) rfl (by decide) (by decide) (by decide) (by decide) fun w3 H7 s7 hw3 => ?_
    rw [bar1] at hw1
    rw [bar2] at hw2
    rw [bar3] at hw3
    refine ⟨by show 3 ≤ sizeLine; decide, fun tA htA => ?_⟩
    have s8 := sm_new (o := HO.lst [w1, w2, w3]) htA
    have hT : (upd H7 tA (.lst [w1, w2, w3])) tA = some (.lst [w1, w2, w3]) := upd_same
    have hw18 := hw1.mono (tk (L2.Same.trans s6 (L2.Same.trans s7 s8)))
    have hw28 := hw2.mono (tk (L2.Same.trans s7 s8))
    have hw38 := hw3.mono (tk s8)
    generalize upd H7 tA (HO.lst [w1, w2, w3]) = H8 at *
    -- the due ones
    refine tTTs_run (by decide) fun vr H9 s9 hv9 => ⟨by rw [Paired.length hv9]; decide, fun rA hrA => ⟨by show 2 ≤ sizeLine; decide, fun d1 hd1 => ?_⟩⟩
    have s10 := sm_new (o := HO.tup vr) hrA
    have s11 := sm_new (o := HO.tup [V.str "sums", .ref rA]) hd1
    have hd1v : BV (upd (upd H9 rA (.tup vr)) d1 (.tup [V.str "sums", .ref rA])) (.ref d1) (.sums lRows) := ⟨d1, _, rfl, upd_same, rA, vr, rfl, s11 _ _ upd_same, ets_mono (tk (L2.Same.trans s10 s11)) hv9⟩
    have s8b := L2.Same.trans s9 (L2.Same.trans s10 s11)
    generalize upd (upd H9 rA (HO.tup vr)) d1 (HO.tup [V.str "sums", .ref rA]) = H11 at *
    refine tIn_run ⟨by show 1 ≤ sizeLine; decide, fun c2 hc2 => ⟨by show 2 ≤ sizeLine; decide, fun d2 hd2 => ?_⟩⟩
    have s12 := sm_new (o := HO.tup (([2] : List Int).map V.int)) hc2
    have s13 := sm_new (o := HO.tup [V.str "character", .ref c2]) hd2
    have hd2v : BV (upd (upd H11 c2 (.tup (([2] : List Int).map V.int))) d2 (.tup [V.str "character", .ref c2])) (.ref d2) (.char [2]) := ⟨d2, _, rfl, upd_same, c2, rfl, s13 _ _ upd_same⟩
    have s8c := L2.Same.trans s12 s13
    generalize upd (upd H11 c2 (HO.tup (([2] : List Int).map V.int))) d2 (HO.tup [V.str "character", .ref c2]) = H13 at *
    refine tIn_run ⟨by show 1 ≤ sizeLine; decide, fun c3 hc3 => ⟨by show 2 ≤ sizeLine; decide, fun d3 hd3 => ⟨by show 3 ≤ sizeLine; decide, fun dA hdA => ?_⟩⟩⟩
    have s14 := sm_new (o := HO.tup (([1] : List Int).map V.int)) hc3
    have s15 := sm_new (o := HO.tup [V.str "character", .ref c3]) hd3
    have s16 := sm_new (o := HO.lst [V.ref d1, .ref d2, .ref d3]) hdA
    have hd3v : BV (upd (upd (upd H13 c3 (.tup (([1] : List Int).map V.int))) d3 (.tup [V.str "character", .ref c3])) dA (.lst [V.ref d1, .ref d2, .ref d3])) (.ref d3) (.char [1]) := ⟨d3, _, rfl, s16 _ _ upd_same, c3, rfl, L2.Same.trans s15 s16 _ _ upd_same⟩
    have hD : (upd (upd (upd H13 c3 (.tup (([1] : List Int).map V.int))) d3 (.tup [V.str "character", .ref c3])) dA (.lst [V.ref d1, .ref d2, .ref d3])) dA = some (.lst [V.ref d1, .ref d2, .ref d3]) := upd_same
    have s8d := L2.Same.trans s14 (L2.Same.trans s15 s16)
    generalize (upd (upd (upd H13 c3 (HO.tup (([1] : List Int).map V.int))) d3 (HO.tup [V.str "character", .ref c3])) dA (HO.lst [V.ref d1, .ref d2, .ref d3])) = H16 at *
    have s8e := L2.Same.trans s8b (L2.Same.trans s8c s8d)
    have dTold : Dp K H16 (.ref tA) (.list [dB (.sums lRows), dB (.char [2]), dB (.char [1])]) := .lst (SqL.of (s8e _ _ hT)) (.cons (hw18.mono (tk s8e)).dp (.cons (hw28.mono (tk s8e)).dp (.cons (hw38.mono (tk s8e)).dp .nil)))
    have dDue : Dp K H16 (.ref dA) (.list [dB (.sums lRows), dB (.char [2]), dB (.char [1])]) := .lst (SqL.of hD) (.cons (hd1v.mono (tk (L2.Same.trans s8c s8d))).dp (.cons (hd2v.mono (tk s8d)).dp (.cons hd3v.dp .nil)))
    have fine : Fine 60 1048576 (.list [dB (.sums lRows), dB (.char [2]), dB (.char [1])]) := by
      have f1 := fine_bar (room := [1, 0, 1]) (x := [2]) ok4 mMarks rfl (by decide)
      have f2 := fine_bar (room := [0, 1, 0]) (x := [1]) ok4 mMarks rfl (by decide)
      have f3 := fine_bar (room := [0, 0, 0]) (x := [2]) ok4 mMarks rfl (by decide)
      rw [bar1] at f1
      rw [bar2] at f2
      rw [bar3] at f3
      suffices h : Fine 5 (3 * 2059) (.list [dB (.sums lRows), dB (.char [2]), dB (.char [1])]) from h.mono (by decide) (by decide)
      refine fine_list (k := 4) (n := 2058) (m := 3) (fun d hd => ?_) (Nat.le_refl 3)
      rcases List.mem_cons.mp hd with rfl | hd
      · exact f1
      · rcases List.mem_cons.mp hd with rfl | hd
        · exact f2
        · have e : d = dB (.char [1]) := by simpa using hd
          rw [e]
          exact f3
    refine ⟨_, rfl, .ref tA, _, rfl, .inr ⟨tA, rfl⟩, dTold, fine, _, rfl, .ref dA, _, rfl, .inr ⟨dA, rfl⟩, dDue, fine, rfl, ?_⟩
    rw [show decide (V.str (PyData.list [dB (.sums lRows), dB (.char [2]), dB (.char [1])]).shown = V.str (PyData.list [dB (.sums lRows), dB (.char [2]), dB (.char [1])]).shown) = true by simp]
    exact q _
end
end OhL

set_option Elab.async false
set_option linter.all false
set_option maxRecDepth 100000
set_option maxHeartbeats 8000000
/-! what the top has written; the head -/
namespace OhL
open PySem PySem.Spec PyProof.Rows L2
theorem all_mk {l : PySem.W.OpenLaw} {w : World} {K : PySem.W.Frag} {h : Heap} {mg : Str → Option Value} {fa f1 f2 f3 f4 f5 f6 f7 f8 f9 f10 f11 f12 f13 f14 f15 f16 f17 f18 f19 f20 f21 f22 f23 f24 f25 f26 f27 f28 f29 f30 f31 f32 f33 f34 : Addr} (X : K.In h) (G : h.Ns mainGlobals mg) (hfa : mg "law" = some (.ref fa))
    {od1 an1 od2 an2 od3 an3 od4 an4 od5 an5 od6 an6 od7 an7 od8 an8 od9 an9 od10 an10 od11 an11 od12 an12 od13 an13 od14 an14 od15 an15 od16 an16 od17 an17 od18 an18 od19 an19 od20 an20 od21 an21 od22 an22 od23 an23 od24 an24 od25 an25 od26 an26 od27 an27 od28 an28 od29 an29 od30 an30 od31 an31 od32 an32 od33 an33 od34 an34 : Option Addr} {sl1 sl2 sl3 sl4 sl5 sl6 sl7 sl8 sl9 sl10 sl11 sl12 sl13 sl14 sl15 sl16 sl17 sl18 sl19 sl20 sl21 sl22 sl23 sl24 sl25 sl26 sl27 sl28 sl29 sl30 sl31 sl32 sl33 sl34 : Array (Option Value)} {oc1 kV1 dc1 pm1 cd1 ct1 oc2 kV2 dc2 pm2 cd2 ct2 oc3 kV3 dc3 pm3 cd3 ct3 oc4 kV4 dc4 pm4 cd4 ct4 oc5 kV5 dc5 pm5 cd5 ct5 oc6 kV6 dc6 pm6 cd6 ct6 oc7 kV7 dc7 pm7 cd7 ct7 oc8 kV8 dc8 pm8 cd8 ct8 oc9 kV9 dc9 pm9 cd9 ct9 oc10 kV10 dc10 pm10 cd10 ct10 oc11 kV11 dc11 pm11 cd11 ct11 oc12 kV12 dc12 pm12 cd12 ct12 oc13 kV13 dc13 pm13 cd13 ct13 oc14 kV14 dc14 pm14 cd14 ct14 oc15 kV15 dc15 pm15 cd15 ct15 oc16 kV16 dc16 pm16 cd16 ct16 oc17 kV17 dc17 pm17 cd17 ct17 oc18 kV18 dc18 pm18 cd18 ct18 oc19 kV19 dc19 pm19 cd19 ct19 oc20 kV20 dc20 pm20 cd20 ct20 oc21 kV21 dc21 pm21 cd21 ct21 oc22 kV22 dc22 pm22 cd22 ct22 oc23 kV23 dc23 pm23 cd23 ct23 oc24 kV24 dc24 pm24 cd24 ct24 oc25 kV25 dc25 pm25 cd25 ct25 oc26 kV26 dc26 pm26 cd26 ct26 oc27 kV27 dc27 pm27 cd27 ct27 oc28 kV28 dc28 pm28 cd28 ct28 oc29 kV29 dc29 pm29 cd29 ct29 oc30 kV30 dc30 pm30 cd30 ct30 oc31 kV31 dc31 pm31 cd31 ct31 oc32 kV32 dc32 pm32 cd32 ct32 oc33 kV33 dc33 pm33 cd33 ct33 oc34 kV34 dc34 pm34 cd34 ct34 : Value}
    (a1 : PySem.W.nsIn K mainGlobals "is_integer" = some (some (.ref f1))) (l1 : K.lookup f1 = some ⟨oc1, od1, .func (PySem.W.fnOf "is_integer" "is_integer" (defArgs sIsInt) (defBody sIsInt) (defScope sIsInt) .none kV1 dc1 pm1 an1 cd1 ct1), sl1⟩) (c1 : PySem.W.codeIn K cd1 "is_integer" = true) (k1 : PySem.W.keepIn K (.ref f1) = true)
    (a2 : PySem.W.nsIn K mainGlobals "zero_of" = some (some (.ref f2))) (l2 : K.lookup f2 = some ⟨oc2, od2, .func (PySem.W.fnOf "zero_of" "zero_of" (defArgs sZero) (defBody sZero) (defScope sZero) .none kV2 dc2 pm2 an2 cd2 ct2), sl2⟩) (c2 : PySem.W.codeIn K cd2 "zero_of" = true) (k2 : PySem.W.keepIn K (.ref f2) = true)
    (a3 : PySem.W.nsIn K mainGlobals "is_member" = some (some (.ref f3))) (l3 : K.lookup f3 = some ⟨oc3, od3, .func (PySem.W.fnOf "is_member" "is_member" (defArgs sIsMem) (defBody sIsMem) (defScope sIsMem) .none kV3 dc3 pm3 an3 cd3 ct3), sl3⟩) (c3 : PySem.W.codeIn K cd3 "is_member" = true) (k3 : PySem.W.keepIn K (.ref f3) = true)
    (a4 : PySem.W.nsIn K mainGlobals "lengthened" = some (some (.ref f4))) (l4 : K.lookup f4 = some ⟨oc4, od4, .func (PySem.W.fnOf "lengthened" "lengthened" (defArgs sLen) (defBody sLen) (defScope sLen) .none kV4 dc4 pm4 an4 cd4 ct4), sl4⟩) (c4 : PySem.W.codeIn K cd4 "lengthened" = true) (k4 : PySem.W.keepIn K (.ref f4) = true)
    (a5 : PySem.W.nsIn K mainGlobals "group_members" = some (some (.ref f5))) (l5 : K.lookup f5 = some ⟨oc5, od5, .func (PySem.W.fnOf "group_members" "group_members" (defArgs sMem) (defBody sMem) (defScope sMem) .none kV5 dc5 pm5 an5 cd5 ct5), sl5⟩) (c5 : PySem.W.codeIn K cd5 "group_members" = true) (k5 : PySem.W.keepIn K (.ref f5) = true)
    (a6 : PySem.W.nsIn K mainGlobals "added" = some (some (.ref f6))) (l6 : K.lookup f6 = some ⟨oc6, od6, .func (PySem.W.fnOf "added" "added" (defArgs sAdded) (defBody sAdded) (defScope sAdded) .none kV6 dc6 pm6 an6 cd6 ct6), sl6⟩) (c6 : PySem.W.codeIn K cd6 "added" = true) (k6 : PySem.W.keepIn K (.ref f6) = true)
    (a7 : PySem.W.nsIn K mainGlobals "repeated" = some (some (.ref f7))) (l7 : K.lookup f7 = some ⟨oc7, od7, .func (PySem.W.fnOf "repeated" "repeated" (defArgs sRep) (defBody sRep) (defScope sRep) .none kV7 dc7 pm7 an7 cd7 ct7), sl7⟩) (c7 : PySem.W.codeIn K cd7 "repeated" = true) (k7 : PySem.W.keepIn K (.ref f7) = true)
    (a8 : PySem.W.nsIn K mainGlobals "span" = some (some (.ref f8))) (l8 : K.lookup f8 = some ⟨oc8, od8, .func (PySem.W.fnOf "span" "span" (defArgs sSpan) (defBody sSpan) (defScope sSpan) .none kV8 dc8 pm8 an8 cd8 ct8), sl8⟩) (c8 : PySem.W.codeIn K cd8 "span" = true) (k8 : PySem.W.keepIn K (.ref f8) = true)
    (a9 : PySem.W.nsIn K mainGlobals "kills" = some (some (.ref f9))) (l9 : K.lookup f9 = some ⟨oc9, od9, .func (PySem.W.fnOf "kills" "kills" (defArgs sKills) (defBody sKills) (defScope sKills) .none kV9 dc9 pm9 an9 cd9 ct9), sl9⟩) (c9 : PySem.W.codeIn K cd9 "kills" = true) (k9 : PySem.W.keepIn K (.ref f9) = true)
    (a10 : PySem.W.nsIn K mainGlobals "characters" = some (some (.ref f10))) (l10 : K.lookup f10 = some ⟨oc10, od10, .func (PySem.W.fnOf "characters" "characters" (defArgs sChars) (defBody sChars) (defScope sChars) .none kV10 dc10 pm10 an10 cd10 ct10), sl10⟩) (c10 : PySem.W.codeIn K cd10 "characters" = true) (k10 : PySem.W.keepIn K (.ref f10) = true)
    (a11 : PySem.W.nsIn K mainGlobals "makes" = some (some (.ref f11))) (l11 : K.lookup f11 = some ⟨oc11, od11, .func (PySem.W.fnOf "makes" "makes" (defArgs sMakes) (defBody sMakes) (defScope sMakes) .none kV11 dc11 pm11 an11 cd11 ct11), sl11⟩) (c11 : PySem.W.codeIn K cd11 "makes" = true) (k11 : PySem.W.keepIn K (.ref f11) = true)
    (a12 : PySem.W.nsIn K mainGlobals "open_marks" = some (some (.ref f12))) (l12 : K.lookup f12 = some ⟨oc12, od12, .func (PySem.W.fnOf "open_marks" "open_marks" (defArgs sOpen) (defBody sOpen) (defScope sOpen) .none kV12 dc12 pm12 an12 cd12 ct12), sl12⟩) (c12 : PySem.W.codeIn K cd12 "open_marks" = true) (k12 : PySem.W.keepIn K (.ref f12) = true)
    (a13 : PySem.W.nsIn K mainGlobals "steps_of" = some (some (.ref f13))) (l13 : K.lookup f13 = some ⟨oc13, od13, .func (PySem.W.fnOf "steps_of" "steps_of" (defArgs sSteps) (defBody sSteps) (defScope sSteps) .none kV13 dc13 pm13 an13 cd13 ct13), sl13⟩) (c13 : PySem.W.codeIn K cd13 "steps_of" = true) (k13 : PySem.W.keepIn K (.ref f13) = true)
    (a14 : PySem.W.nsIn K mainGlobals "rows_of_room" = some (some (.ref f14))) (l14 : K.lookup f14 = some ⟨oc14, od14, .func (PySem.W.fnOf "rows_of_room" "rows_of_room" (defArgs sRoom) (defBody sRoom) (defScope sRoom) .none kV14 dc14 pm14 an14 cd14 ct14), sl14⟩) (c14 : PySem.W.codeIn K cd14 "rows_of_room" = true) (k14 : PySem.W.keepIn K (.ref f14) = true)
    (a15 : PySem.W.nsIn K mainGlobals "bar" = some (some (.ref f15))) (l15 : K.lookup f15 = some ⟨oc15, od15, .func (PySem.W.fnOf "bar" "bar" (defArgs sBar) (defBody sBar) (defScope sBar) .none kV15 dc15 pm15 an15 cd15 ct15), sl15⟩) (c15 : PySem.W.codeIn K cd15 "bar" = true) (k15 : PySem.W.keepIn K (.ref f15) = true)
    (a16 : PySem.W.nsIn K mainGlobals "is_killing" = some (some (.ref f16))) (l16 : K.lookup f16 = some ⟨oc16, od16, .func (PySem.W.fnOf "is_killing" "is_killing" (defArgs sIsK) (defBody sIsK) (defScope sIsK) .none kV16 dc16 pm16 an16 cd16 ct16), sl16⟩) (c16 : PySem.W.codeIn K cd16 "is_killing" = true) (k16 : PySem.W.keepIn K (.ref f16) = true)
    (a17 : PySem.W.nsIn K mainGlobals "is_row" = some (some (.ref f17))) (l17 : K.lookup f17 = some ⟨oc17, od17, .func (PySem.W.fnOf "is_row" "is_row" (defArgs sIsRow) (defBody sIsRow) (defScope sIsRow) .none kV17 dc17 pm17 an17 cd17 ct17), sl17⟩) (c17 : PySem.W.codeIn K cd17 "is_row" = true) (k17 : PySem.W.keepIn K (.ref f17) = true)
    (a18 : PySem.W.nsIn K mainGlobals "are_closed" = some (some (.ref f18))) (l18 : K.lookup f18 = some ⟨oc18, od18, .func (PySem.W.fnOf "are_closed" "are_closed" (defArgs sAreC) (defBody sAreC) (defScope sAreC) .none kV18 dc18 pm18 an18 cd18 ct18), sl18⟩) (c18 : PySem.W.codeIn K cd18 "are_closed" = true) (k18 : PySem.W.keepIn K (.ref f18) = true)
    (a19 : PySem.W.nsIn K mainGlobals "bar_holds" = some (some (.ref f19))) (l19 : K.lookup f19 = some ⟨oc19, od19, .func (PySem.W.fnOf "bar_holds" "bar_holds" (defArgs sHolds) (defBody sHolds) (defScope sHolds) .none kV19 dc19 pm19 an19 cd19 ct19), sl19⟩) (c19 : PySem.W.codeIn K cd19 "bar_holds" = true) (k19 : PySem.W.keepIn K (.ref f19) = true)
    (a20 : PySem.W.nsIn K mainGlobals "_law_stock" = some (some (.ref f20))) (l20 : K.lookup f20 = some ⟨oc20, od20, .func (PySem.W.fnOf "_law_stock" "_law_stock" (defArgs sStock) (defBody sStock) (defScope sStock) .none kV20 dc20 pm20 an20 cd20 ct20), sl20⟩) (c20 : PySem.W.codeIn K cd20 "_law_stock" = true) (k20 : PySem.W.keepIn K (.ref f20) = true)
    (a21 : PySem.W.nsIn K mainGlobals "_law_draw" = some (some (.ref f21))) (l21 : K.lookup f21 = some ⟨oc21, od21, .func (PySem.W.fnOf "_law_draw" "_law_draw" (defArgs sDraw) (defBody sDraw) (defScope sDraw) .none kV21 dc21 pm21 an21 cd21 ct21), sl21⟩) (c21 : PySem.W.codeIn K cd21 "_law_draw" = true) (k21 : PySem.W.keepIn K (.ref f21) = true)
    (a22 : PySem.W.nsIn K mainGlobals "_law_pick" = some (some (.ref f22))) (l22 : K.lookup f22 = some ⟨oc22, od22, .func (PySem.W.fnOf "_law_pick" "_law_pick" (defArgs sPick) (defBody sPick) (defScope sPick) .none kV22 dc22 pm22 an22 cd22 ct22), sl22⟩) (c22 : PySem.W.codeIn K cd22 "_law_pick" = true) (k22 : PySem.W.keepIn K (.ref f22) = true)
    (a23 : PySem.W.nsIn K mainGlobals "_law_members" = some (some (.ref f23))) (l23 : K.lookup f23 = some ⟨oc23, od23, .func (PySem.W.fnOf "_law_members" "_law_members" (defArgs sMems) (defBody sMems) (defScope sMems) .none kV23 dc23 pm23 an23 cd23 ct23), sl23⟩) (c23 : PySem.W.codeIn K cd23 "_law_members" = true) (k23 : PySem.W.keepIn K (.ref f23) = true)
    (a24 : PySem.W.nsIn K mainGlobals "_law_group" = some (some (.ref f24))) (l24 : K.lookup f24 = some ⟨oc24, od24, .func (PySem.W.fnOf "_law_group" "_law_group" (defArgs sGrp) (defBody sGrp) (defScope sGrp) .none kV24 dc24 pm24 an24 cd24 ct24), sl24⟩) (c24 : PySem.W.codeIn K cd24 "_law_group" = true) (k24 : PySem.W.keepIn K (.ref f24) = true)
    (a25 : PySem.W.nsIn K mainGlobals "_law_element" = some (some (.ref f25))) (l25 : K.lookup f25 = some ⟨oc25, od25, .func (PySem.W.fnOf "_law_element" "_law_element" (defArgs sEle) (defBody sEle) (defScope sEle) .none kV25 dc25 pm25 an25 cd25 ct25), sl25⟩) (c25 : PySem.W.codeIn K cd25 "_law_element" = true) (k25 : PySem.W.keepIn K (.ref f25) = true)
    (a26 : PySem.W.nsIn K mainGlobals "_law_plus" = some (some (.ref f26))) (l26 : K.lookup f26 = some ⟨oc26, od26, .func (PySem.W.fnOf "_law_plus" "_law_plus" (defArgs sPlus) (defBody sPlus) (defScope sPlus) .none kV26 dc26 pm26 an26 cd26 ct26), sl26⟩) (c26 : PySem.W.codeIn K cd26 "_law_plus" = true) (k26 : PySem.W.keepIn K (.ref f26) = true)
    (a27 : PySem.W.nsIn K mainGlobals "_law_kills" = some (some (.ref f27))) (l27 : K.lookup f27 = some ⟨oc27, od27, .func (PySem.W.fnOf "_law_kills" "_law_kills" (defArgs sLK) (defBody sLK) (defScope sLK) .none kV27 dc27 pm27 an27 cd27 ct27), sl27⟩) (c27 : PySem.W.codeIn K cd27 "_law_kills" = true) (k27 : PySem.W.keepIn K (.ref f27) = true)
    (a28 : PySem.W.nsIn K mainGlobals "_law_spanned" = some (some (.ref f28))) (l28 : K.lookup f28 = some ⟨oc28, od28, .func (PySem.W.fnOf "_law_spanned" "_law_spanned" (defArgs sSpd) (defBody sSpd) (defScope sSpd) .none kV28 dc28 pm28 an28 cd28 ct28), sl28⟩) (c28 : PySem.W.codeIn K cd28 "_law_spanned" = true) (k28 : PySem.W.keepIn K (.ref f28) = true)
    (a29 : PySem.W.nsIn K mainGlobals "_law_rows" = some (some (.ref f29))) (l29 : K.lookup f29 = some ⟨oc29, od29, .func (PySem.W.fnOf "_law_rows" "_law_rows" (defArgs sLR) (defBody sLR) (defScope sLR) .none kV29 dc29 pm29 an29 cd29 ct29), sl29⟩) (c29 : PySem.W.codeIn K cd29 "_law_rows" = true) (k29 : PySem.W.keepIn K (.ref f29) = true)
    (a30 : PySem.W.nsIn K mainGlobals "_law_card" = some (some (.ref f30))) (l30 : K.lookup f30 = some ⟨oc30, od30, .func (PySem.W.fnOf "_law_card" "_law_card" (defArgs sCard) (defBody sCard) (defScope sCard) .none kV30 dc30 pm30 an30 cd30 ct30), sl30⟩) (c30 : PySem.W.codeIn K cd30 "_law_card" = true) (k30 : PySem.W.keepIn K (.ref f30) = true)
    (a31 : PySem.W.nsIn K mainGlobals "_law_room" = some (some (.ref f31))) (l31 : K.lookup f31 = some ⟨oc31, od31, .func (PySem.W.fnOf "_law_room" "_law_room" (defArgs sRm) (defBody sRm) (defScope sRm) .none kV31 dc31 pm31 an31 cd31 ct31), sl31⟩) (c31 : PySem.W.codeIn K cd31 "_law_room" = true) (k31 : PySem.W.keepIn K (.ref f31) = true)
    (a32 : PySem.W.nsIn K mainGlobals "_law_due" = some (some (.ref f32))) (l32 : K.lookup f32 = some ⟨oc32, od32, .func (PySem.W.fnOf "_law_due" "_law_due" (defArgs sDue) (defBody sDue) (defScope sDue) .none kV32 dc32 pm32 an32 cd32 ct32), sl32⟩) (c32 : PySem.W.codeIn K cd32 "_law_due" = true) (k32 : PySem.W.keepIn K (.ref f32) = true)
    (a33 : PySem.W.nsIn K mainGlobals "_law_is_right" = some (some (.ref f33))) (l33 : K.lookup f33 = some ⟨oc33, od33, .func (PySem.W.fnOf "_law_is_right" "_law_is_right" (defArgs sR) (defBody sR) (defScope sR) .none kV33 dc33 pm33 an33 cd33 ct33), sl33⟩) (c33 : PySem.W.codeIn K cd33 "_law_is_right" = true) (k33 : PySem.W.keepIn K (.ref f33) = true)
    (a34 : PySem.W.nsIn K mainGlobals "law" = some (some (.ref f34))) (l34 : K.lookup f34 = some ⟨oc34, od34, .func (PySem.W.fnOf "law" "law" (defArgs sLaw) (defBody sLaw) (defScope sLaw) .none kV34 dc34 pm34 an34 cd34 ct34), sl34⟩) (c34 : PySem.W.codeIn K cd34 "law" = true) (k34 : PySem.W.keepIn K (.ref f34) = true)
    (z_isinstance : PySem.W.nsIn K mainGlobals "isinstance" = some none)
    (z_int : PySem.W.nsIn K mainGlobals "int" = some none)
    (z_bool : PySem.W.nsIn K mainGlobals "bool" = some none)
    (z_str : PySem.W.nsIn K mainGlobals "str" = some none)
    (z_len : PySem.W.nsIn K mainGlobals "len" = some none)
    (z_tuple : PySem.W.nsIn K mainGlobals "tuple" = some none)
    (z_list : PySem.W.nsIn K mainGlobals "list" = some none)
    (z_all : PySem.W.nsIn K mainGlobals "all" = some none)
    (z_zip : PySem.W.nsIn K mainGlobals "zip" = some none)
    (z_range : PySem.W.nsIn K mainGlobals "range" = some none)
    (z_sorted : PySem.W.nsIn K mainGlobals "sorted" = some none)
    (z_sum : PySem.W.nsIn K mainGlobals "sum" = some none)
    (z_repr : PySem.W.nsIn K mainGlobals "repr" = some none)
    (z_enumerate : PySem.W.nsIn K mainGlobals "enumerate" = some none)
    (z_lcm : PySem.W.nsIn K mainGlobals "lcm" = some (some (.builtin "math.lcm"))) :
    ∃ fd : FuncData, (∀ (s : Shared) (v : Value), BindsTo s fd ⟨[v], []⟩ [("_law_script", v)]) ∧ ∀ base : Heap, K.In base → base.Ns mainGlobals mg → FnG l.prog w K mg base 7 fa fd ["_law_script"] (spLaw K) := by
  have e := hfa.symm.trans (PySem.W.mg_of X G a34)
  cases e
  have T : Glob mg := ⟨PySem.W.mg_none_of X G z_isinstance, PySem.W.mg_none_of X G z_int, PySem.W.mg_none_of X G z_bool, PySem.W.mg_none_of X G z_str, PySem.W.mg_none_of X G z_len, PySem.W.mg_none_of X G z_tuple, PySem.W.mg_none_of X G z_list, PySem.W.mg_none_of X G z_all, PySem.W.mg_none_of X G z_zip, PySem.W.mg_none_of X G z_range, PySem.W.mg_none_of X G z_sorted, PySem.W.mg_none_of X G z_sum, PySem.W.mg_none_of X G z_repr, PySem.W.mg_none_of X G z_enumerate, PySem.W.mg_of X G z_lcm⟩
  have F1 := fun_mk (st := sIsInt) l1 c1 k1
  have h1 : Here K mg "is_integer" sIsInt ["value"] := ⟨_, _, F1, PySem.W.mg_of X G a1, F1.binds (ps := ["value"]) fun _ _ _ _ _ _ us hl => match us, hl with | [_], _ => rfl⟩
  have F2 := fun_mk (st := sZero) l2 c2 k2
  have h2 : Here K mg "zero_of" sZero ["group"] := ⟨_, _, F2, PySem.W.mg_of X G a2, F2.binds (ps := ["group"]) fun _ _ _ _ _ _ us hl => match us, hl with | [_], _ => rfl⟩
  have F3 := fun_mk (st := sIsMem) l3 c3 k3
  have h3 : Here K mg "is_member" sIsMem ["group", "value"] := ⟨_, _, F3, PySem.W.mg_of X G a3, F3.binds (ps := ["group", "value"]) fun _ _ _ _ _ _ us hl => match us, hl with | [_, _], _ => rfl⟩
  have F4 := fun_mk (st := sLen) l4 c4 k4
  have h4 : Here K mg "lengthened" sLen ["rows", "many"] := ⟨_, _, F4, PySem.W.mg_of X G a4, F4.binds (ps := ["rows", "many"]) fun _ _ _ _ _ _ us hl => match us, hl with | [_, _], _ => rfl⟩
  have F5 := fun_mk (st := sMem) l5 c5 k5
  have h5 : Here K mg "group_members" sMem ["group"] := ⟨_, _, F5, PySem.W.mg_of X G a5, F5.binds (ps := ["group"]) fun _ _ _ _ _ _ us hl => match us, hl with | [_], _ => rfl⟩
  have F6 := fun_mk (st := sAdded) l6 c6 k6
  have h6 : Here K mg "added" sAdded ["group", "member", "other"] := ⟨_, _, F6, PySem.W.mg_of X G a6, F6.binds (ps := ["group", "member", "other"]) fun _ _ _ _ _ _ us hl => match us, hl with | [_, _, _], _ => rfl⟩
  have F7 := fun_mk (st := sRep) l7 c7 k7
  have h7 : Here K mg "repeated" sRep ["group", "member", "count"] := ⟨_, _, F7, PySem.W.mg_of X G a7, F7.binds (ps := ["group", "member", "count"]) fun _ _ _ _ _ _ us hl => match us, hl with | [_, _, _], _ => rfl⟩
  have F8 := fun_mk (st := sSpan) l8 c8 k8
  have h8 : Here K mg "span" sSpan ["group", "some"] := ⟨_, _, F8, PySem.W.mg_of X G a8, F8.binds (ps := ["group", "some"]) fun _ _ _ _ _ _ us hl => match us, hl with | [_, _], _ => rfl⟩
  have F9 := fun_mk (st := sKills) l9 c9 k9
  have h9 : Here K mg "kills" sKills ["group", "character", "member"] := ⟨_, _, F9, PySem.W.mg_of X G a9, F9.binds (ps := ["group", "character", "member"]) fun _ _ _ _ _ _ us hl => match us, hl with | [_, _, _], _ => rfl⟩
  have F10 := fun_mk (st := sChars) l10 c10 k10
  have h10 : Here K mg "characters" sChars ["group", "some"] := ⟨_, _, F10, PySem.W.mg_of X G a10, F10.binds (ps := ["group", "some"]) fun _ _ _ _ _ _ us hl => match us, hl with | [_, _], _ => rfl⟩
  have F11 := fun_mk (st := sMakes) l11 c11 k11
  have h11 : Here K mg "makes" sMakes ["group", "marks", "room"] := ⟨_, _, F11, PySem.W.mg_of X G a11, F11.binds (ps := ["group", "marks", "room"]) fun _ _ _ _ _ _ us hl => match us, hl with | [_, _, _], _ => rfl⟩
  have F12 := fun_mk (st := sOpen) l12 c12 k12
  have h12 : Here K mg "open_marks" sOpen ["marks", "room"] := ⟨_, _, F12, PySem.W.mg_of X G a12, F12.binds (ps := ["marks", "room"]) fun _ _ _ _ _ _ us hl => match us, hl with | [_, _], _ => rfl⟩
  have F13 := fun_mk (st := sSteps) l13 c13 k13
  have h13 : Here K mg "steps_of" sSteps ["group", "mark", "left"] := ⟨_, _, F13, PySem.W.mg_of X G a13, F13.binds (ps := ["group", "mark", "left"]) fun _ _ _ _ _ _ us hl => match us, hl with | [_, _, _], _ => rfl⟩
  have F14 := fun_mk (st := sRoom) l14 c14 k14
  have h14 : Here K mg "rows_of_room" sRoom ["group", "marks", "room"] := ⟨_, _, F14, PySem.W.mg_of X G a14, F14.binds (ps := ["group", "marks", "room"]) fun _ _ _ _ _ _ us hl => match us, hl with | [_, _, _], _ => rfl⟩
  have F15 := fun_mk (st := sBar) l15 c15 k15
  have h15 : Here K mg "bar" sBar ["group", "marks", "room", "member"] := ⟨_, _, F15, PySem.W.mg_of X G a15, F15.binds (ps := ["group", "marks", "room", "member"]) fun _ _ _ _ _ _ us hl => match us, hl with | [_, _, _, _], _ => rfl⟩
  have F16 := fun_mk (st := sIsK) l16 c16 k16
  have h16 : Here K mg "is_killing" sIsK ["group", "marks", "room", "member", "value"] := ⟨_, _, F16, PySem.W.mg_of X G a16, F16.binds (ps := ["group", "marks", "room", "member", "value"]) fun _ _ _ _ _ _ us hl => match us, hl with | [_, _, _, _, _], _ => rfl⟩
  have F17 := fun_mk (st := sIsRow) l17 c17 k17
  have h17 : Here K mg "is_row" sIsRow ["group", "value"] := ⟨_, _, F17, PySem.W.mg_of X G a17, F17.binds (ps := ["group", "value"]) fun _ _ _ _ _ _ us hl => match us, hl with | [_, _], _ => rfl⟩
  have F18 := fun_mk (st := sAreC) l18 c18 k18
  have h18 : Here K mg "are_closed" sAreC ["group", "marks", "room", "member", "value"] := ⟨_, _, F18, PySem.W.mg_of X G a18, F18.binds (ps := ["group", "marks", "room", "member", "value"]) fun _ _ _ _ _ _ us hl => match us, hl with | [_, _, _, _, _], _ => rfl⟩
  have F19 := fun_mk (st := sHolds) l19 c19 k19
  have h19 : Here K mg "bar_holds" sHolds ["group", "marks", "room", "member", "value"] := ⟨_, _, F19, PySem.W.mg_of X G a19, F19.binds (ps := ["group", "marks", "room", "member", "value"]) fun _ _ _ _ _ _ us hl => match us, hl with | [_, _, _, _, _], _ => rfl⟩
  have F20 := fun_mk (st := sStock) l20 c20 k20
  have h20 : Here K mg "_law_stock" sStock ["_law_script"] := ⟨_, _, F20, PySem.W.mg_of X G a20, F20.binds (ps := ["_law_script"]) fun _ _ _ _ _ _ us hl => match us, hl with | [_], _ => rfl⟩
  have F21 := fun_mk (st := sDraw) l21 c21 k21
  have h21 : Here K mg "_law_draw" sDraw ["_law_stock_here", "_law_size"] := ⟨_, _, F21, PySem.W.mg_of X G a21, F21.binds (ps := ["_law_stock_here", "_law_size"]) fun _ _ _ _ _ _ us hl => match us, hl with | [_, _], _ => rfl⟩
  have F22 := fun_mk (st := sPick) l22 c22 k22
  have h22 : Here K mg "_law_pick" sPick ["_law_stock_here", "_law_row"] := ⟨_, _, F22, PySem.W.mg_of X G a22, F22.binds (ps := ["_law_stock_here", "_law_row"]) fun _ _ _ _ _ _ us hl => match us, hl with | [_, _], _ => rfl⟩
  have F23 := fun_mk (st := sMems) l23 c23 k23
  have h23 : Here K mg "_law_members" sMems ["_law_sizes"] := ⟨_, _, F23, PySem.W.mg_of X G a23, F23.binds (ps := ["_law_sizes"]) fun _ _ _ _ _ _ us hl => match us, hl with | [_], _ => rfl⟩
  have F24 := fun_mk (st := sGrp) l24 c24 k24
  have h24 : Here K mg "_law_group" sGrp ["_law_stock_here"] := ⟨_, _, F24, PySem.W.mg_of X G a24, F24.binds (ps := ["_law_stock_here"]) fun _ _ _ _ _ _ us hl => match us, hl with | [_], _ => rfl⟩
  have F25 := fun_mk (st := sEle) l25 c25 k25
  have h25 : Here K mg "_law_element" sEle ["_law_stock_here", "_law_group_here"] := ⟨_, _, F25, PySem.W.mg_of X G a25, F25.binds (ps := ["_law_stock_here", "_law_group_here"]) fun _ _ _ _ _ _ us hl => match us, hl with | [_, _], _ => rfl⟩
  have F26 := fun_mk (st := sPlus) l26 c26 k26
  have h26 : Here K mg "_law_plus" sPlus ["_law_group_here", "_law_one", "_law_two"] := ⟨_, _, F26, PySem.W.mg_of X G a26, F26.binds (ps := ["_law_group_here", "_law_one", "_law_two"]) fun _ _ _ _ _ _ us hl => match us, hl with | [_, _, _], _ => rfl⟩
  have F27 := fun_mk (st := sLK) l27 c27 k27
  have h27 : Here K mg "_law_kills" sLK ["_law_group_here", "_law_ask", "_law_element_here"] := ⟨_, _, F27, PySem.W.mg_of X G a27, F27.binds (ps := ["_law_group_here", "_law_ask", "_law_element_here"]) fun _ _ _ _ _ _ us hl => match us, hl with | [_, _, _], _ => rfl⟩
  have F28 := fun_mk (st := sSpd) l28 c28 k28
  have h28 : Here K mg "_law_spanned" sSpd ["_law_group_here", "_law_some"] := ⟨_, _, F28, PySem.W.mg_of X G a28, F28.binds (ps := ["_law_group_here", "_law_some"]) fun _ _ _ _ _ _ us hl => match us, hl with | [_, _], _ => rfl⟩
  have F29 := fun_mk (st := sLR) l29 c29 k29
  have h29 : Here K mg "_law_rows" sLR ["_law_group_here", "_law_marks", "_law_space", "_law_begin"] := ⟨_, _, F29, PySem.W.mg_of X G a29, F29.binds (ps := ["_law_group_here", "_law_marks", "_law_space", "_law_begin"]) fun _ _ _ _ _ _ us hl => match us, hl with | [_, _, _, _], _ => rfl⟩
  have F30 := fun_mk (st := sCard) l30 c30 k30
  have h30 : Here K mg "_law_card" sCard ["_law_stock_here", "_law_most"] := ⟨_, _, F30, PySem.W.mg_of X G a30, F30.binds (ps := ["_law_stock_here", "_law_most"]) fun _ _ _ _ _ _ us hl => match us, hl with | [_, _], _ => rfl⟩
  have F31 := fun_mk (st := sRm) l31 c31 k31
  have h31 : Here K mg "_law_room" sRm ["_law_stock_here"] := ⟨_, _, F31, PySem.W.mg_of X G a31, F31.binds (ps := ["_law_stock_here"]) fun _ _ _ _ _ _ us hl => match us, hl with | [_], _ => rfl⟩
  have F32 := fun_mk (st := sDue) l32 c32 k32
  have h32 : Here K mg "_law_due" sDue ["_law_group_here", "_law_marks", "_law_space", "_law_member"] := ⟨_, _, F32, PySem.W.mg_of X G a32, F32.binds (ps := ["_law_group_here", "_law_marks", "_law_space", "_law_member"]) fun _ _ _ _ _ _ us hl => match us, hl with | [_, _, _, _], _ => rfl⟩
  have F33 := fun_mk (st := sR) l33 c33 k33
  have h33 : Here K mg "_law_is_right" sR ["_law_stock_here"] := ⟨_, _, F33, PySem.W.mg_of X G a33, F33.binds (ps := ["_law_stock_here"]) fun _ _ _ _ _ _ us hl => match us, hl with | [_], _ => rfl⟩
  have F34 := fun_mk (st := sLaw) l34 c34 k34
  refine ⟨PySem.W.fnOf "law" "law" (defArgs sLaw) (defBody sLaw) (defScope sLaw) .none kV34 dc34 pm34 an34 cd34 ct34, fun s v => .of_eq rfl, fun base _ _ => ?_⟩
  have K1 := ok_isInt (P := l.prog) (w := w) (base := base) T  h1
  have K2 := ok_zero (P := l.prog) (w := w) (base := base) T  h2
  have K6 := ok_added (P := l.prog) (w := w) (base := base) T  h6
  have K7 := ok_rep (P := l.prog) (w := w) (base := base) T  h7
  have K4 := ok_len (P := l.prog) (w := w) (base := base) T  h4
  have K5 := ok_mem (P := l.prog) (w := w) (base := base) T K4 h5
  have K9 := ok_kills (P := l.prog) (w := w) (base := base) T  h9
  have K3 := ok_isMem (P := l.prog) (w := w) (base := base) T K1 h3
  have K8 := ok_span (P := l.prog) (w := w) (base := base) T K2 K6 h8
  have K10 := ok_chars (P := l.prog) (w := w) (base := base) T K5 K9 h10
  have K12 := ok_open (P := l.prog) (w := w) (base := base) T  h12
  have K13 := ok_steps (P := l.prog) (w := w) (base := base) T K7 h13
  have K11 := ok_makes (P := l.prog) (w := w) (base := base) T K2 K6 K7 h11
  have K14 := ok_room (P := l.prog) (w := w) (base := base) T K2 K6 K13 h14
  have K15 := ok_bar (P := l.prog) (w := w) (base := base) T K11 K10 K12 K9 K14 h15
  have K16 := ok_isK (P := l.prog) (w := w) (base := base) T K3 K12 K9 h16
  have K17 := ok_isRow (P := l.prog) (w := w) (base := base) T K3 h17
  have K18 := ok_areC (P := l.prog) (w := w) (base := base) T K2 K6 K13 K17 h18
  have K19 := ok_holds (P := l.prog) (w := w) (base := base) T K16 K18 h19
  have K20 := ok_stock (P := l.prog) (w := w) (base := base) T  h20
  have K21 := ok_draw (P := l.prog) (w := w) (base := base) T  h21
  have K22 := ok_pick (P := l.prog) (w := w) (base := base) T K21 h22
  have K23 := ok_mems (P := l.prog) (w := w) (base := base) T  h23
  have K24 := ok_grp (P := l.prog) (w := w) (base := base) T K22 h24
  have K25 := ok_ele (P := l.prog) (w := w) (base := base) T K21 h25
  have K26 := ok_plus (P := l.prog) (w := w) (base := base) T  h26
  have K27 := ok_lk (P := l.prog) (w := w) (base := base) T  h27
  have K28 := ok_spd (P := l.prog) (w := w) (base := base) T K26 h28
  have K29 := ok_lr (P := l.prog) (w := w) (base := base) T K26 h29
  have K30 := ok_card (P := l.prog) (w := w) (base := base) T K21 K22 h30
  have K31 := ok_rm (P := l.prog) (w := w) (base := base) T K21 K30 h31
  have K32 := ok_due (P := l.prog) (w := w) (base := base) T K29 K23 K27 h32
  have C : All l.prog w K mg base := ⟨h15, K15, K11, K8, K19, K20, K21, K22, K23, K24, K25, K28, K31, K32⟩
  exact ok_law T C (ok_r T C h33) F34
theorem walk {l : PySem.W.OpenLaw} {q : Program} {loose : List Str} {XP : (Str → Option Value) → Heap → Prop} {YP : World → Heap → Prop} {d : DefRec} {K : Params → PySem.W.Frag} (hn : l.most = some 63) (hdf : d.params.defaults = [])
    (hY : ∀ (w : World) (h : Heap), YP w h → (K w.params).In h)
    (F : ∀ (w : World) (mg : Str → Option Value) (fa : Addr) (h : Heap), (K w.params).In h → h.Ns mainGlobals mg → mg d.name = some (.ref fa) →
      ∃ fd : FuncData, (∀ (s : Shared) (u : Value), BindsTo s fd ⟨[u], []⟩ [("_law_script", u)]) ∧ ∀ base : Heap, (K w.params).In base → base.Ns mainGlobals mg → FnG l.prog w (K w.params) mg base 7 fa fd ["_law_script"] (spLaw (K w.params))) :
    PySem.W.WalkO q loose XP YP l.row.toRowW d [] (fun f vs => PySem.call f vs) :=
  walk_ofG (n := 63) (k := 7) (x := "_law_script") (sp := fun w => spLaw (K w.params)) hn (by decide) hdf ⟨rfl, by decide, by decide⟩ hY F (fun _ _ a ns hl _ hS => ⟨a, ns, rfl, hS, hl, fun _ => rfl⟩)
end OhL

set_option Elab.async false
set_option maxRecDepth 100000
open PySem PySem.W PyProof.Rows in
set_option maxRecDepth 100000 in
set_option maxHeartbeats 0 in
theorem PySem.Challenge.cw_onlyhigher_k30_whole_bars_holds : PySem.Challenge.rw_onlyhigher_k30_whole_bars.Holds := by
  w_on; o_law; k_head; (case hw => w_witness2)
  k_fill
  refine OhL.walk (l := PySem.Challenge.rw_onlyhigher_k30_whole_bars) rfl rfl (fun w h Y => PySem.W.kIn_of Y) ?F
  case F =>
    intro w mg fa h KX G hmg
    refine' OhL.all_mk KX G hmg ?a1 ?l1 ?c1 ?k1 ?a2 ?l2 ?c2 ?k2 ?a3 ?l3 ?c3 ?k3 ?a4 ?l4 ?c4 ?k4 ?a5 ?l5 ?c5 ?k5 ?a6 ?l6 ?c6 ?k6 ?a7 ?l7 ?c7 ?k7 ?a8 ?l8 ?c8 ?k8 ?a9 ?l9 ?c9 ?k9 ?a10 ?l10 ?c10 ?k10 ?a11 ?l11 ?c11 ?k11 ?a12 ?l12 ?c12 ?k12 ?a13 ?l13 ?c13 ?k13 ?a14 ?l14 ?c14 ?k14 ?a15 ?l15 ?c15 ?k15 ?a16 ?l16 ?c16 ?k16 ?a17 ?l17 ?c17 ?k17 ?a18 ?l18 ?c18 ?k18 ?a19 ?l19 ?c19 ?k19 ?a20 ?l20 ?c20 ?k20 ?a21 ?l21 ?c21 ?k21 ?a22 ?l22 ?c22 ?k22 ?a23 ?l23 ?c23 ?k23 ?a24 ?l24 ?c24 ?k24 ?a25 ?l25 ?c25 ?k25 ?a26 ?l26 ?c26 ?k26 ?a27 ?l27 ?c27 ?k27 ?a28 ?l28 ?c28 ?k28 ?a29 ?l29 ?c29 ?k29 ?a30 ?l30 ?c30 ?k30 ?a31 ?l31 ?c31 ?k31 ?a32 ?l32 ?c32 ?k32 ?a33 ?l33 ?c33 ?k33 ?a34 ?l34 ?c34 ?k34 ?z_isinstance ?z_int ?z_bool ?z_str ?z_len ?z_tuple ?z_list ?z_all ?z_zip ?z_range ?z_sorted ?z_sum ?z_repr ?z_enumerate ?z_lcm
    (case a1 => k_is)
    (case l1 => k_is)
    (case c1 => k_is)
    (case k1 => k_is)
    (case a2 => k_is)
    (case l2 => k_is)
    (case c2 => k_is)
    (case k2 => k_is)
    (case a3 => k_is)
    (case l3 => k_is)
    (case c3 => k_is)
    (case k3 => k_is)
    (case a4 => k_is)
    (case l4 => k_is)
    (case c4 => k_is)
    (case k4 => k_is)
    (case a5 => k_is)
    (case l5 => k_is)
    (case c5 => k_is)
    (case k5 => k_is)
    (case a6 => k_is)
    (case l6 => k_is)
    (case c6 => k_is)
    (case k6 => k_is)
    (case a7 => k_is)
    (case l7 => k_is)
    (case c7 => k_is)
    (case k7 => k_is)
    (case a8 => k_is)
    (case l8 => k_is)
    (case c8 => k_is)
    (case k8 => k_is)
    (case a9 => k_is)
    (case l9 => k_is)
    (case c9 => k_is)
    (case k9 => k_is)
    (case a10 => k_is)
    (case l10 => k_is)
    (case c10 => k_is)
    (case k10 => k_is)
    (case a11 => k_is)
    (case l11 => k_is)
    (case c11 => k_is)
    (case k11 => k_is)
    (case a12 => k_is)
    (case l12 => k_is)
    (case c12 => k_is)
    (case k12 => k_is)
    (case a13 => k_is)
    (case l13 => k_is)
    (case c13 => k_is)
    (case k13 => k_is)
    (case a14 => k_is)
    (case l14 => k_is)
    (case c14 => k_is)
    (case k14 => k_is)
    (case a15 => k_is)
    (case l15 => k_is)
    (case c15 => k_is)
    (case k15 => k_is)
    (case a16 => k_is)
    (case l16 => k_is)
    (case c16 => k_is)
    (case k16 => k_is)
    (case a17 => k_is)
    (case l17 => k_is)
    (case c17 => k_is)
    (case k17 => k_is)
    (case a18 => k_is)
    (case l18 => k_is)
    (case c18 => k_is)
    (case k18 => k_is)
    (case a19 => k_is)
    (case l19 => k_is)
    (case c19 => k_is)
    (case k19 => k_is)
    (case a20 => k_is)
    (case l20 => k_is)
    (case c20 => k_is)
    (case k20 => k_is)
    (case a21 => k_is)
    (case l21 => k_is)
    (case c21 => k_is)
    (case k21 => k_is)
    (case a22 => k_is)
    (case l22 => k_is)
    (case c22 => k_is)
    (case k22 => k_is)
    (case a23 => k_is)
    (case l23 => k_is)
    (case c23 => k_is)
    (case k23 => k_is)
    (case a24 => k_is)
    (case l24 => k_is)
    (case c24 => k_is)
    (case k24 => k_is)
    (case a25 => k_is)
    (case l25 => k_is)
    (case c25 => k_is)
    (case k25 => k_is)
    (case a26 => k_is)
    (case l26 => k_is)
    (case c26 => k_is)
    (case k26 => k_is)
    (case a27 => k_is)
    (case l27 => k_is)
    (case c27 => k_is)
    (case k27 => k_is)
    (case a28 => k_is)
    (case l28 => k_is)
    (case c28 => k_is)
    (case k28 => k_is)
    (case a29 => k_is)
    (case l29 => k_is)
    (case c29 => k_is)
    (case k29 => k_is)
    (case a30 => k_is)
    (case l30 => k_is)
    (case c30 => k_is)
    (case k30 => k_is)
    (case a31 => k_is)
    (case l31 => k_is)
    (case c31 => k_is)
    (case k31 => k_is)
    (case a32 => k_is)
    (case l32 => k_is)
    (case c32 => k_is)
    (case k32 => k_is)
    (case a33 => k_is)
    (case l33 => k_is)
    (case c33 => k_is)
    (case k33 => k_is)
    (case a34 => k_is)
    (case l34 => k_is)
    (case c34 => k_is)
    (case k34 => k_is)
    (case z_isinstance => k_is)
    (case z_int => k_is)
    (case z_bool => k_is)
    (case z_str => k_is)
    (case z_len => k_is)
    (case z_tuple => k_is)
    (case z_list => k_is)
    (case z_all => k_is)
    (case z_zip => k_is)
    (case z_range => k_is)
    (case z_sorted => k_is)
    (case z_sum => k_is)
    (case z_repr => k_is)
    (case z_enumerate => k_is)
    (case z_lcm => k_is)

