import PyProof.Rows.All
import Wide.All
import OpenK.AllK
import Wide.FinOn
import HandS.ForMost
import HandS.Strs
import HandS.SetFor
import HandS.SetTxt0
import HandS.Evl
import HandS.Codes
import HandS.IsInst
import HandS.Wide
import HandS.TupAny
import HandS.Style
import HandS.More
import HandS.Exc
import HandS.Flt
import HandS.Walk
import PySem.Challenge.RW_mailtide_k59_whole_sights_of_real_folder
set_option Elab.async false
set_option linter.all false
set_option maxRecDepth 100000
set_option maxHeartbeats 8000000
/-! K59M: the mathematics of the law, no program in sight. -/
namespace K59
open PySem
/-- a letter: number, body, signs, mark -/
structure Ltr where
  num : Int
  body : Int
  sg : List Str
  mark : Int
/-- a folder, as far as the law looks at it -/
structure Fol where
  age : Int
  ls : List Ltr
  up : Int
  lat : Int
def nums (F : Fol) : List Int := F.ls.map Ltr.num
/-- what is_sign asks of a text -/
def SignOk (s : Str) : Prop := 1 ≤ s.length ∧ s.length ≤ 8 ∧ ∀ c ∈ s.cps.toList, c ∈ ("abcdefghijklmnopqrstuvwxyz" : Str).cps.toList
/-- the signs of a letter -/
def SgOk (s : List Str) : Prop := s.length ≤ 6 ∧ ∀ z ∈ s, SignOk z
/-! ### lists -/
theorem len_sub : ∀ (a b : List Int), a.Nodup → (∀ x ∈ a, x ∈ b) → a.length ≤ b.length
  | [], b, _, _ => Nat.zero_le _
  | x :: a, b, nd, h => by
    obtain ⟨h1, h2⟩ := List.nodup_cons.mp nd
    have hx : x ∈ b := h x List.mem_cons_self
    have ih := len_sub a (b.erase x) h2 fun y hy => by
      have hne : y ≠ x := fun e => h1 (e ▸ hy)
      exact (List.mem_erase_of_ne hne).mpr (h y (List.mem_cons_of_mem _ hy))
    rw [List.length_erase_of_mem hx] at ih
    have hp : 0 < b.length := List.length_pos_of_mem hx
    rw [List.length_cons]
    omega
theorem filter_split (p : Int → Bool) : ∀ l : List Int, (l.filter p).length + (l.filter fun x => !p x).length = l.length
  | [] => rfl
  | x :: l => by
    have ih := filter_split p l
    by_cases h : p x = true
    · rw [List.filter_cons_of_pos h, List.filter_cons_of_neg (by simp [h]), List.length_cons, List.length_cons]
      omega
    · rw [List.filter_cons_of_neg h, List.filter_cons_of_pos (by simpa using h), List.length_cons, List.length_cons]
      omega
theorem filter_splitL (p : Ltr → Bool) : ∀ l : List Ltr, (l.filter p).length + (l.filter fun x => !p x).length = l.length
  | [] => rfl
  | x :: l => by
    have ih := filter_splitL p l
    by_cases h : p x = true
    · rw [List.filter_cons_of_pos h, List.filter_cons_of_neg (by simp [h]), List.length_cons, List.length_cons]
      omega
    · rw [List.filter_cons_of_neg h, List.filter_cons_of_pos (by simpa using h), List.length_cons, List.length_cons]
      omega
theorem nodup_filter {p : Int → Bool} {l : List Int} (h : l.Nodup) : (l.filter p).Nodup := List.Pairwise.filter p h
/-! ### what a client's sight asks -/
structure Inv (F : Fol) : Prop where
  age : 1 ≤ F.age
  up : 1 ≤ F.up
  nd : (nums F).Nodup
  lo : ∀ n ∈ nums F, 1 ≤ n ∧ n < F.up
  len : (F.ls.length : Int) ≤ F.up - 1
  lat : 2 * (F.up - 1) - (F.ls.length : Int) ≤ F.lat
  none : F.up = 1 → F.lat = 0
  sgb : ∀ l ∈ F.ls, SgOk l.sg
theorem Inv.lat0 {F : Fol} (I : Inv F) : 0 ≤ F.lat := by
  have h1 := I.len
  have h2 := I.lat
  have h3 := I.up
  omega
/-- the letters of F that are in G no more; those whose signs are others in G -/
def goneL (F G : Fol) : List Int := (nums F).filter fun n => !decide (n ∈ nums G)
def chgd (G : Fol) (l : Ltr) : Bool := match G.ls.find? (fun x => decide (x.num = l.num)) with
  | some x => !decide (x.sg = l.sg)
  | none => false
def newL (F G : Fol) : List Int := (F.ls.filter (chgd G)).map Ltr.num
/-- one deed -/
structure Step (F G : Fol) : Prop where
  age : G.age = F.age
  up : F.up ≤ G.up
  len : (G.ls.length : Int) = (F.ls.length : Int) + (G.up - F.up) - ((goneL F G).length : Int)
  lat : G.lat = F.lat + (G.up - F.up) + ((goneL F G).length : Int) + ((newL F G).length : Int)
  new : ∀ n ∈ nums G, n ∈ nums F ∨ F.up ≤ n
  inv : Inv G
  few : G.ls.length ≤ F.ls.length + 1
  up1 : G.up ≤ F.up + 1
theorem find_num : ∀ {ls : List Ltr} {l : Ltr}, (ls.map Ltr.num).Nodup → l ∈ ls → ls.find? (fun x => decide (x.num = l.num)) = some l
  | [], l, _, h => by cases h
  | x :: ls, l, nd, h => by
    have nd : (x.num :: ls.map Ltr.num).Nodup := nd
    obtain ⟨h1, h2⟩ := List.nodup_cons.mp nd
    rcases List.mem_cons.mp h with e | e
    · subst e
      rw [List.find?_cons_of_pos (by simp)]
    · have hne : ¬ x.num = l.num := fun q => h1 (q ▸ List.mem_map.mpr ⟨l, e, rfl⟩)
      rw [List.find?_cons_of_neg (by simp [hne])]
      exact find_num h2 e
theorem find_none {ls : List Ltr} {n : Int} (h : n ∉ ls.map Ltr.num) : ls.find? (fun x => decide (x.num = n)) = none := by
  rw [List.find?_eq_none]
  intro x hx
  have : ¬ x.num = n := fun e => h (List.mem_map.mpr ⟨x, hx, e⟩)
  simp [this]
theorem goneL_sub {F G : Fol} : ∀ n ∈ goneL F G, n ∈ nums F ∧ n ∉ nums G := fun n h => by
  have h := List.mem_filter.mp h
  refine ⟨h.1, ?_⟩
  simpa using h.2
theorem newL_sub {F G : Fol} : ∀ n ∈ newL F G, n ∈ nums F := fun n h => by
  obtain ⟨l, hl, e⟩ := List.mem_map.mp h
  exact List.mem_map.mpr ⟨l, (List.mem_filter.mp hl).1, e⟩
theorem goneL_nil {F G : Fol} (h : ∀ n ∈ nums F, n ∈ nums G) : goneL F G = [] := by
  unfold goneL
  rw [List.filter_eq_nil_iff]
  intro n hn
  simp [h n hn]
theorem nums_len (F : Fol) : (nums F).length = F.ls.length := List.length_map _
/-! ### a letter comes -/
def Fol.come (F : Fol) (b : Int) (s : List Str) : Fol := { F with ls := F.ls ++ [⟨F.up, b, s, F.lat + 1⟩], up := F.up + 1, lat := F.lat + 1 }
theorem come_nums (F : Fol) (b : Int) (s : List Str) : nums (F.come b s) = nums F ++ [F.up] := by
  unfold nums Fol.come
  rw [List.map_append]
  rfl
theorem nd_snoc1 {l : List Int} {n : Int} (h : l.Nodup) (hn : n ∉ l) : (l ++ [n]).Nodup := by
  rw [List.nodup_append]
  refine ⟨h, by simp, fun a ha b hb => ?_⟩
  rw [List.mem_singleton.mp hb]
  exact fun e => hn (e ▸ ha)
theorem come_step {F : Fol} (I : Inv F) (b : Int) (s : List Str) (h6 : SgOk s) : Step F (F.come b s) := by
  have hnot : F.up ∉ nums F := fun h => by
    have := (I.lo _ h).2
    omega
  have hnd : (nums (F.come b s)).Nodup := by
    rw [come_nums]
    exact nd_snoc1 I.nd hnot
  have hg : goneL F (F.come b s) = [] := goneL_nil fun n hn => by
    rw [come_nums]
    exact List.mem_append_left _ hn
  have hn : newL F (F.come b s) = [] := by
    unfold newL
    have : F.ls.filter (chgd (F.come b s)) = [] := by
      rw [List.filter_eq_nil_iff]
      intro l hl
      have hm : l ∈ (F.come b s).ls := List.mem_append_left _ hl
      unfold chgd
      rw [find_num hnd hm]
      simp
    rw [this]
    rfl
  have hl : (F.come b s).ls.length = F.ls.length + 1 := by
    show (F.ls ++ [_]).length = _
    rw [List.length_append]
    rfl
  have hup : (F.come b s).up = F.up + 1 := rfl
  have hlat : (F.come b s).lat = F.lat + 1 := rfl
  have i1 := I.up
  have i2 := I.len
  have i3 := I.lat
  refine ⟨rfl, by rw [hup]; omega, ?_, ?_, fun n hm => ?_, ⟨I.age, by rw [hup]; omega, hnd, fun n hm => ?_, ?_, ?_, fun e => ?_, fun l hl => ?_⟩, by rw [hl]; omega, by rw [hup]; omega⟩
  · rw [hg, hl, hup, List.length_nil]
    omega
  · rw [hg, hn, hup, hlat]
    simp only [List.length_nil]
    omega
  · rw [come_nums] at hm
    rcases List.mem_append.mp hm with h | h
    · exact .inl h
    · rw [List.mem_singleton.mp h]
      exact .inr (Int.le_refl _)
  · rw [come_nums] at hm
    rw [hup]
    rcases List.mem_append.mp hm with h | h
    · have := I.lo _ h
      omega
    · rw [List.mem_singleton.mp h]
      omega
  · rw [hl, hup]
    omega
  · rw [hl, hup, hlat]
    omega
  · rw [hup] at e
    omega
  · rcases List.mem_append.mp hl with h | h
    · exact I.sgb l h
    · rw [List.mem_singleton.mp h]
      exact h6
/-! ### letters go -/
def Fol.go (F : Fol) (n : Int) : Fol := { F with ls := F.ls.filter (fun x => !decide (x.num = n)), lat := F.lat + 1 }
/-- behind some goings: G is F without those that p leaves out -/
structure Went (F G : Fol) (p : Ltr → Bool) : Prop where
  age : G.age = F.age
  up : G.up = F.up
  ls : G.ls = F.ls.filter p
  lat : G.lat + (G.ls.length : Int) = F.lat + (F.ls.length : Int)
theorem Went.refl (F : Fol) : Went F F (fun _ => true) := ⟨rfl, rfl, (List.filter_eq_self.mpr fun _ _ => rfl).symm, rfl⟩
theorem filter_one : ∀ {ls : List Ltr} {n : Int}, (ls.map Ltr.num).Nodup → n ∈ ls.map Ltr.num → (ls.filter (fun x => !decide (x.num = n))).length + 1 = ls.length
  | [], n, _, h => by cases h
  | x :: ls, n, nd, h => by
    have nd : (x.num :: ls.map Ltr.num).Nodup := nd
    obtain ⟨h1, h2⟩ := List.nodup_cons.mp nd
    by_cases e : x.num = n
    · have hno : ls.filter (fun x => !decide (x.num = n)) = ls := by
        rw [List.filter_eq_self]
        intro y hy
        have : ¬ y.num = n := fun q => h1 (List.mem_map.mpr ⟨y, hy, q.trans e.symm⟩)
        simp [this]
      rw [List.filter_cons_of_neg (by simp [e]), hno]
      rfl
    · have hm : n ∈ ls.map Ltr.num := by
        rcases List.mem_cons.mp h with q | q
        · exact absurd q.symm e
        · exact q
      rw [List.filter_cons_of_pos (by simp [e]), List.length_cons, List.length_cons, filter_one h2 hm]
theorem nd_filter {p : Ltr → Bool} {ls : List Ltr} (h : (ls.map Ltr.num).Nodup) : ((ls.filter p).map Ltr.num).Nodup := by
  refine List.Pairwise.sublist ?_ h
  exact List.Sublist.map _ List.filter_sublist
theorem Went.go {F G : Fol} {p : Ltr → Bool} (W : Went F G p) (nd : (nums F).Nodup) {l : Ltr} (hl : l ∈ F.ls) (hp : p l = true) : Went F (G.go l.num) (fun x => p x && !decide (x.num = l.num)) := by
  have hm : l.num ∈ G.ls.map Ltr.num := by
    rw [W.ls]
    exact List.mem_map.mpr ⟨l, List.mem_filter.mpr ⟨hl, hp⟩, rfl⟩
  have ndG : (G.ls.map Ltr.num).Nodup := by
    rw [W.ls]
    exact nd_filter nd
  refine ⟨W.age, W.up, ?_, ?_⟩
  · show G.ls.filter _ = _
    rw [W.ls, List.filter_filter]
    congr 1
    funext x
    exact Bool.and_comm _ _
  · show G.lat + 1 + ((G.ls.filter _).length : Int) = _
    have q := filter_one ndG hm
    have := W.lat
    omega
theorem Went.step {F G : Fol} {p : Ltr → Bool} (I : Inv F) (W : Went F G p) : Step F G := by
  have hsub : ∀ l ∈ G.ls, l ∈ F.ls := fun l hl => by
    rw [W.ls] at hl
    exact (List.mem_filter.mp hl).1
  have hnsub : ∀ n ∈ nums G, n ∈ nums F := fun n hn => by
    obtain ⟨l, hl, e⟩ := List.mem_map.mp hn
    exact List.mem_map.mpr ⟨l, hsub l hl, e⟩
  have ndG : (nums G).Nodup := by
    unfold nums
    rw [W.ls]
    exact nd_filter I.nd
  have hgl : ((goneL F G).length : Int) = (F.ls.length : Int) - (G.ls.length : Int) := by
    have h1 := filter_split (fun n => !decide (n ∈ nums G)) (nums F)
    have h2 : ((nums F).filter fun n => !(!decide (n ∈ nums G))).length = (nums G).length := by
      apply Nat.le_antisymm
      · refine len_sub _ _ (nodup_filter I.nd) fun x hx => ?_
        have := (List.mem_filter.mp hx).2
        simpa using this
      · refine len_sub _ _ ndG fun x hx => ?_
        refine List.mem_filter.mpr ⟨hnsub x hx, ?_⟩
        simpa using hx
    rw [h2, nums_len, nums_len] at h1
    unfold goneL
    omega
  have hnl : newL F G = [] := by
    unfold newL
    have : F.ls.filter (chgd G) = [] := by
      rw [List.filter_eq_nil_iff]
      intro l hl
      unfold chgd
      by_cases hm : l.num ∈ G.ls.map Ltr.num
      · obtain ⟨x, hx, e⟩ := List.mem_map.mp hm
        have hxl : x = l := by
          have e1 := find_num I.nd (hsub x hx)
          have e2 := find_num I.nd hl
          rw [e, e2] at e1
          exact (Option.some.inj e1).symm
        rw [hxl] at hx
        rw [find_num ndG hx]
        simp
      · rw [find_none hm]
        simp
    rw [this]
    rfl
  have hle : G.ls.length ≤ F.ls.length := by
    rw [W.ls]
    exact List.length_filter_le _ _
  have w1 := W.lat
  have i2 := I.len
  have i3 := I.lat
  have hu := W.up
  refine ⟨W.age, by rw [hu]; omega, by rw [hgl, hu]; omega, by rw [hgl, hnl, hu, List.length_nil]; omega, fun n hn => .inl (hnsub n hn), ⟨by rw [W.age]; exact I.age, by rw [hu]; exact I.up, ndG, fun n hn => by rw [hu]; exact I.lo n (hnsub n hn), ?_, ?_, fun e => ?_, fun l hl => I.sgb l (hsub l hl)⟩, by omega, by rw [hu]; omega⟩
  · rw [hu]
    omega
  · rw [hu]
    omega
  · have e' : F.up = 1 := by rw [← hu]; exact e
    have z := I.none e'
    have : F.ls.length = 0 := by omega
    omega
/-! ### signs are changed -/
def Fol.sign (G : Fol) (l : Ltr) (s : List Str) : Fol := { G with ls := G.ls.map (fun x => if x.num = l.num then ⟨l.num, l.body, s, G.lat + 1⟩ else x), lat := G.lat + 1 }
/-- behind some changes: G is F with h of each letter -/
structure Sgd (F G : Fol) (h : Ltr → Ltr) : Prop where
  age : G.age = F.age
  up : G.up = F.up
  ls : G.ls = F.ls.map h
  num : ∀ l, (h l).num = l.num
  lat : G.lat = F.lat + ((F.ls.filter fun l => !decide ((h l).sg = l.sg)).length : Int)
theorem Sgd.refl (F : Fol) : Sgd F F id := ⟨rfl, rfl, by simp, fun _ => rfl, by
  have e : (F.ls.filter fun l => !decide ((id l).sg = l.sg)) = [] := by
    rw [List.filter_eq_nil_iff]
    intro l _
    simp
  rw [e, List.length_nil]
  omega⟩
theorem count_more : ∀ {ls : List Ltr} {l : Ltr} {p q : Ltr → Bool}, (ls.map Ltr.num).Nodup → l ∈ ls → p l = false → q l = true → (∀ x ∈ ls, x.num ≠ l.num → q x = p x) →
    (ls.filter q).length = (ls.filter p).length + 1
  | [], l, p, q, _, h, _, _, _ => by cases h
  | x :: ls, l, p, q, nd, h, h1, h2, h3 => by
    have nd : (x.num :: ls.map Ltr.num).Nodup := nd
    obtain ⟨n1, n2⟩ := List.nodup_cons.mp nd
    rcases List.mem_cons.mp h with e | e
    · subst e
      have same : ls.filter q = ls.filter p := by
        refine List.filter_congr fun y hy => ?_
        exact h3 y (List.mem_cons_of_mem _ hy) fun e => n1 (List.mem_map.mpr ⟨y, hy, e⟩)
      rw [List.filter_cons_of_pos h2, List.filter_cons_of_neg (by simp [h1]), same]
      rfl
    · have hne : x.num ≠ l.num := fun q => n1 (q ▸ List.mem_map.mpr ⟨l, e, rfl⟩)
      have ih := count_more n2 e h1 h2 fun y hy => h3 y (List.mem_cons_of_mem _ hy)
      have hx := h3 x List.mem_cons_self hne
      by_cases c : p x = true
      · rw [List.filter_cons_of_pos c, List.filter_cons_of_pos (by rw [hx]; exact c), List.length_cons, List.length_cons, ih]
      · rw [List.filter_cons_of_neg c, List.filter_cons_of_neg (by rw [hx]; exact c), ih]
def put (h : Ltr → Ltr) (l : Ltr) (n : Ltr) : Ltr → Ltr := fun x => if x.num = l.num then n else h x
theorem Sgd.sign {F G : Fol} {h : Ltr → Ltr} (W : Sgd F G h) (nd : (nums F).Nodup) {l : Ltr} (hl : l ∈ F.ls) (hh : h l = l) {s : List Str} (hs : s ≠ l.sg) :
    Sgd F (G.sign l s) (put h l ⟨l.num, l.body, s, G.lat + 1⟩) := by
  refine ⟨W.age, W.up, ?_, fun x => ?_, ?_⟩
  · show G.ls.map _ = _
    rw [W.ls, List.map_map]
    refine List.map_congr_left fun x _ => ?_
    show (if (h x).num = l.num then _ else h x) = put h l _ x
    unfold put
    rw [W.num x]
  · unfold put
    by_cases e : x.num = l.num
    · rw [if_pos e]
      exact e.symm
    · rw [if_neg e]
      exact W.num x
  · show G.lat + 1 = _
    have c := count_more (p := fun x => !decide ((h x).sg = x.sg)) (q := fun x => !decide ((put h l ⟨l.num, l.body, s, G.lat + 1⟩ x).sg = x.sg)) nd hl (by simp [hh])
      (by simp [put, hs]) (fun x _ hx => by simp [put, hx])
    rw [c]
    have := W.lat
    omega
theorem put_other {h : Ltr → Ltr} {l n x : Ltr} (e : x.num ≠ l.num) : put h l n x = h x := by
  unfold put
  rw [if_neg e]
theorem Sgd.step {F G : Fol} {h : Ltr → Ltr} (I : Inv F) (W : Sgd F G h) (h6 : ∀ l ∈ G.ls, SgOk l.sg) : Step F G := by
  have hn : nums G = nums F := by
    unfold nums
    rw [W.ls, List.map_map]
    exact List.map_congr_left fun x _ => W.num x
  have hg : goneL F G = [] := goneL_nil fun n hm => by rw [hn]; exact hm
  have ndG : (G.ls.map Ltr.num).Nodup := by
    show (nums G).Nodup
    rw [hn]
    exact I.nd
  have hc : F.ls.filter (chgd G) = F.ls.filter fun l => !decide ((h l).sg = l.sg) := by
    refine List.filter_congr fun l hl => ?_
    unfold chgd
    have hm : h l ∈ G.ls := by
      rw [W.ls]
      exact List.mem_map.mpr ⟨l, hl, rfl⟩
    have q := find_num ndG hm
    rw [W.num l] at q
    rw [q]
  have hlen : G.ls.length = F.ls.length := by rw [W.ls, List.length_map]
  have hnl : (newL F G).length = (F.ls.filter fun l => !decide ((h l).sg = l.sg)).length := by
    unfold newL
    rw [List.length_map, hc]
  have w1 := W.lat
  have hu := W.up
  have i2 := I.len
  have i3 := I.lat
  refine ⟨W.age, by rw [hu]; omega, by rw [hg, hu, hlen, List.length_nil]; omega, by rw [hg, hnl, hu, List.length_nil]; omega, fun n hm => .inl (by rw [← hn]; exact hm), ⟨by rw [W.age]; exact I.age, by rw [hu]; exact I.up, by rw [hn]; exact I.nd, fun n hm => by rw [hu]; rw [hn] at hm; exact I.lo n hm, by rw [hlen, hu]; exact i2, ?_, fun e => ?_, h6⟩, by omega, by rw [hu]; omega⟩
  · rw [hlen, hu]
    omega
  · have e' : F.up = 1 := by rw [← hu]; exact e
    have z := I.none e'
    have hz : F.ls.length = 0 := by
      omega
    have hz2 : F.ls = [] := List.length_eq_zero_iff.mp hz
    rw [hz2] at w1
    simp at w1
    omega
/-! ### many deeds -/
/-- what the law has counted between F0 and F -/
structure Cnt (F0 F : Fol) (went changed : Int) (touched counts : List Int) : Prop where
  inv : Inv F
  age : F.age = F0.age
  up : F0.up ≤ F.up
  w0 : 0 ≤ went
  len : (F.ls.length : Int) = (F0.ls.length : Int) + (F.up - F0.up) - went
  lat : F.lat = F0.lat + (F.up - F0.up) + went + changed
  tou : changed = (touched.length : Int)
  cne : counts ≠ []
  cin : ∀ c ∈ counts, (F0.ls.length : Int) - went ≤ c ∧ 0 ≤ c ∧ c ≤ (F0.ls.length : Int) + (F.up - F0.up)
  new : ∀ n ∈ nums F, n ∈ nums F0 ∨ F0.up ≤ n
  still : (F0.ls.length : Int) ≤ (((nums F0).filter fun n => decide (n ∈ nums F)).length : Int) + went
  tin : ∀ n ∈ touched, n ∈ nums F0 ∨ (F0.up ≤ n ∧ n < F.up)
theorem Cnt.start {F : Fol} (I : Inv F) : Cnt F F 0 0 [] [(F.ls.length : Int)] := by
  refine ⟨I, rfl, Int.le_refl _, Int.le_refl _, by omega, by omega, rfl, by simp, fun c hc => ?_, fun n hn => .inl hn, ?_, fun n hn => by cases hn⟩
  · rw [List.mem_singleton.mp hc]
    omega
  · have : ((nums F).filter fun n => decide (n ∈ nums F)) = nums F := by
      rw [List.filter_eq_self]
      intro n hn
      simpa using hn
    rw [this, nums_len]
    omega
theorem Cnt.more {F0 F G : Fol} {went changed : Int} {touched counts : List Int} (nd0 : (nums F0).Nodup) (C : Cnt F0 F went changed touched counts) (S : Step F G) :
    Cnt F0 G (went + ((goneL F G).length : Int)) (changed + ((newL F G).length : Int)) (touched ++ newL F G) (counts ++ [(G.ls.length : Int)]) := by
  have s1 := S.up
  have s2 := S.len
  have s3 := S.lat
  have c1 := C.up
  have c2 := C.len
  have c3 := C.lat
  have c4 := C.w0
  have c5 := C.tou
  refine ⟨S.inv, S.age.trans C.age, by omega, by omega, by omega, by omega, by rw [List.length_append]; omega, by simp, fun c hc => ?_, fun n hn => ?_, ?_, fun n hn => ?_⟩
  · rcases List.mem_append.mp hc with h | h
    · have := C.cin c h
      omega
    · rw [List.mem_singleton.mp h]
      omega
  · rcases S.new n hn with h | h
    · exact C.new n h
    · exact .inr (by omega)
  · have h1 := C.still
    have key : ((nums F0).filter fun n => decide (n ∈ nums F)).length ≤ ((nums F0).filter fun n => decide (n ∈ nums G)).length + (goneL F G).length := by
      have sp := filter_split (fun n => decide (n ∈ nums G)) ((nums F0).filter fun n => decide (n ∈ nums F))
      have a1 : (((nums F0).filter fun n => decide (n ∈ nums F)).filter fun n => decide (n ∈ nums G)).length ≤ ((nums F0).filter fun n => decide (n ∈ nums G)).length := by
        refine len_sub _ _ (nodup_filter (nodup_filter nd0)) fun x hx => ?_
        obtain ⟨x1, x2⟩ := List.mem_filter.mp hx
        exact List.mem_filter.mpr ⟨(List.mem_filter.mp x1).1, x2⟩
      have a2 : (((nums F0).filter fun n => decide (n ∈ nums F)).filter fun n => !decide (n ∈ nums G)).length ≤ (goneL F G).length := by
        refine len_sub _ _ (nodup_filter (nodup_filter nd0)) fun x hx => ?_
        obtain ⟨x1, x2⟩ := List.mem_filter.mp hx
        have x3 := (List.mem_filter.mp x1).2
        exact List.mem_filter.mpr ⟨by simpa using x3, x2⟩
      omega
    omega
  · rcases List.mem_append.mp hn with h | h
    · rcases C.tin n h with q | q
      · exact .inl q
      · exact .inr ⟨q.1, by omega⟩
    · have hF := newL_sub n h
      have := C.inv.lo n hF
      rcases C.new n hF with q | q
      · exact .inl q
      · exact .inr ⟨q, by omega⟩
/-! ### what the program answers -/
def wordOf (least most whole : Int) : Str := if least = whole then "all" else if most = 0 then "none" else if 0 < least ∧ most < whole then "some" else "open"
/-- what the law asks of a word -/
def Fits (w : Str) (some whole : Int) : Prop :=
  if w = "all" then some = whole else if w = "none" then some = 0 else w = "open" ∨ (0 < some ∧ some < whole)
theorem t_na : ¬ ("none" : Str) = "all" := by decide +kernel
theorem t_sa : ¬ ("some" : Str) = "all" := by decide +kernel
theorem t_sn : ¬ ("some" : Str) = "none" := by decide +kernel
theorem t_oa : ¬ ("open" : Str) = "all" := by decide +kernel
theorem t_on : ¬ ("open" : Str) = "none" := by decide +kernel
theorem fits_word {least most whole x : Int} (h1 : least ≤ x) (h2 : x ≤ most) (h3 : most ≤ whole) (h0 : 0 ≤ least) : Fits (wordOf least most whole) x whole := by
  unfold wordOf
  by_cases a : least = whole
  · rw [if_pos a]
    unfold Fits
    rw [if_pos rfl]
    omega
  · rw [if_neg a]
    by_cases b : most = 0
    · rw [if_pos b]
      unfold Fits
      rw [if_neg t_na, if_pos rfl]
      omega
    · rw [if_neg b]
      by_cases c : 0 < least ∧ most < whole
      · rw [if_pos c]
        unfold Fits
        rw [if_neg t_sa, if_neg t_sn]
        exact .inr (by omega)
      · rw [if_neg c]
        unfold Fits
        rw [if_neg t_oa, if_neg t_on]
        exact .inl rfl
section
variable {F0 F : Fol} {went changed : Int} {touched counts : List Int}
theorem Cnt.chg0 (C : Cnt F0 F went changed touched counts) : 0 ≤ changed := by
  have := C.tou
  omega
/-- signs can only be changed while a letter is there -/
theorem Cnt.some (C : Cnt F0 F went changed touched counts) (h : 0 < changed) : (F0.ls.length : Int) + (F.up - F0.up) ≠ 0 := by
  have c1 := C.up
  cases ht : touched with
  | nil =>
    have := C.tou
    rw [ht, List.length_nil] at this
    omega
  | cons n r =>
    rcases C.tin n (by rw [ht]; exact List.mem_cons_self) with q | q
    · have : 0 < (nums F0).length := List.length_pos_of_mem q
      rw [nums_len] at this
      omega
    · omega
theorem Cnt.still_most (I0 : Inv F0) (C : Cnt F0 F went changed touched counts) : ((nums F0).filter fun n => decide (n ∈ nums F)).length ≤ F0.ls.length ∧ ((nums F0).filter fun n => decide (n ∈ nums F)).length ≤ F.ls.length := by
  constructor
  · have := List.length_filter_le (fun n => decide (n ∈ nums F)) (nums F0)
    rw [nums_len] at this
    exact this
  · have := len_sub ((nums F0).filter fun n => decide (n ∈ nums F)) (nums F) (nodup_filter I0.nd) fun x hx => by
      have := (List.mem_filter.mp hx).2
      simpa using this
    rw [nums_len] at this
    exact this
theorem Cnt.same (I0 : Inv F0) (C : Cnt F0 F went changed touched counts) :
    (F0.ls.length : Int) - changed ≤ (((nums F0).filter fun n => !decide (n ∈ touched)).length : Int) ∧
    (((nums F0).filter fun n => !decide (n ∈ touched)).length : Int) ≤ (F0.ls.length : Int) - (if 0 < changed ∧ F.up - F0.up = 0 then 1 else 0) := by
  have sp := filter_split (fun n => decide (n ∈ touched)) (nums F0)
  rw [nums_len] at sp
  constructor
  · have a1 : ((nums F0).filter fun n => decide (n ∈ touched)).length ≤ touched.length := by
      refine len_sub _ _ (nodup_filter I0.nd) fun x hx => ?_
      have := (List.mem_filter.mp hx).2
      simpa using this
    have := C.tou
    omega
  · by_cases c : 0 < changed ∧ F.up - F0.up = 0
    · rw [if_pos c]
      have hpos : 0 < ((nums F0).filter fun n => decide (n ∈ touched)).length := by
        cases ht : touched with
        | nil =>
          have := C.tou
          rw [ht, List.length_nil] at this
          omega
        | cons n r =>
          have hn : n ∈ touched := by rw [ht]; exact List.mem_cons_self
          rcases C.tin n hn with q | q
          · rw [← ht]
            exact List.length_pos_of_mem (List.mem_filter.mpr ⟨q, by simpa using hn⟩)
          · omega
      omega
    · rw [if_neg c]
      omega
end
end K59
/-! K59S: set(t) of a tuple of ints as a value; set(t) of a tuple of texts, and sorted of such a set. -/
namespace K59S
open PySem PySem.Spec PyProof.Rows L2 PySem.Froz
/-! ### a set of texts whose table can be walked -/
def Wk (w : World) (tb : SetTable) : Prop := Ris tb.place.toList ∧ (w.params.followText "set-order" = true ∨ tb.led = true)
theorem Wk.tail {w : World} {ep : Nat} {es : Array (Int × Value)} {tb : SetTable} {wd : Bool} (g : Wk w tb) : Wk w (tailTx ep es tb wd).2.2 := by
  unfold tailTx
  split
  · refine ⟨relayAll_ris tb es _, g.2.imp id fun z => ?_⟩
    show (relayAll tb es _).2.1.led = true
    rw [relayAll_led]
    exact z
  · exact g
theorem Wk.add {w : World} {D : SD} {hh : Int} {v : Value} (g : Wk w D.2.2) : Wk w (addTx hh v D).2.2 := by
  unfold addTx
  refine Wk.tail ?_
  have r1 := layNew_ris D.2.2 D.1 hh v g.1
  have r2 : (layNew D.2.2 D.1 hh v).2.1.led = D.2.2.led := layNew_led D.2.2 D.1 hh v
  have r3 : w.params.followText "set-order" = true ∨ (layNew D.2.2 D.1 hh v).2.1.led = true := g.2.imp id fun z => by rw [r2]; exact z
  split
  · exact ⟨r1, r3⟩
  · exact ⟨r1, r3⟩
/-- at a: a set of the texts l -/
def SetS (P : Program) (w : World) (h : Heap) (a : Addr) (l : List Str) : Prop := ∃ D : SD, h.get? a = some (sObj "set" D) ∧ TxOk P w D l ∧ Wk w D.2.2
theorem SetS.at {P : Program} {w : World} {h h' : Heap} {a : Addr} {l : List Str} (R : SetS P w h a l) (k : ∀ o, h.get? a = some o → h'.get? a = some o) : SetS P w h' a l := by
  obtain ⟨D, g, r⟩ := R
  exact ⟨D, k _ g, r⟩
section
variable {P : Program} {w : World} {A : Around} {E : Value → Shared → Prop} {s : Shared}
/-- a text that is in already -/
theorem dup_x {a : Addr} {T : String} {D : SD} {l : List Str} {k : Str} {u : Tok} {Q : Bool → Shared → Prop} (g : s.heap.get? a = some (sObj T D)) (F : TxOk P w D l) (hk : k ∈ l) (few : l.length < scanBound)
    (q : Q false s) : wpAny (model P w) A (setAddHashed a (.str k u) (hashStr w k)) Q E s := by
  obtain ⟨es, ep, tb⟩ := D
  have g2 : (sObj T (es, ep, tb)).data = .set es ep tb := rfl
  have fit : tb.fits es.size = true := F.fit
  have elem : ElemsOf (strKind P w) es.toList := F.el
  have size : es.size = l.length := F.sz
  have key : (strKind P w).is k (.str k u) = true := is_str k u
  unfold setAddHashed setAddHashedIn
  refine wpAny_holding (wpAny_bind (wpAny_setState_of g g2 fit ?_))
  dsimp only
  rw [byScan_of rfl (by rw [size]; exact few) elem]
  simp only [↓reduceIte]
  unfold setAddByScan
  refine wpAny_bind ?_
  refine wpAny_bind (wpAny_rule ?_)
  refine wpAny_bind (wpAny_setScan_of (knd := strKind P w) (k := k) key g g2 fit elem ?_)
  cases found : List.findIdx? (fun e => (strKind P w).is k e.2) es.toList with
  | some j =>
    dsimp only
    exact wpAny_pure (wpAny_pure q)
  | none =>
    obtain ⟨e, he, c⟩ := (F.mem k).mp hk
    have c2 := List.findIdx?_eq_none_iff.mp found e he
    rw [c] at c2
    cases c2
theorem add_s {a : Addr} {l : List Str} {k : Str} {u : Tok} {Q : Bool → Shared → Prop} (R : SetS P w s.heap a l) (nd : l.Nodup) (few : l.length + 1 < scanBound)
    (q : ∀ (b : Bool) (h' : Heap) (l' : List Str), Heap.SameBut a s.heap h' → SetS P w h' a l' → l'.Nodup → l'.length ≤ l.length + 1 → (∀ x ∈ l', x = k ∨ x ∈ l) → Q b { s with heap := h' }) :
    wpAny (model P w) A (setAddHashed a (.str k u) (hashStr w k)) Q E s := by
  obtain ⟨D, g, F, W⟩ := R
  by_cases hk : k ∈ l
  · exact dup_x g F hk (by omega) (q false s.heap l (Heap.SameBut.refl a s.heap) ⟨D, g, F, W⟩ nd (Nat.le_succ _) fun x hx => .inr hx)
  · exact add_x g F hk few (q true _ (k :: l) (Heap.SameBut.update s.heap a _) ⟨_, get_upd _ g rfl, add_ok u F, W.add⟩ (List.nodup_cons.mpr ⟨hk, nd⟩) (Nat.le_refl _) fun x hx => List.mem_cons.mp hx)
theorem upd_loop_s {I : Addr} {fp wr : List Addr} {G : Array GenState → Array GenState → Prop} {n : Nat} {Pv : Nat → Value → Prop} {St : Nat → Shared → Prop} {R : Result → Shared → Prop}
    (W : WalksS P w A.in1 I fp wr G n Pv St) (S : Addr) (off : S ∉ fp) (xs : List Str) (hn : n = xs.length) (few : xs.length + 1 < scanBound) (hval : ∀ i v, Pv i v → ∃ k t, xs[i]? = some k ∧ v = .str k t) :
    ∀ (m i : Nat) (s : Shared), n - i = m → i ≤ n → St i s → (∃ l, l.length ≤ i ∧ l.Nodup ∧ (∀ x ∈ l, x ∈ xs) ∧ SetS P w s.heap S l) →
      (∀ s' l, Moved (S :: wr) G s s' → l.length ≤ n → l.Nodup → (∀ x ∈ l, x ∈ xs) → SetS P w s'.heap S l → R (.ok (.ret .none)) s') →
      codeAny (model P w) A (.builtin "set.update.loop" ⟨[.ref S, .ref I], []⟩) R s := by
  have offw : S ∉ wr := fun z => off (W.sub _ z)
  have more : ∀ b ∈ wr, b ∈ S :: wr := fun b z => List.mem_cons_of_mem _ z
  intro m
  induction m with
  | zero =>
    intro i s hm hi st ⟨l, l1, l2, l3, l4⟩ q
    have e : i = n := by omega
    subst e
    refine codeAny_builtin F.entry_set_update_loop ?_
    rw [Around.under_plainId F.plain_set_update_loop _]
    show wpAny _ A.in1 (pyNext (.ref I) >>= _) _ _ s
    refine wpAny_bind (W.done s _ _ st fun s' mv => ?_)
    show wpAny _ A.in1 (ret Value.none) _ _ s'
    exact wpAny_pure (q s' l (mv.mono more) l1 l2 l3 (l4.at fun o z => mv.heap S o offw z))
  | succ m ih =>
    intro i s hm hi st ⟨l, l1, l2, l3, l4⟩ q
    have lt : i < n := by omega
    refine codeAny_builtin F.entry_set_update_loop ?_
    rw [Around.under_plainId F.plain_set_update_loop _]
    show wpAny _ A.in1 (pyNext (.ref I) >>= _) _ _ s
    refine wpAny_bind (W.item i s _ _ lt st fun v s' pv st' mv => ?_)
    obtain ⟨z, t, hz, rfl⟩ := hval i v pv
    have here : SetS P w s'.heap S l := l4.at fun o e => mv.heap S o offw e
    show wpAny _ A.in1 (holding [Value.str z t] (setAdd S (.str z t)) >>= _) _ _ s'
    refine wpAny_bind (wpAny_holding ?_)
    unfold setAdd
    refine wpAny_holding ?_
    refine wpAny_bind ((strKind P w).pyHash (k := z) (is_str z t) ?_)
    refine add_s (s := { s' with toks := s'.toks + 1 }) here l2 (by omega) fun b h' l' sb r1 r2 r3 r4 => ?_
    have zin : z ∈ xs := List.mem_of_getElem? hz
    have r5 : ∀ x ∈ l', x ∈ xs := fun x hx => by
      rcases r4 x hx with e | e
      · rw [e]
        exact zin
      · exact l3 x e
    refine wpAny_pure ⟨plainId_quiet F.plain_set_update_loop _, ih (i + 1) _ (by omega) lt (W.frame _ s' _ _ st' (Nat.le_succ _) fun b hb o e => ?_) ⟨l', by omega, r2, r5, r1⟩ fun s'' l2' mv2 a1 a2 a3 a4 => ?_⟩
    · rw [sb.2 b (fun e2 : b = S => off (by rw [← e2]; exact hb))]
      exact e
    · refine q s'' l2' (Moved.trans W.gtrans ((mv.mono more).then_heap (Nat.le_succ _) fun b o hb e => ?_) mv2) a1 a2 a3 a4
      rw [sb.2 b (fun e2 : b = S => hb (by rw [e2]; exact List.mem_cons_self))]
      exact e
/-- the object that set.__new__ lays -/
def fresh0 (w : World) : Obj := { cls := .type "set", dict := none, data := .set #[] 0 (.fresh 0 0 (!w.params.followText "set-order")) }
theorem fresh0_set {h : Heap} {a : Addr} (g : h.get? a = some (fresh0 w)) : SetS P w h a [] := by
  refine ⟨(#[], 0, .fresh 0 0 (!w.params.followText "set-order")), g, TxOk.nil rfl, List.Pairwise.nil, ?_⟩
  show _ ∨ (!w.params.followText "set-order") = true
  cases w.params.followText "set-order"
  · exact .inr rfl
  · exact .inl rfl
set_option maxHeartbeats 6400000 in
theorem call_set_tx {l : Addr} {items : Array Value} (xs : List Str) {Q : Value → Shared → Prop} (calm : A.handled = none) (tup : s.heap.IsTuple l items) (vals : StrsAre items.toList xs) (few : xs.length + 1 < scanBound)
    (q : ∀ (h' : Heap) (tk : Nat) (ys : List Str), SetS P w h' s.heap.objs.size ys → ys.Nodup → ys.length ≤ xs.length → (∀ x ∈ ys, x ∈ xs) → (∀ b o, s.heap.get? b = some o → h'.get? b = some o) → Q (.ref s.heap.objs.size) { s with heap := h', toks := tk }) :
    wpAny (model P w) A (call (.type "set") [.ref l]) Q E s := by
  have size : xs.length = items.size := by rw [← StrsAre.len_eq vals, Array.length_toList]
  obtain ⟨c, tl, mro⟩ := F.called_set.mro
  have made := F.called_set.made
  have sub := F.called_set.sub
  refine wpAny_call (codeAny_of_tree ?_)
  show wpAny _ _ (callAny (.type "set") _) _ _ _
  refine wpAny_pure ⟨Code.quiet_builtin _ (by decide +kernel), codeAny_builtin F.entry_type_call ?_⟩
  rw [Around.under_plain (weight_type_call_type "set" [.ref l] []) rfl]
  have n1 := F.called_set.notType
  have n2 := F.called_set.canCreate
  have n3 := F.typeCall_set_1 (.ref l)
  repeat (any_goals (first | assumption | wp_step))
  refine codeAny_mono (code_set_led1 (w := w) (.ref l) (E := E) (Q₁ := fun ob s1 => ob = .ref s.heap.objs.size ∧ s1 = { s with heap := s.heap.push (fresh0 w) }) ⟨rfl, rfl⟩) fun r s1 hr => ?_
  cases r with
  | error e => exact hr
  | ok fl =>
    cases fl with
    | ret ob =>
      obtain ⟨rfl, rfl⟩ := hr
      have gS : (s.heap.push (fresh0 w)).get? s.heap.objs.size = some (fresh0 w) := Heap.get?_push_size _ rfl
      have tS : Shared.TypeIs { s with heap := s.heap.push (fresh0 w) } (.ref s.heap.objs.size) "set" := ⟨_, gS, rfl⟩
      have i1 := F.called_set.init.lookup
      have i2 := F.called_set.init.bind (.ref s.heap.objs.size)
      repeat (any_goals (first | assumption | wp_step))
      refine codeAny_mono (codeAny_call_builtin (R := wants (fun r s2 => r = .none ∧ ∃ h' tk ys, s2 = { s with heap := h', toks := tk } ∧ SetS P w h' s.heap.objs.size ys ∧ ys.Nodup ∧ ys.length ≤ xs.length ∧ (∀ x ∈ ys, x ∈ xs) ∧
          (∀ b o, s.heap.get? b = some o → h'.get? b = some o)) E) F.called_set.init.plain F.entry_set_init (check_set_init_1 tS ?_)) fun r2 s2 hr2 => ?_
      · obtain ⟨ol, gl, hcl, nl, hdl⟩ := tup
        obtain ⟨ocls, odict, odata, oslots⟩ := ol
        simp only at hcl hdl
        subst hcl; subst hdl
        have gl' : (s.heap.push (fresh0 w)).get? l = some { cls := .type "tuple", dict := odict, data := .seq items nl, slots := oslots } := Heap.get?_push_of_some _ gl
        have u1 := F.sub_tuple_set
        have u2 := F.sub_tuple_frozenset
        have u3 : (Value.type "tuple" == Value.type "dict") = false := by decide
        have tup2 : (s.heap.push (fresh0 w)).IsTuple l items := ⟨_, gl', rfl, nl, rfl⟩
        unfold Builtin.«set.__init__» noKeywords Builtin.Frozenset.updateFrom
        generalize hPI : pyIter = PI
        wp_walk
        subst hPI
        refine wpAny_pyIter_tuple tup2 ?_
        refine wpAny_bind (wpAny_runValue ?_)
        have llt : l < s.heap.objs.size := Heap.lt_size gl
        have calm3 : A.in1.in1.in1.handled = none := by simp [calm]
        have neI : l ≠ (s.heap.push (fresh0 w)).objs.size := by
          rw [Heap.size_push]; exact Nat.ne_of_lt (Nat.lt_succ_of_lt llt)
        have offS : s.heap.objs.size ∉ [(s.heap.push (fresh0 w)).objs.size, l] := by
          rw [Heap.size_push]; simp only [List.mem_cons, List.mem_singleton, List.not_mem_nil, or_false, not_or]
          exact ⟨Nat.ne_of_lt (Nat.lt_succ_self _), Nat.ne_of_gt llt⟩
        have hval : ∀ (i : Nat) (v : Value), items[i]? = some v → ∃ k t, xs[i]? = some k ∧ v = .str k t := fun i v hv => by
          have hi : i < xs.length := by rw [size]; exact (Array.getElem?_eq_some_iff.mp hv).1
          obtain ⟨t, e⟩ := SS.strs_at vals i v (by rw [Array.getElem?_toList]; exact hv)
          refine ⟨xs[i], t, List.getElem?_eq_getElem hi, ?_⟩
          rw [e, List.getD_eq_getElem?_getD, List.getElem?_eq_getElem hi] <;> rfl
        refine upd_loop_s ((Walks.tuple calm3 _ l neI items).toS) s.heap.objs.size
          offS xs size.symm few hval (items.size - 0) 0 _ (by omega) (Nat.zero_le _)
          ⟨⟨_, Heap.get?_push_size _ rfl, rfl, rfl⟩, (tup2.push _)⟩ ?hS0 ?hR
        case hS0 =>
          have g0 : ((s.heap.push (fresh0 w)).push { cls := .type "tuple_iterator", data := .fields #[.ref l, .int 0 0] }).get? s.heap.objs.size
              = some (fresh0 w) := Heap.get?_push_of_some _ gS
          exact ⟨[], Nat.le_refl 0, List.nodup_nil, (fun x hx => by cases hx), fresh0_set g0⟩
        case hR =>
          intro s' ys mv a1 a2 a3 a4
          obtain ⟨h', g2, d', tk', os'⟩ := s'
          have eg : g2 = s.gens := mv.gens
          have ed : d' = s.drawn := mv.drawn
          have eo : os' = s.os := mv.os
          subst eg; subst ed; subst eo
          show wpAny _ _ _ _ _ _
          refine wpAny_pure ?_
          show wpAny _ _ (ret Value.none) _ _ _
          rw [← size] at a1
          refine wpAny_pure ⟨rfl, h', tk', ys, rfl, a4, a2, a1, a3, fun b o e => ?_⟩
          have b0 : b < s.heap.objs.size := Heap.lt_size e
          have b1 : b ≠ s.heap.objs.size := Nat.ne_of_lt b0
          have b2 : b ≠ (s.heap.push (fresh0 w)).objs.size := by
            rw [Heap.size_push]; exact Nat.ne_of_lt (Nat.lt_succ_of_lt b0)
          exact mv.heap b o (by simp only [List.mem_cons, List.mem_singleton, List.not_mem_nil, or_false, not_or]; exact ⟨b1, b2⟩) (Heap.get?_push_of_some _ (Heap.get?_push_of_some _ e))
      · cases r2 with
        | error e => exact hr2
        | ok fl2 =>
          cases fl2 with
          | ret r =>
            obtain ⟨rfl, h', tk, ys, rfl, a1, a2, a3, a4, a5⟩ := hr2
            repeat (any_goals (first | assumption | wp_step))
            exact q _ _ _ a1 a2 a3 a4 a5
          | _ => exact hr2.elim
    | _ => exact hr.elim
/-! ### sorted -/
def txOf : Value → Str
  | .str x _ => x
  | _ => Str.empty
theorem strs_of : ∀ (l : List Value), (∀ v ∈ l, ∃ k tk, v = Value.str k tk) → StrsAre l (l.map txOf)
  | [], _ => .nil
  | v :: l, h => by
    obtain ⟨k, tk, rfl⟩ := h v List.mem_cons_self
    exact .cons k tk (strs_of l fun u hu => h u (List.mem_cons_of_mem _ hu))
theorem el_str {l : List (Int × Value)} (g : ElemsOf (strKind P w) l) : ∀ e ∈ l, ∃ k tk, e.2 = Value.str k tk := fun e he => by
  obtain ⟨⟨k, hk, _⟩, _⟩ := g e he
  obtain ⟨t, q⟩ := Value.isStrOf_shape (x := k) (v := e.2) hk
  exact ⟨k, t, q⟩
theorem sorted_setS {a : Addr} {l : List Str} {Q : Value → Shared → Prop} (R : SetS P w s.heap a l) (calm : A.handled = none) (few : l.length < 64)
    (q : ∀ s' p (out : Array Value) (c : Nat) (ys : List Str), (∀ b o, s.heap.get? b = some o → s'.heap.get? b = some o) → s'.gens = s.gens → s'.os = s.os → s.heap.objs.size ≤ p →
      s'.heap.get? p = some (seqObj "list" out c) → StrsAre out.toList ys → ys.length = l.length → (∀ x ∈ ys, x ∈ l) → Q (.ref p) s') :
    wpAny (model P w) A (call (.builtin "sorted") [.ref a]) Q E s := by
  obtain ⟨⟨es, ep, tb⟩, g, F, W⟩ := R
  have size : es.size = l.length := F.sz
  refine Calls.call_function_entry kind_sorted plain_sorted entry_sorted (args_sorted1 _) ?_
  unfold Builtin.«sorted»
  refine wpAny_bind (m := checkCount "sorted" 1 1 _) (wpAny_pure ?_)
  refine wpAny_bind (collect_set (A := A.in1) calm ⟨_, g, rfl, rfl⟩ F.fit (by rw [size]; unfold scanBound; omega) W.1 W.2 fun s1 vs k1 hz g1 o1 pm => ?_)
  have vlen : vs.length = l.length := by
    rw [pm.length_eq, List.length_map, Array.length_toList]
    exact size
  have allS : ∀ v ∈ vs, ∃ k tk, v = Value.str k tk := fun v hv => by
    obtain ⟨e, he, c⟩ := List.mem_map.mp (pm.mem_iff.mp hv)
    obtain ⟨k, tk, h1⟩ := el_str F.el e he
    exact ⟨k, tk, by rw [← c]; exact h1⟩
  have hI : StrsAre vs (vs.map txOf) := strs_of vs allS
  have inl : ∀ x ∈ vs.map txOf, x ∈ l := fun x hx => by
    obtain ⟨v, hv, e⟩ := List.mem_map.mp hx
    obtain ⟨en, he, c⟩ := List.mem_map.mp (pm.mem_iff.mp hv)
    obtain ⟨k, tk, h1⟩ := el_str F.el en he
    have e2 : k = x := by
      rw [← e, ← c, h1]
      rfl
    refine (F.mem x).mpr ⟨en, he, ?_⟩
    rw [h1, e2]
    exact is_str x tk
  refine wpAny_bind (wpAny_newList ?_ (by rw [vlen, sizeLine_eq]; omega))
  have gL : (s1.heap.push (seqObj "list" vs.toArray 0)).get? s1.heap.objs.size = some (seqObj "list" vs.toArray 0) := Heap.get?_push_size _ rfl
  refine wpAny_bind (wpAny_holding (wpAny_call_entry slot_list_sort ⟨_, gL, rfl⟩ entry_list_sort
    (list_sort_treeK strKind_oneLt gL hI.keysOf (fun v1 v2 rest e => keyKind_strs (by rw [← e]; exact hI)) (by rw [vlen]; exact few) fun st' hp hs => ?_) (args_list_sort _)))
  obtain ⟨ys, y1, y2, y3⟩ := sorted_out_str hI hp hs
  obtain ⟨c, hc⟩ := sortedHeap_at (vs := vs) (out := (arrOf st').map (·.2)) gL
  refine ⟨_, rfl, ?_⟩
  refine wpAny_pure ⟨_, rfl, q _ s1.heap.objs.size ((arrOf st').map (·.2)) c ys (fun b u e => ?_) g1 o1 hz hc y1 ?_ ?_⟩
  · have e2 := k1 b u e
    have lt := Heap.lt_size e2
    show (sortedHeap (s1.heap.push (seqObj "list" vs.toArray 0)) s1.heap.objs.size vs _).get? b = some u
    rw [sortedHeap_old (Nat.ne_of_lt lt) (by rw [size_push']; exact Nat.lt_succ_of_lt lt)]
    exact Heap.get?_push_of_some _ e2
  · rw [y2.length_eq, List.length_map, vlen]
  · exact fun x hx => inl x (y2.mem_iff.mp hx)
end
/-! ### the same over the layer -/
/-- a set of texts at a -/
def SetSO (P : Program) (w : World) (a : Addr) (l : List Str) : HO := .ext fun h => SetS P w h a l
section
variable {X : Cx}
theorem setSO_new {P : Program} {w : World} {H : Hp} {h : Heap} {a : Addr} {l : List Str} (R : SetS P w h a l) : ObjOk P w H h a (SetSO P w a l) := by
  have ⟨D, g, _⟩ := R
  exact ⟨R, ⟨_, g⟩, fun h1 h2 p k => SetS.at p k⟩
/-- set(t), t a tuple of ints -/
def rSetI (K : PySem.W.Frag) (w : World) : List V → Hp → VK → Prop := fun xs H Q => ∃ (p : Addr) (ns : List Int), xs = [.ref p] ∧ SqT K H p (ns.map V.int) ∧ ns.length ≤ 1000 ∧
  ∀ (a : Addr) (c : Nat), H a = none → Q (.ref a) (upd H a (SetO w a (fun j => decide (j ∈ ns)) c))
theorem cr_setI (hc : X.calm = true) : CallR X (.type "set") (rSetI X.K X.w) := by
  intro pins s σ H xs us Q I r h
  obtain ⟨p, ns, rfl, sq, few, q⟩ := h
  rw [Vals.ref1 r]
  obtain ⟨its, rv, pt, hz⟩ := I.tuple sq
  refine call_set_tupI ns (I.ok.hd hc) (show s.heap.IsTuple p its.toArray from pt) (ints_of_vals rv) (by unfold scanBound; omega) fun h' tk c R1 hcn k => ?_
  exact ⟨.ref s.heap.objs.size, upd H s.heap.objs.size (SetO X.w s.heap.objs.size (fun j => decide (j ∈ ns)) c), I.laid (t' := tk) k (Nat.le_refl _) (setO_new R1), rfl, q _ c (I.hok.fresh (Nat.le_refl _))⟩
/-- set(t), t a tuple of texts -/
def rSetT (K : PySem.W.Frag) (P : Program) (w : World) : List V → Hp → VK → Prop := fun xs H Q => ∃ (p : Addr) (zs : List Str), xs = [.ref p] ∧ SqT K H p (zs.map V.str) ∧ zs.length ≤ 1000 ∧
  ∀ (a : Addr) (ys : List Str), H a = none → ys.Nodup → ys.length ≤ zs.length → (∀ x ∈ ys, x ∈ zs) → Q (.ref a) (upd H a (SetSO P w a ys))
theorem cr_setT (hc : X.calm = true) : CallR X (.type "set") (rSetT X.K X.prog X.w) := by
  intro pins s σ H xs us Q I r h
  obtain ⟨p, zs, rfl, sq, few, q⟩ := h
  rw [Vals.ref1 r]
  obtain ⟨its, rv, pt, hz⟩ := I.tuple sq
  refine call_set_tx (P := X.prog) zs (I.ok.hd hc) (show s.heap.IsTuple p its.toArray from pt) (by simpa using strsAre_of rv) (by unfold scanBound; omega) fun h' tk ys R1 a1 a2 a3 k => ?_
  exact ⟨.ref s.heap.objs.size, upd H s.heap.objs.size (SetSO X.prog X.w s.heap.objs.size ys), I.laid (t' := tk) k (Nat.le_refl _) (setSO_new R1), rfl, q _ ys (I.hok.fresh (Nat.le_refl _)) a1 a2 a3⟩
/-- sorted(found), found a set of fewer than 64 texts -/
def rSortT (P : Program) (w : World) : List V → Hp → VK → Prop := fun xs H Q => ∃ (a : Addr) (l : List Str), xs = [.ref a] ∧ H a = some (SetSO P w a l) ∧ l.length < 64 ∧
  ∀ (ys : List Str) (p : Addr), ys.length = l.length → (∀ x ∈ ys, x ∈ l) → H p = none → Q (.ref p) (upd H p (.lst (ys.map V.str)))
theorem cr_sortT (hc : X.calm = true) : CallR X (.builtin "sorted") (rSortT X.prog X.w) := by
  intro pins s σ H xs us Q I r h
  obtain ⟨a, l, rfl, ha, few, q⟩ := h
  rw [Vals.ref1 r]
  have R : SetS X.prog X.w s.heap a l := (I.hok a _ ha).1
  refine sorted_setS R (I.ok.hd hc) few fun s' p out c ys k g o hp hg hi hl hm => ?_
  have hlen : (ys.map V.str).length ≤ sizeLine := by rw [List.length_map, hl, sizeLine_eq]; omega
  have hn : H p = none := I.hok.fresh hp
  have J : Inv X pins σ (upd H p (.lst (ys.map V.str))) { s with heap := s'.heap, gens := s'.gens, drawn := s'.drawn, toks := s'.toks } :=
    I.call (ch := []) (Un.laid k hp hn) (I.hok.laid k hp ⟨hlen, out.toList, c, vals_of_strs hi, hg⟩) (by rw [g]; exact I.bare) (fun _ z => nomatch z)
  have e : s' = { s with heap := s'.heap, gens := s'.gens, drawn := s'.drawn, toks := s'.toks } := by
    cases s'
    cases s
    cases o
    rfl
  rw [e]
  exact ⟨.ref p, _, J, rfl, q ys p hl hm hn⟩
end
end K59S
/-! K59B: the text by places, what stands in the heap, rules that lack. -/
namespace K59
open PySem PySem.Spec PyProof.Rows L2 K59S
open Evl (Ex)
/-! ### the text -/
def top (i : Nat) : Stmt := PySem.Challenge.pw_mailtide_k59_whole_sights_of_real_folder.main.body.getD i (.Pass ⟨0, 0, 0, 0⟩)
abbrev sIsInt : Stmt := top 12
abbrev sIsLeast : Stmt := top 13
abbrev sIsSign : Stmt := top 14
abbrev sIsSigns : Stmt := top 15
abbrev sIsNumbers : Stmt := top 16
abbrev sIsSight : Stmt := top 18
abbrev sCheckSights : Stmt := top 19
abbrev sBetween : Stmt := top 20
abbrev sMost : Stmt := top 21
abbrev sFewest : Stmt := top 22
abbrev sWordOf : Stmt := top 23
abbrev sSurely : Stmt := top 24
abbrev sInit : Stmt := inClass (top 26) 0
abbrev sAge : Stmt := inClass (top 26) 2
abbrev sLetters : Stmt := inClass (top 26) 3
abbrev sNext : Stmt := inClass (top 26) 4
abbrev sMark : Stmt := inClass (top 26) 5
abbrev sAppended : Stmt := inClass (top 26) 8
abbrev sAdded : Stmt := inClass (top 26) 9
abbrev sTaken : Stmt := inClass (top 26) 10
abbrev sSetTo : Stmt := inClass (top 26) 11
abbrev sRemoved : Stmt := inClass (top 26) 12
abbrev sTwin : Stmt := top 28
abbrev sCheckNumbers : Stmt := top 29
abbrev sCheckFolder : Stmt := top 30
abbrev sAmong : Stmt := top 31
abbrev sWithLetter : Stmt := top 32
abbrev sResigned : Stmt := top 33
abbrev sWithout : Stmt := top 34
abbrev sDone : Stmt := top 37
abbrev sHasForm : Stmt := top 38
abbrev sPlayed : Stmt := top 39
abbrev sCellAt : Stmt := top 41
abbrev sWell : Stmt := top 42
abbrev sDraw : Stmt := top 43
abbrev sOne : Stmt := top 44
abbrev sSigns : Stmt := top 45
abbrev sDeed : Stmt := top 46
abbrev sFolder : Stmt := top 47
abbrev sSight : Stmt := top 48
abbrev sFits : Stmt := top 49
abbrev sLaw : Stmt := top 50
/-! ### what the walk asks of the top -/
structure Txt (K : PySem.W.Frag) (mg : Str → Option Value) (C : Addr) : Prop where
  cl : Cls K C
  nY : NoAttr K C "years"
  nH : NoAttr K C "holding"
  nU : NoAttr K C "upcoming"
  nL : NoAttr K C "latest"
  nW : NoAttr K C "went"
  nO : NoAttr K C "low"
  isC : C8.InsC K C
  mgC : mg "Folder" = some (.ref C)
  len : mg "len" = none
  isi : mg "isinstance" = none
  int : mg "int" = none
  bool : mg "bool" = none
  str : mg "str" = none
  all : mg "all" = none
  range : mg "range" = none
  list : mg "list" = none
  tuple : mg "tuple" = none
  min : mg "min" = none
  max : mg "max" = none
  set : mg "set" = none
  sorted : mg "sorted" = none
  enum : mg "enumerate" = none
  dict : mg "dict" = none
  letters : ∃ u, mg "LETTERS" = some u ∧ RelV (.str "abcdefghijklmnopqrstuvwxyz") u
  mostL : ∃ u, mg "MOST_LETTERS" = some u ∧ RelV (.int 8) u
  mostS : ∃ u, mg "MOST_SIGNS" = some u ∧ RelV (.int 6) u
/-! ### heaps -/
theorem ex_upd {H H' : Hp} {p : Addr} {o : HO} (e : Ex H H') (h : H p = none) : Ex H (upd H' p o) := Evl.Ex.mut e h
theorem free {H H' : Hp} {p : Addr} (e : Ex H H') (h : H' p = none) : H p = none := Evl.fresh_back e h
/-- all but p is as it was -/
def Exb (p : Addr) (H H' : Hp) : Prop := ∀ b o, b ≠ p → H b = some o → H' b = some o
theorem Exb.refl (p : Addr) (H : Hp) : Exb p H H := fun _ _ _ h => h
theorem Exb.trans {p : Addr} {H H1 H2 : Hp} (a : Exb p H H1) (b : Exb p H1 H2) : Exb p H H2 := fun x o n h => b x o n (a x o n h)
theorem Exb.of {p : Addr} {H H' : Hp} (e : Ex H H') : Exb p H H' := fun b o _ h => e b o h
theorem Exb.put {p : Addr} {H H' : Hp} {o : HO} (e : Exb p H H') : Exb p H (upd H' p o) := fun b u n h => by
  rw [upd_ne n]
  exact e b u n h
theorem Exb.new {p q : Addr} {H H' : Hp} {o : HO} (e : Exb p H H') (h : H q = none) : Exb p H (upd H' q o) := fun b u n hb => by
  rw [upd_ne (ne_of_none hb h)]
  exact e b u n hb
/-- what is no list is not the well -/
theorem Exb.keep {p b : Addr} {H H' : Hp} {xs : List V} {o : HO} (e : Exb p H H') (hp : H p = some (.lst xs)) (hb : H b = some o) (ne : o ≠ .lst xs) : H' b = some o := e b o (ne_of hb hp ne) hb
/-! ### letters and folders in the heap -/
def LtrAt (H : Hp) (v : V) (l : Ltr) : Prop := ∃ t g, v = .ref t ∧ H t = some (.tup [.int l.num, .int l.body, .ref g, .int l.mark]) ∧ H g = some (.tup (l.sg.map V.str))
abbrev LtrsAt (H : Hp) : List V → List Ltr → Prop := Paired (LtrAt H)
/-- the fields, in the order in which __init__ stores them -/
def ff (y h u l w o : V) : List (Str × V) := [("years", y), ("holding", h), ("upcoming", u), ("latest", l), ("went", w), ("low", o)]
def FolAt (C : Addr) (H : Hp) (p : Addr) (F : Fol) : Prop := ∃ (dx h w : Addr) (vs ws : List V),
  H p = some (.ins C dx (ff (.int F.age) (.ref h) (.int F.up) (.int F.lat) (.ref w) (.int 0))) ∧ H h = some (.tup vs) ∧ LtrsAt H vs F.ls ∧ H w = some (.tup ws) ∧ (ws.length : Int) ≤ F.lat
theorem LtrAt.mono {H H' : Hp} {v : V} {l : Ltr} (e : Ex H H') (h : LtrAt H v l) : LtrAt H' v l := by
  obtain ⟨t, g, e1, e2, e3⟩ := h
  exact ⟨t, g, e1, e _ _ e2, e _ _ e3⟩
theorem LtrsAt.mono {H H' : Hp} (e : Ex H H') : ∀ {vs : List V} {ls : List Ltr}, LtrsAt H vs ls → LtrsAt H' vs ls
  | _, _, .nil => .nil
  | _, _, .cons a b => .cons (a.mono e) (LtrsAt.mono e b)
theorem FolAt.mono {C : Addr} {H H' : Hp} {p : Addr} {F : Fol} (e : Ex H H') (h : FolAt C H p F) : FolAt C H' p F := by
  obtain ⟨dx, a, w, vs, ws, h1, h2, h3, h4, h5⟩ := h
  exact ⟨dx, a, w, vs, ws, e _ _ h1, e _ _ h2, h3.mono e, e _ _ h4, h5⟩
theorem LtrAt.keep {q : Addr} {xs : List V} {H H' : Hp} {v : V} {l : Ltr} (hq : H q = some (.lst xs)) (e : Exb q H H') (h : LtrAt H v l) : LtrAt H' v l := by
  obtain ⟨t, g, e1, e2, e3⟩ := h
  exact ⟨t, g, e1, e.keep hq e2 (fun z => nomatch z), e.keep hq e3 (fun z => nomatch z)⟩
theorem LtrsAt.keep {q : Addr} {xs : List V} {H H' : Hp} (hq : H q = some (.lst xs)) (e : Exb q H H') : ∀ {vs : List V} {ls : List Ltr}, LtrsAt H vs ls → LtrsAt H' vs ls
  | _, _, .nil => .nil
  | _, _, .cons a b => .cons (a.keep hq e) (LtrsAt.keep hq e b)
theorem FolAt.keep {C q : Addr} {xs : List V} {H H' : Hp} {p : Addr} {F : Fol} (hq : H q = some (.lst xs)) (e : Exb q H H') (h : FolAt C H p F) : FolAt C H' p F := by
  obtain ⟨dx, a, w, vs, ws, h1, h2, h3, h4, h5⟩ := h
  exact ⟨dx, a, w, vs, ws, e.keep hq h1 (fun z => nomatch z), e.keep hq h2 (fun z => nomatch z), h3.keep hq e, e.keep hq h4 (fun z => nomatch z), h5⟩
theorem LtrsAt.length {H : Hp} {vs : List V} {ls : List Ltr} (h : LtrsAt H vs ls) : vs.length = ls.length := Paired.length h
theorem LtrsAt.get {H : Hp} : ∀ {vs : List V} {ls : List Ltr} {i : Nat} {v : V}, LtrsAt H vs ls → vs[i]? = some v → ∃ l, ls[i]? = some l ∧ LtrAt H v l
  | _, _, _, _, .nil, e => by simp at e
  | _, _, 0, _, .cons r _, e => by simp at e; subst e; exact ⟨_, rfl, r⟩
  | _, _, i + 1, v, .cons _ t, e => by
    obtain ⟨u, h1, h2⟩ := LtrsAt.get (i := i) (v := v) t (by simpa using e)
    exact ⟨u, by simpa using h1, h2⟩
theorem LtrsAt.snoc {H : Hp} : ∀ {vs : List V} {ls : List Ltr} {v : V} {l : Ltr}, LtrsAt H vs ls → LtrAt H v l → LtrsAt H (vs ++ [v]) (ls ++ [l])
  | _, _, _, _, .nil, h => .cons h .nil
  | _, _, _, _, .cons a b, h => .cons a (LtrsAt.snoc b h)
/-! ### fields -/
theorem k_hy : ¬ (("holding" : Str) = "years") := by decide +kernel
theorem k_uy : ¬ (("upcoming" : Str) = "years") := by decide +kernel
theorem k_uh : ¬ (("upcoming" : Str) = "holding") := by decide +kernel
theorem k_ly : ¬ (("latest" : Str) = "years") := by decide +kernel
theorem k_lh : ¬ (("latest" : Str) = "holding") := by decide +kernel
theorem k_lu : ¬ (("latest" : Str) = "upcoming") := by decide +kernel
theorem k_wy : ¬ (("went" : Str) = "years") := by decide +kernel
theorem k_wh : ¬ (("went" : Str) = "holding") := by decide +kernel
theorem k_wu : ¬ (("went" : Str) = "upcoming") := by decide +kernel
theorem k_wl : ¬ (("went" : Str) = "latest") := by decide +kernel
theorem k_oy : ¬ (("low" : Str) = "years") := by decide +kernel
theorem k_oh : ¬ (("low" : Str) = "holding") := by decide +kernel
theorem k_ou : ¬ (("low" : Str) = "upcoming") := by decide +kernel
theorem k_ol : ¬ (("low" : Str) = "latest") := by decide +kernel
theorem k_ow : ¬ (("low" : Str) = "went") := by decide +kernel
section
variable (y h u l w o v : V)
theorem ff_y : (ff y h u l w o).lookup ("years" : Str) = some y := by unfold ff; rw [List.lookup_cons_self]
theorem lk_ne {a b : Str} {x : V} {r : List (Str × V)} (e : ¬ a = b) : ((b, x) :: r).lookup a = r.lookup a := by
  have e2 : (a == b) = false := by simpa using e
  rw [List.lookup_cons, e2]
theorem ff_h : (ff y h u l w o).lookup ("holding" : Str) = some h := by unfold ff; rw [lk_ne k_hy, List.lookup_cons_self]
theorem ff_u : (ff y h u l w o).lookup ("upcoming" : Str) = some u := by unfold ff; rw [lk_ne k_uy, lk_ne k_uh, List.lookup_cons_self]
theorem ff_l : (ff y h u l w o).lookup ("latest" : Str) = some l := by unfold ff; rw [lk_ne k_ly, lk_ne k_lh, lk_ne k_lu, List.lookup_cons_self]
theorem ff_w : (ff y h u l w o).lookup ("went" : Str) = some w := by unfold ff; rw [lk_ne k_wy, lk_ne k_wh, lk_ne k_wu, lk_ne k_wl, List.lookup_cons_self]
theorem ff_o : (ff y h u l w o).lookup ("low" : Str) = some o := by unfold ff; rw [lk_ne k_oy, lk_ne k_oh, lk_ne k_ou, lk_ne k_ol, lk_ne k_ow, List.lookup_cons_self]
theorem ff_no {m : Str} (h1 : ¬ m = "years") (h2 : ¬ m = "holding") (h3 : ¬ m = "upcoming") (h4 : ¬ m = "latest") (h5 : ¬ m = "went") (h6 : ¬ m = "low") : (ff y h u l w o).lookup m = none := by
  unfold ff
  rw [lk_ne h1, lk_ne h2, lk_ne h3, lk_ne h4, lk_ne h5, lk_ne h6]
  rfl
theorem putF_eq {a : Str} {x : V} {r : List (Str × V)} : putF a v ((a, x) :: r) = (a, v) :: r := by
  show (if a = a then _ else _) = _
  rw [if_pos rfl]
theorem putF_ne {a b : Str} {x : V} {r : List (Str × V)} (e : ¬ a = b) : putF a v ((b, x) :: r) = (b, x) :: putF a v r := by
  show (if b = a then _ else _) = _
  rw [if_neg fun z => e z.symm]
theorem ff_ph : putF "holding" v (ff y h u l w o) = ff y v u l w o := by unfold ff; rw [putF_ne _ k_hy, putF_eq]
theorem ff_pu : putF "upcoming" v (ff y h u l w o) = ff y h v l w o := by unfold ff; rw [putF_ne _ k_uy, putF_ne _ k_uh, putF_eq]
theorem ff_pl : putF "latest" v (ff y h u l w o) = ff y h u v w o := by unfold ff; rw [putF_ne _ k_ly, putF_ne _ k_lh, putF_ne _ k_lu, putF_eq]
theorem ff_pw : putF "went" v (ff y h u l w o) = ff y h u l v o := by unfold ff; rw [putF_ne _ k_wy, putF_ne _ k_wh, putF_ne _ k_wu, putF_ne _ k_wl, putF_eq]
theorem ff_po : putF "low" v (ff y h u l w o) = ff y h u l w v := by unfold ff; rw [putF_ne _ k_oy, putF_ne _ k_oh, putF_ne _ k_ou, putF_ne _ k_ol, putF_ne _ k_ow, putF_eq]
/-- the fields as __init__ lays them -/
theorem ff_init : putF "low" o (putF "went" w (putF "latest" l (putF "upcoming" u (putF "holding" h (putF "years" y []))))) = ff y h u l w o := by
  have e0 : ∀ (a : Str) (x : V), putF a x [] = [(a, x)] := fun a x => rfl
  rw [e0, putF_ne _ k_hy, e0, putF_ne _ k_uy, putF_ne _ k_uh, e0, putF_ne _ k_ly, putF_ne _ k_lh, putF_ne _ k_lu, e0, putF_ne _ k_wy, putF_ne _ k_wh, putF_ne _ k_wu, putF_ne _ k_wl, e0, putF_ne _ k_oy, putF_ne _ k_oh, putF_ne _ k_ou, putF_ne _ k_ol, putF_ne _ k_ow, e0]
  rfl
theorem ff_len : (ff y h u l w o).length < 1000 := by
  show 6 < 1000
  decide
end
/-! ### e.f as one of several targets -/
def gFld (K : PySem.W.Frag) (to : TE) (f : Str) : TG := fun v σ H Q => to σ H fun x H2 => ∃ a C dx fs, x = .ref a ∧ H2 a = some (.ins C dx fs) ∧ Cls K C ∧ NoAttr K C f ∧ fs.length < 1000 ∧ Q σ (upd H2 a (.ins C dx (putF f v fs)))
theorem pg_fld {X : Cx} {o : Expr} {to : TE} {f : Str} {pos : Pos} (ho : PE X o to) : PG X (.Attribute o f pos) (gFld X.K to f) := by
  refine ⟨fun pins s σ H v u Q I r h => ?_⟩
  rw [assign_Attribute]
  refine wpAny_bind (wpAny_holding (thn (ho.run pins s σ H _ I h) fun ov s1 ⟨x, H1, I1, r1, a, C, dx, fs, ex, ea, c, n, l, q⟩ => ?_))
  subst ex
  obtain rfl : ov = Value.ref a := r1
  refine wpAny_bind (wpAny_standAt (wpAny_bind (wpAny_holding (setattr_ok I1 ea c n l r fun s3 I3 => ?_))))
  exact wpAny_release ⟨σ, _, I3, q⟩
/-! ### rules whose written part is named (within comprehensions) -/
theorem ixT {X : Cx} {K : PySem.W.Frag} (e : X.K = K := by rfl) : IxR X (rIxT K) := by
  subst e
  exact ix_tup
/-! ### small things -/
theorem lt_line {n : Nat} (h : n ≤ 100000) : n ≤ sizeLine := Evl.sz_of h
theorem ne_ref {p q : Addr} (h : p ≠ q) : V.ref p ≠ V.ref q := fun e => h (V.ref.inj e)
end K59
/-! K59C: comprehensions that change nothing; the checks of words.py. -/
namespace K59
open PySem PySem.Spec PyProof.Rows L2 K59S
open Evl (Ex Ev EvT)
/-! ### a comprehension whose parts change nothing -/
/-- evaluates to a value of which R is told -/
def EvR (te : TE) (σ : L2.St) (H : Hp) (R : V → Hp → Prop) : Prop := ∀ H1, Ex H H1 → ∀ Q : VK, (∀ v H2, Ex H1 H2 → R v H2 → Q v H2) → te σ H1 Q
theorem paired_snoc {α β : Type} {R : α → β → Prop} : ∀ {xs : List α} {ys : List β} {x : α} {y : β}, Paired R xs ys → R x y → Paired R (xs ++ [x]) (ys ++ [y])
  | _, _, _, _, .nil, h => .cons h .nil
  | _, _, _, _, .cons a b, h => .cons a (paired_snoc b h)
theorem paired_imp {α β : Type} {R R' : α → β → Prop} (f : ∀ a b, R a b → R' a b) : ∀ {xs : List α} {ys : List β}, Paired R xs ys → Paired R' xs ys
  | _, _, .nil => .nil
  | _, _, .cons a b => .cons (f _ _ a) (paired_imp f b)
theorem paired_fn {α β : Type} {f : α → β} : ∀ {xs : List α} {ys : List β}, Paired (fun x y => y = f x) xs ys → ys = xs.map f
  | _, _, .nil => rfl
  | _, _, .cons a b => by rw [List.map_cons, a, paired_fn b]
theorem take_filter {α : Type} {p : α → Bool} {xs : List α} {i : Nat} {x : α} (h : xs[i]? = some x) : (xs.take (i + 1)).filter p = if p x = true then (xs.take i).filter p ++ [x] else (xs.take i).filter p := by
  have e : xs.take (i + 1) = xs.take i ++ [x] := by
    rw [List.take_add_one, h]
    rfl
  rw [e, List.filter_append]
  by_cases c : p x = true
  · rw [if_pos c, List.filter_cons_of_pos c]
    rfl
  · rw [if_neg c, List.filter_cons_of_neg c]
    show _ ++ [] = _
    rw [List.append_nil]
/-- what stands behind i turns -/
def LcP (H1 : Hp) (D : Addr) (xs : List V) (p : V → Bool) (R : V → V → Hp → Prop) (i : Nat) (H' : Hp) : Prop := Ex H1 H' ∧ ∃ ys, H' D = some (.lst ys) ∧ Paired (fun x y => R x y H') ((xs.take i).filter p) ys
theorem lc_gen {J : It} {n : Nat} {G : Hp → Prop} {xs : List V} {tt : TT} {te : TE} {vs : List Nat} {σ : L2.St} {H1 : Hp} {D : Addr} {j : Nat} {Qd : Hp → Prop} (w : Walk J n G (fun i H x H' => H' = H ∧ xs[i]? = some x)) (hn : n = xs.length) (small : xs.length ≤ 100000)
    (hD : H1 D = none) (hG : ∀ H', Ex H1 H' → G H') (p : V → Bool) (R : V → V → Hp → Prop) (mono : ∀ x y H H' zs, H D = some (.lst zs) → Exb D H H' → R x y H → R x y H')
    (hw : ∀ x, wipe ((wipe σ vs).set j (some x)) vs = wipe σ vs)
    (ht : ∀ x ∈ xs, EvT tt ((wipe σ vs).set j (some x)) H1 (p x))
    (he : ∀ x ∈ xs, p x = true → EvR te ((wipe σ vs).set j (some x)) H1 (R x))
    (q : ∀ ys H', Ex H1 H' → H' D = some (.lst ys) → Paired (fun x y => R x y H') (xs.filter p) ys → Qd H') :
    ∃ W : Nat → Nat → Hp → Prop, (∃ m, W 0 m (upd H1 D (.lst []))) ∧ ∀ i m H, W i m H →
      (J.stop i H ∧ Qd H) ∨ (J.go i H ∧ ∃ Nx : Hp → Prop, (∀ H', Nx H' → ∃ m', m' < m ∧ W (i + 1) m' H') ∧ ∀ x H', J.yld i H x H' → gName j x (wipe σ vs) H' fun σ2 H2 => wipe σ2 vs = wipe σ vs ∧ tt σ2 H2 fun b H3 =>
        if b = true then te σ2 H3 fun y H4 => ∃ acc, H4 D = some (.lst acc) ∧ acc.length < sizeLine ∧ Nx (upd H4 D (.lst (acc ++ [y]))) else Nx H3) := by
  subst hn
  refine lc_it w (LcP H1 D xs p R) ⟨ex_upd (Evl.Ex.refl H1) hD, [], upd_same, .nil⟩ (fun i H' _ P => hG H' P.1) (fun i x H' H'' hi P y => ?_) fun H' P => ?_
  · obtain ⟨e, hx⟩ := y
    subst e
    obtain ⟨e1, ys, hL, pr⟩ := P
    have xin : x ∈ xs := List.mem_of_getElem? hx
    refine ⟨hw x, ht x xin _ e1 _ fun H3 e3 => ?_⟩
    have pr3 : Paired (fun x y => R x y H3) ((xs.take i).filter p) ys := paired_imp (fun a b z => mono a b _ _ ys hL (Exb.of e3) z) pr
    cases c : p x with
    | true =>
      show te _ H3 _
      refine he x xin c H3 (e1.trans e3) _ fun v H4 e4 r => ?_
      have pr4 : Paired (fun x y => R x y H4) ((xs.take i).filter p) ys := paired_imp (fun a b z => mono a b _ _ ys (e3 _ _ hL) (Exb.of e4) z) pr3
      have lys : ys.length ≤ xs.length := by
        rw [← Paired.length pr]
        exact Nat.le_trans (List.length_filter_le _ _) (by rw [List.length_take]; exact Nat.min_le_right _ _)
      refine ⟨ys, e4 _ _ (e3 _ _ hL), Nat.lt_of_le_of_lt lys (Nat.lt_of_le_of_lt small (by decide)), ex_upd ((e1.trans e3).trans e4) hD, ys ++ [v], upd_same, ?_⟩
      rw [take_filter hx, if_pos c]
      have up : ∀ a b, R a b H4 → R a b (upd H4 D (.lst (ys ++ [v]))) := fun a b z => mono a b H4 _ ys (e4 _ _ (e3 _ _ hL)) (Exb.put (Exb.refl D H4)) z
      exact paired_snoc (paired_imp up pr4) (up _ _ r)
    | false =>
      show LcP H1 D xs p R (i + 1) H3
      refine ⟨e1.trans e3, ys, e3 _ _ hL, ?_⟩
      rw [take_filter hx, if_neg (by rw [c]; exact Bool.false_ne_true)]
      exact pr3
  · obtain ⟨e1, ys, hL, pr⟩ := P
    rw [List.take_length] at pr
    exact q ys H' e1 hL pr
theorem iteY {c A B : Prop} [Decidable c] (hc : c) (h : A) : if decide c = true then A else B := by
  rw [decide_eq_true hc]
  exact iteT h
theorem iteN {c A B : Prop} [Decidable c] (hc : ¬ c) (h : B) : if decide c = true then A else B := by
  rw [decide_eq_false hc]
  exact iteF h
/-- .. of a negated test -/
theorem iteNY {c A B : Prop} [Decidable c] (hc : ¬ c) (h : A) : if (!decide c) = true then A else B := by
  rw [decide_eq_false hc]
  exact iteT h
/-! ### the checks of words.py -/
section
variable {P : Program} {w : World} {K : PySem.W.Frag} {mg : Str → Option Value} {base : Heap} {C : Addr}
def spIsInt : Sp := fun vs H Q _ => ∃ i, vs = [.int i] ∧ ∀ H', Ex H H' → Q (.bl true) H'
theorem scIsInt : FnScope ["thing"] ["thing"] (C8.fnScope sIsInt) := ⟨rfl, rfl, rfl, by decide +kernel, rfl, by decide +kernel, by decide +kernel⟩
theorem ok_isInt {f : Addr} {fd : FuncData} (F : C8.Def K mg "is_int" sIsInt f fd) (b : Binds K fd ["thing"] []) (T : Txt K mg C) : C8.Cal P w K mg base 1 "is_int" spIsInt [] := by
  refine C8.cal0 F b .nil scIsInt (fun vs H Q E h => ?_) (fun cdv A outer s H vs Q E hr h => ?_)
  · obtain ⟨i, rfl, _⟩ := h
    rfl
  · obtain ⟨i, rfl, q⟩ := h
    refine ⟨_, pss_one (ps_ret (pe_and (pe_callB call_isi (by rfl) T.isi (by decide +kernel) (pa_cons (pv 0) (pa_cons (pe_bltn (v := .ty "int") (by rfl) T.int (by decide +kernel) rfl) pa_nil)))
      (pe_one (pe_not (pe_callB call_isi (by rfl) T.isi (by decide +kernel) (pa_cons (pv 0) (pa_cons (pe_bltn (v := .ty "bool") (by rfl) T.bool (by decide +kernel) rfl) pa_nil))))))), ?_⟩
    refine ⟨_, rfl, _, _, _, _, true, rfl, .ty _, .base (.int i), kit_ty (by decide +kernel), true, rfl, iteT ?_⟩
    exact ⟨_, rfl, _, _, _, _, false, rfl, .ty _, .base (.int i), kit_ty (by decide +kernel), false, rfl, q H (Evl.Ex.refl H)⟩
def spIsLeast : Sp := fun vs H Q _ => ∃ i j, vs = [.int i, .int j] ∧ ∀ H', Ex H H' → Q (.bl (decide (j ≤ i))) H'
theorem scIsLeast : FnScope ["thing", "least"] ["thing", "least"] (C8.fnScope sIsLeast) := ⟨rfl, rfl, rfl, by decide +kernel, rfl, by decide +kernel, by decide +kernel⟩
theorem ok_isLeast {f : Addr} {fd : FuncData} (F : C8.Def K mg "is_least" sIsLeast f fd) (b : Binds K fd ["thing", "least"] []) (T : Txt K mg C) (c1 : C8.Cal P w K mg base 1 "is_int" spIsInt []) : C8.Cal P w K mg base 2 "is_least" spIsLeast [] := by
  refine C8.cal0 F b .nil scIsLeast (fun vs H Q E h => ?_) (fun cdv A outer s H vs Q E hr h => ?_)
  · obtain ⟨i, j, rfl, _⟩ := h
    rfl
  · obtain ⟨i, j, rfl, q⟩ := h
    refine ⟨_, pss_one (ps_ret (pe_and (C8.pe_c c1 hr (by decide) (by rfl) (pa_cons (pv 0) pa_nil)) (pe_one (pe_cmpR op_ge (pv 0) (pv 1) (nomark _))))), ?_⟩
    refine ⟨_, rfl, i, rfl, fun H1 e1 => ⟨true, rfl, iteT ?_⟩⟩
    exact ⟨_, rfl, _, rfl, _, _, rfl, rfl, q H1 e1⟩
def spIsSign : Sp := fun vs H Q _ => ∃ s, vs = [.str s] ∧ SignOk s ∧ ∀ H', Ex H H' → Q (.bl true) H'
theorem scIsSign : FnScope ["thing", "letter"] ["thing"] (C8.fnScope sIsSign) := ⟨rfl, rfl, rfl, by decide +kernel, rfl, by decide +kernel, by decide +kernel⟩
theorem all_true {xs : List V} : (xs.map fun _ => true).all id = true := by
  rw [List.all_map]
  exact List.all_eq_true.mpr fun _ _ => rfl
theorem map_true (xs : List V) : xs.map (fun _ => V.bl true) = (xs.map fun _ => true).map V.bl := by
  rw [List.map_map]
  rfl
theorem filter_true (xs : List V) : xs.filter (fun _ => true) = xs := List.filter_eq_self.mpr fun _ _ => rfl
/-- the signs of a text, one by one -/
def sings (s : Str) : List V := s.cps.toList.map fun c => .str ⟨#[c]⟩
theorem walk_sings {z : Str} : Walk (Its z) z.cps.size (fun _ => True) (fun i H v H' => H' = H ∧ (sings z)[i]? = some v) :=
  walk_str.mono (fun _ h => h) fun i H x H' _ _ y => by
    obtain ⟨e, c, h1, h2⟩ := y
    refine ⟨e, ?_⟩
    unfold sings
    rw [List.getElem?_map, Array.getElem?_toList, h1, h2]
    rfl
theorem sings_len (z : Str) : z.cps.size = (sings z).length := by
  unfold sings
  rw [List.length_map, Array.length_toList]
theorem ev_yes {σ : L2.St} {H : Hp} : EvT tYes σ H true := fun H1 _ _ q => q H1 (Evl.Ex.refl H1)
theorem all_sq {H : Hp} {D : Addr} {xs ys : List V} (hL : H D = some (.lst ys)) (pr : Paired (fun _ y => y = V.bl true) (xs.filter fun _ => true) ys) : SqL K H D ((xs.map fun _ => true).map V.bl) := by
  have e := paired_fn (f := fun _ => V.bl true) pr
  rw [filter_true, map_true] at e
  exact .of (by rw [← e]; exact hL)
theorem walk_rng {lo : Int} {n : Nat} : Walk (Itr lo n) n (fun _ => True) (fun i H v H' => H' = H ∧ ((List.range n).map fun i : Nat => V.int (lo + (i : Int)))[i]? = some v) :=
  walk_range.mono (fun _ h => h) fun i H x H' hi _ y => by
    obtain ⟨e, h1⟩ := y
    refine ⟨e, ?_⟩
    rw [List.getElem?_map, List.getElem?_range hi, h1]
    rfl
theorem ok_isSign {f : Addr} {fd : FuncData} (F : C8.Def K mg "is_sign" sIsSign f fd) (b : Binds K fd ["thing"] []) (T : Txt K mg C) : C8.Cal P w K mg base 1 "is_sign" spIsSign [] := by
  refine C8.cal0 F b .nil scIsSign (fun vs H Q E h => ?_) (fun cdv A outer s H vs Q E hr h => ?_)
  · obtain ⟨i, rfl, _⟩ := h
    rfl
  · obtain ⟨z, rfl, ⟨z1, z2, z3⟩, q⟩ := h
    refine ⟨_, pss_cons (ps_if (PW.pt (pw_or (pt_not (pt_val (pe_callB call_isi (by rfl) T.isi (by decide +kernel) (pa_cons (pv 0) (pa_cons (pe_bltn (v := .ty "str") (by rfl) T.str (by decide +kernel) rfl) pa_nil)))))
        (pw_or1 (pt_not (pt_chain op_le op_le pe_int (pe_callB call_len_str (by rfl) T.len boot_len (pa_cons (pv 0) pa_nil)) (C8.pe_gc (by rfl) T.mostL)))))) (pss_one (ps_ret pe_bl)) pss_nil)
      (pss_one (ps_ret (pe_callB (cr_all rfl) (by rfl) T.all (by decide +kernel) (pa_cons (pe_lc (own := [("letter", 1)]) (g := gName 1) (tt := tYes) rfl scIsSign.nd (pi_str (pv 0)) (blkOk_by (N := ["thing", "letter"]) (sc := C8.fnScope sIsSign) (by decide +kernel))
        (fun _ _ _ _ _ => pg_name (i := 1) scIsSign.nd rfl (Or.inl rfl)) (fun _ _ _ _ _ => pts_nil) (fun _ _ _ _ _ => pe_cmpR op_in_sign (pv 1) (C8.pe_gc (by rfl) T.letters) rfl)) pa_nil)))), ?_⟩
    refine ⟨_, rfl, _, _, _, _, true, rfl, .ty _, .base (.str z), kit_ty (by decide +kernel), true, rfl, iteF ?_⟩
    refine ⟨_, rfl, z, rfl, lt_line (by omega), _, _, rfl, rfl, _, rfl, iteY (by omega) ⟨_, _, rfl, rfl, _, rfl, ?_⟩⟩
    refine iteNS (by omega) ?_
    refine ⟨_, rfl, z, rfl, fun D hD => lc_gen walk_sings (sings_len z) (by rw [← sings_len]; exact Nat.le_trans z2 (by decide)) hD (fun _ _ => True.intro) (fun _ => true) (fun x y _ => y = .bl true) (fun _ _ _ _ _ _ _ e => e) (fun _ => rfl) (fun _ _ => ev_yes)
      (fun x hx _ H1 e1 Q1 k => ?_) fun ys H' e hL pr => ⟨D, _, rfl, all_sq hL pr, by rw [all_true]; exact q H' e⟩⟩
    obtain ⟨c, hc, rfl⟩ := List.mem_map.mp hx
    exact ⟨_, rfl, c, _, rfl, rfl, k _ H1 (Evl.Ex.refl H1) (by rw [decide_eq_true (z3 c hc)])⟩
/-- what is_signs asks of a tuple of texts -/
structure SigsOk (zs : List Str) : Prop where
  few : zs.length ≤ 6
  each : ∀ z ∈ zs, SignOk z
  asc : ∀ (k : Nat) (x y : Str), zs[k]? = some x → zs[k + 1]? = some y → x.cps.toList < y.cps.toList
def spIsSigns : Sp := fun vs H Q _ => ∃ a zs, vs = [.ref a] ∧ H a = some (.tup (zs.map V.str)) ∧ SigsOk zs ∧ ∀ H', Ex H H' → Q (.bl true) H'
theorem scIsSigns : FnScope ["thing", "one", "k"] ["thing"] (C8.fnScope sIsSigns) := ⟨rfl, rfl, rfl, by decide +kernel, rfl, by decide +kernel, by decide +kernel⟩
theorem ok_isSigns {f : Addr} {fd : FuncData} (F : C8.Def K mg "is_signs" sIsSigns f fd) (b : Binds K fd ["thing"] []) (T : Txt K mg C) (c1 : C8.Cal P w K mg base 1 "is_sign" spIsSign []) : C8.Cal P w K mg base 2 "is_signs" spIsSigns [] := by
  refine C8.cal0 F b .nil scIsSigns (fun vs H Q E h => ?_) (fun cdv A outer s H vs Q E hr h => ?_)
  · obtain ⟨i, zs, rfl, _⟩ := h
    rfl
  · obtain ⟨a, zs, rfl, ha, ⟨few, each, asc⟩, q⟩ := h
    refine ⟨_, pss_cons (ps_if (PW.pt (pw_or (pt_not (pt_val (pe_callB call_isi (by rfl) T.isi (by decide +kernel) (pa_cons (pv 0) (pa_cons (pe_bltn (v := .ty "tuple") (by rfl) T.tuple (by decide +kernel) rfl) pa_nil)))))
        (pw_or (pt_cmpR op_gt (pe_callB call_len_seq (by rfl) T.len boot_len (pa_cons (pv 0) pa_nil)) (C8.pe_gc (by rfl) T.mostS) (nomark _))
          (pw_or1 (pt_not (pt_val (pe_callB (cr_all rfl) (by rfl) T.all (by decide +kernel) (pa_cons (pe_lc (own := [("one", 1)]) (g := gName 1) (tt := tYes) rfl scIsSigns.nd (pi_tup (pv 0)) (blkOk_by (N := ["thing", "one", "k"]) (sc := C8.fnScope sIsSigns) (by decide +kernel))
            (fun _ _ _ _ _ => pg_name (i := 1) scIsSigns.nd rfl (Or.inl rfl)) (fun _ _ _ _ _ => pts_nil) (fun _ _ _ _ _ => C8.pe_c c1 hr (by decide) (by rfl) (pa_cons (pv 1) pa_nil))) pa_nil)))))))) (pss_one (ps_ret pe_bl)) pss_nil)
      (pss_one (ps_ret (pe_callB (cr_all rfl) (by rfl) T.all (by decide +kernel) (pa_cons (pe_lc (own := [("k", 2)]) (g := gName 2) (tt := tYes) rfl scIsSigns.nd (pi_range1 (by rfl) T.range (pa_cons (pe_op op_sub (pe_callB call_len_seq (by rfl) T.len boot_len (pa_cons (pv 0) pa_nil)) pe_int) pa_nil))
        (blkOk_by (N := ["thing", "one", "k"]) (sc := C8.fnScope sIsSigns) (by decide +kernel))
        (fun _ _ _ _ _ => pg_name (i := 2) scIsSigns.nd rfl (Or.inl rfl)) (fun _ _ _ _ _ => pts_nil) (fun _ _ _ _ _ => pe_cmpR op_lt_str (pe_ix (ixT (K := K)) (pv 0) (pv 2) (fun _ _ => rfl)) (pe_ix (ixT (K := K)) (pv 0) (pe_op op_add (pv 2) pe_int) (fun _ _ => rfl)) (nomark _))) pa_nil)))), ?_⟩
    refine ⟨_, rfl, _, _, _, _, true, rfl, .ty _, .base (.tup ha), kit_ty (by decide +kernel), true, rfl, iteF ?_⟩
    refine ⟨_, rfl, a, _, rfl, .inr (.of ha), _, _, rfl, rfl, _, rfl, iteN (by rw [List.length_map]; omega) ?_⟩
    have lz : (zs.map V.str).length ≤ 100000 := by
      rw [List.length_map]
      omega
    refine ⟨_, rfl, a, rfl, ⟨_, .of ha⟩, fun D hD => lc_gen walk_tup rfl lz hD (fun H' e => .of (e _ _ ha)) (fun _ => true) (fun x y _ => y = .bl true) (fun _ _ _ _ _ _ _ e => e) (fun _ => rfl) (fun _ _ => ev_yes)
      (fun x hx _ H1 e1 Q1 k => ?_) fun ys H' e hL pr => ?_⟩
    · obtain ⟨z, hz, rfl⟩ := List.mem_map.mp hx
      exact ⟨_, rfl, z, rfl, each z hz, fun H2 e2 => k _ H2 e2 rfl⟩
    · refine ⟨D, _, rfl, all_sq hL pr, ?_⟩
      rw [all_true]
      refine ⟨_, rfl, iteF ?_⟩
      have ha' := e _ _ ha
      refine ⟨_, rfl, a, _, rfl, .inr (.of ha'), _, _, rfl, rfl, _, rfl, by rw [List.length_map]; omega, by rw [List.length_map]; omega, fun D2 hD2 => ?_⟩
      refine lc_gen (xs := (List.range ((((zs.map V.str).length : Nat) : Int) - 1).toNat).map fun i : Nat => V.int (0 + (i : Int))) walk_rng (by simp only [List.length_map, List.length_range]) (by simp only [List.length_map, List.length_range]; omega) hD2 (fun _ _ => True.intro) (fun _ => true) (fun x y _ => y = .bl true) (fun _ _ _ _ _ _ _ e => e)
        (fun _ => rfl) (fun _ _ => ev_yes) (fun x hx _ H1 e1 Q1 k => ?_) fun ys2 H2 e2 hL2 pr2 => ⟨D2, _, rfl, all_sq hL2 pr2, by rw [all_true]; exact q H2 (e.trans e2)⟩
      obtain ⟨i, hi, rfl⟩ := List.mem_map.mp hx
      have hi2 : i + 1 < zs.length := by
        have := List.mem_range.mp hi
        rw [List.length_map] at this
        omega
      have h1 : zs[i]? = some zs[i] := List.getElem?_eq_getElem (by omega)
      have h2 : zs[i + 1]? = some zs[i + 1] := List.getElem?_eq_getElem hi2
      have g1 : (zs.map V.str)[i]? = some (.str zs[i]) := by
        rw [List.getElem?_map, h1]
        rfl
      have g2 : (zs.map V.str)[i + 1]? = some (.str zs[i + 1]) := by
        rw [List.getElem?_map, h2]
        rfl
      have ha1 := e1 _ _ ha'
      refine ⟨_, rfl, _, rfl, a, _, _, _, rfl, rfl, .of ha1, at_of (by omega) g1, _, rfl, _, rfl, _, _, rfl, rfl, a, _, _, _, rfl, rfl, .of ha1, at_of (j := i + 1) (by omega) g2, _, _, rfl, rfl, k _ H1 (Evl.Ex.refl H1) ?_⟩
      rw [decide_eq_true (asc i _ _ h1 h2)]
/-- numbers from 1 on, not too many -/
def NumsOk (ns : List Int) : Prop := (∀ n ∈ ns, 1 ≤ n) ∧ ns.length ≤ 1000
def spIsNumbers : Sp := fun vs H Q _ => ∃ a ns, vs = [.ref a] ∧ H a = some (.tup (ns.map V.int)) ∧ NumsOk ns ∧ ∀ H', Ex H H' → Q (.bl true) H'
theorem scIsNumbers : FnScope ["thing", "one"] ["thing"] (C8.fnScope sIsNumbers) := ⟨rfl, rfl, rfl, by decide +kernel, rfl, by decide +kernel, by decide +kernel⟩
theorem kit_lt : PySem.W.kitAny K (.type "tuple") [.type "list", .type "tuple"] = some true :=
  kitAny_cons (b := false) (kit_ty (by decide +kernel)) (fun _ => kitAny_cons (b := true) (kit_ty (by decide +kernel)) (fun z => nomatch z) fun _ => rfl) fun z => nomatch z
theorem ok_isNumbers {f : Addr} {fd : FuncData} (F : C8.Def K mg "is_numbers" sIsNumbers f fd) (b : Binds K fd ["thing"] []) (T : Txt K mg C) (c1 : C8.Cal P w K mg base 2 "is_least" spIsLeast []) : C8.Cal P w K mg base 3 "is_numbers" spIsNumbers [] := by
  refine C8.cal0 F b .nil scIsNumbers (fun vs H Q E h => ?_) (fun cdv A outer s H vs Q E hr h => ?_)
  · obtain ⟨i, zs, rfl, _⟩ := h
    rfl
  · obtain ⟨a, ns, rfl, ha, ⟨each, few⟩, q⟩ := h
    refine ⟨_, pss_one (ps_ret (pe_and (pe_callB call_isiT (by rfl) T.isi (by decide +kernel) (pa_cons (pv 0) (pa_cons (pe_tup (pa_cons (pe_bltn (v := .ty "list") (by rfl) T.list (by decide +kernel) rfl) (pa_cons (pe_bltn (v := .ty "tuple") (by rfl) T.tuple (by decide +kernel) rfl) pa_nil))) pa_nil)))
      (pe_one (pe_callB (cr_all rfl) (by rfl) T.all (by decide +kernel) (pa_cons (pe_lc (own := [("one", 1)]) (g := gName 1) (tt := tYes) rfl scIsNumbers.nd (pi_tup (pv 0)) (blkOk_by (N := ["thing", "one"]) (sc := C8.fnScope sIsNumbers) (by decide +kernel))
            (fun _ _ _ _ _ => pg_name (i := 1) scIsNumbers.nd rfl (Or.inl rfl)) (fun _ _ _ _ _ => pts_nil) (fun _ _ _ _ _ => C8.pe_c c1 hr (by decide) (by rfl) (pa_cons (pv 1) (pa_cons pe_int pa_nil)))) pa_nil))))), ?_⟩
    refine ⟨_, rfl, by show 2 ≤ sizeLine; decide, fun p hp => ?_⟩
    have e0 : Ex H (upd H p (.tup [.ty "list", .ty "tuple"])) := Evl.Ex.new hp
    have ha' := e0 _ _ ha
    refine ⟨_, p, _, _, _, true, rfl, upd_same, .cons (.ty _) (.cons (.ty _) .nil), .base (.tup ha'), kit_lt, true, rfl, iteT ?_⟩
    have lz : (ns.map V.int).length ≤ 100000 := by
      rw [List.length_map]
      omega
    refine ⟨_, rfl, a, rfl, ⟨_, .of ha'⟩, fun D hD => lc_gen walk_tup rfl lz hD (fun H' e => .of (e _ _ ha')) (fun _ => true) (fun x y _ => y = .bl true) (fun _ _ _ _ _ _ _ e => e) (fun _ => rfl) (fun _ _ => ev_yes)
      (fun x hx _ H1 e1 Q1 k => ?_) fun ys H' e hL pr => ⟨D, _, rfl, all_sq hL pr, by rw [all_true]; exact q H' (e0.trans e)⟩⟩
    obtain ⟨z, hz, rfl⟩ := List.mem_map.mp hx
    exact ⟨_, rfl, z, 1, rfl, fun H2 e2 => k _ H2 e2 (by rw [decide_eq_true (each z hz)])⟩
end
end K59
/-! K59D: alike.py. -/
namespace K59
open PySem PySem.Spec PyProof.Rows L2 K59S
open Evl (Ex Ev EvT)
/-- a sight -/
structure Sgt where
  age : Int
  count : Int
  up : Int
  mark : Int
def SgtAt (H : Hp) (a : Addr) (s : Sgt) : Prop := H a = some (.tup [.int s.age, .int s.count, .int s.up, .int s.mark])
structure SgtOk (s : Sgt) : Prop where
  age : 1 ≤ s.age
  count : 0 ≤ s.count
  lt : s.count < s.up
  mark0 : 0 ≤ s.mark
  mark : 2 * (s.up - 1) - s.count ≤ s.mark
  one : s.up = 1 → s.mark = 0
section
variable {P : Program} {w : World} {K : PySem.W.Frag} {mg : Str → Option Value} {base : Heap} {C : Addr}
def spIsSight : Sp := fun vs H Q _ => ∃ a s, vs = [.ref a] ∧ SgtAt H a s ∧ SgtOk s ∧ ∀ H', Ex H H' → Q (.bl true) H'
theorem scIsSight : FnScope ["thing", "age", "count", "upcoming", "mark", "one"] ["thing"] (C8.fnScope sIsSight) := ⟨rfl, rfl, rfl, by decide +kernel, rfl, by decide +kernel, by decide +kernel⟩
theorem ok_isSight {f : Addr} {fd : FuncData} (F : C8.Def K mg "is_sight" sIsSight f fd) (b : Binds K fd ["thing"] []) (T : Txt K mg C) (c_is_least : C8.Cal P w K mg base 2 "is_least" spIsLeast []) : C8.Cal P w K mg base 3 "is_sight" spIsSight [] := by
  refine C8.cal0 F b .nil scIsSight (fun vs H Q E h => ?_) (fun cdv A outer s H vs Q E hr h => ?_)
  · obtain ⟨i, zs, rfl, _⟩ := h
    rfl
  · obtain ⟨a, s, rfl, ha, ⟨g1, g2, g3, g4, g5, g6⟩, q⟩ := h
    refine ⟨_, (pss_cons (ps_if (PW.pt (pw_or (pt_not (pt_val (pe_callB call_isi (by rfl) T.isi (by decide +kernel) (pa_cons (pv 0) (pa_cons (pe_bltn (v := .ty "tuple") (by rfl) T.tuple (by decide +kernel) rfl) pa_nil))))) (pw_or (pt_cmpR op_ne (pe_callB call_len_seq (by rfl) T.len (by decide +kernel) (pa_cons (pv 0) pa_nil)) pe_int (nomark _)) (pw_or1 (pt_not (pt_val (pe_callB (cr_all rfl) (by rfl) T.all (by decide +kernel) (pa_cons (pe_lc (own := [("one", 5)]) (g := gName 5) (tt := tYes) rfl scIsSight.nd (pi_tup (pv 0)) (blkOk_by (N := ["thing", "age", "count", "upcoming", "mark", "one"]) (sc := C8.fnScope sIsSight) (by decide +kernel)) (fun _ _ _ _ _ => pg_name (i := 5) scIsSight.nd rfl (Or.inl rfl)) (fun _ _ _ _ _ => pts_nil) (fun _ _ _ _ _ => (C8.pe_c c_is_least hr (by decide) (by rfl) (pa_cons (pv 5) (pa_cons pe_int pa_nil))))) pa_nil)))))))) (pss_one (ps_ret pe_bl)) pss_nil)
        (pss_cons (ps_asg (pv 0) (pg_tup (by rfl) (pgs_cons (pg_name (i := 1) scIsSight.nd rfl (Or.inl rfl)) (pgs_cons (pg_name (i := 2) scIsSight.nd rfl (Or.inl rfl)) (pgs_cons (pg_name (i := 3) scIsSight.nd rfl (Or.inl rfl)) (pgs_cons (pg_name (i := 4) scIsSight.nd rfl (Or.inl rfl)) pgs_nil))))))
        (pss_cons (ps_if (PW.pt (pw_or (pt_cmpR op_lt (pv 1) pe_int (nomark _)) (pw_or (pt_cmpR op_ge (pv 2) (pv 3) (nomark _)) (pw_or1 (pt_cmpR op_lt (pv 4) (pe_op op_sub (pe_op op_mul pe_int (pe_op op_sub (pv 3) pe_int)) (pv 2)) (nomark _)))))) (pss_one (ps_ret pe_bl)) pss_nil)
        (pss_one (ps_ret (pe_or (pe_cmpR op_gt (pv 3) pe_int (nomark _)) (pe_one (pe_cmpR op_eq (pv 4) pe_int (nomark _))))))))), ?_⟩
    refine ⟨_, rfl, _, _, _, _, true, rfl, .ty _, .base (.tup ha), kit_ty (by decide +kernel), true, rfl, iteF ?_⟩
    refine ⟨_, rfl, a, _, rfl, .inr (.of ha), rfl, _, rfl, iteNS rfl ?_⟩
    refine ⟨_, rfl, a, rfl, ⟨_, .of ha⟩, fun D hD => lc_gen walk_tup rfl (by show 4 ≤ 100000; decide) hD (fun H' e => .of (e _ _ ha)) (fun _ => true) (fun x y _ => y = .bl true) (fun _ _ _ _ _ _ _ e => e) (fun _ => rfl) (fun _ _ => ev_yes)
      (fun x hx _ H1 e1 Q1 k => ?_) fun ys H' e hL pr => ⟨D, _, rfl, all_sq hL pr, ?_⟩⟩
    · have hx : x = .int s.age ∨ x = .int s.count ∨ x = .int s.up ∨ x = .int s.mark := by simpa using hx
      obtain ⟨z, rfl, hz⟩ : ∃ z, x = V.int z ∧ 0 ≤ z := by
        rcases hx with e | e | e | e
        · exact ⟨_, e, by omega⟩
        · exact ⟨_, e, by omega⟩
        · exact ⟨_, e, by omega⟩
        · exact ⟨_, e, by omega⟩
      exact ⟨_, rfl, z, 0, rfl, fun H2 e2 => k _ H2 e2 (by rw [decide_eq_true hz])⟩
    · rw [all_true]
      refine ⟨_, rfl, iteF ?_⟩
      refine ⟨_, rfl, a, _, rfl, .of (e _ _ ha), rfl, _, _, rfl, _, _, rfl, _, _, rfl, _, _, rfl, rfl, ?_⟩
      refine ⟨_, rfl, _, _, rfl, rfl, _, rfl, iteN (by omega) ?_⟩
      refine ⟨_, rfl, _, rfl, _, _, rfl, rfl, _, rfl, iteN (by omega) ?_⟩
      refine ⟨_, rfl, _, rfl, _, _, rfl, rfl, _, _, rfl, rfl, .inl ⟨by decide, by decide⟩, _, rfl, _, _, rfl, rfl, _, _, rfl, rfl, _, rfl, iteN (by omega) ?_⟩
      refine ⟨_, rfl, _, _, rfl, rfl, _, rfl, ?_⟩
      refine ite2 (fun c => ?_) (fun c => ?_)
      · exact q H' e
      · have c : ¬ 1 < s.up := by simpa using c
        have m0 : s.mark = 0 := g6 (by omega)
        refine ⟨_, rfl, rfl, ?_⟩
        have e0 : decide (V.int s.mark = V.int 0) = true := by rw [m0]; rfl
        rw [e0]
        exact q H' e
def spCheckSights : Sp := fun vs H Q _ => ∃ a b s t, vs = [.ref a, .ref b] ∧ SgtAt H a s ∧ SgtAt H b t ∧ SgtOk s ∧ SgtOk t ∧ ∀ H', Ex H H' → Q .non H'
theorem scCheckSights : FnScope ["one", "other"] ["one", "other"] (C8.fnScope sCheckSights) := ⟨rfl, rfl, rfl, by decide +kernel, rfl, by decide +kernel, by decide +kernel⟩
theorem ok_checkSights {f : Addr} {fd : FuncData} (F : C8.Def K mg "check_sights" sCheckSights f fd) (b : Binds K fd ["one", "other"] []) (T : Txt K mg C) (c_is_sight : C8.Cal P w K mg base 3 "is_sight" spIsSight []) : C8.Cal P w K mg base 4 "check_sights" spCheckSights [] := by
  refine C8.cal0 F b .nil scCheckSights (fun vs H Q E h => ?_) (fun cdv A outer s H vs Q E hr h => ?_)
  · obtain ⟨i, j, zs, ts, rfl, _⟩ := h
    rfl
  · obtain ⟨a, b, s, t, rfl, ha, hb, gs, gt, q⟩ := h
    refine ⟨_, (pss_cons (ps_if (pt_not (pt_val (C8.pe_c c_is_sight hr (by decide) (by rfl) (pa_cons (pv 0) pa_nil)))) pss_never pss_nil)
        (pss_one (ps_if (pt_not (pt_val (C8.pe_c c_is_sight hr (by decide) (by rfl) (pa_cons (pv 1) pa_nil)))) pss_never pss_nil))), ?_⟩
    refine ⟨_, rfl, a, s, rfl, ha, gs, fun H1 e1 => ⟨_, rfl, iteF ?_⟩⟩
    exact ⟨_, rfl, b, t, rfl, e1 _ _ hb, gt, fun H2 e2 => ⟨_, rfl, iteF (q H2 (e1.trans e2))⟩⟩
/-- what between tells -/
structure Btw (s t : Sgt) (came went changed : Int) : Prop where
  age : s.age = t.age
  e1 : t.up - s.up = came
  e2 : s.count + came - t.count = went
  e3 : t.mark - s.mark - came - went = changed
  c0 : 0 ≤ came
  w0 : 0 ≤ went
  g0 : 0 ≤ changed
  some : 0 < changed → s.count + came ≠ 0
def Three (H : Hp) (p : Addr) (x y z : V) : Prop := H p = some (.tup [x, y, z])
def spBetween : Sp := fun vs H Q _ => ∃ a b s t came went changed, vs = [.ref a, .ref b] ∧ SgtAt H a s ∧ SgtAt H b t ∧ SgtOk s ∧ SgtOk t ∧ Btw s t came went changed ∧
  ∀ p H', Ex H H' → Three H' p (.int came) (.int went) (.int changed) → Q (.ref p) H'
theorem scBetween : FnScope ["one", "other", "came", "went", "changed"] ["one", "other"] (C8.fnScope sBetween) := ⟨rfl, rfl, rfl, by decide +kernel, rfl, by decide +kernel, by decide +kernel⟩
def min3 (a b c : Int) : Int := if c < (if b < a then b else a) then c else (if b < a then b else a)
theorem nu_min3 (a b c : Int) : nuMin3 (.int a) (.int b) (.int c) = some (.int (min3 a b c)) := by
  have e : ∀ x y : Int, nuMin2 (.int x) (.int y) = some (.int (if y < x then y else x)) := fun x y => by
    show some (if decide (y < x) = true then V.int y else V.int x) = _
    by_cases h : y < x
    · rw [decide_eq_true h, if_pos h]
      rfl
    · rw [decide_eq_false h, if_neg h]
      rfl
  unfold nuMin3
  rw [e]
  show nuMin2 (.int (if b < a then b else a)) (.int c) = _
  rw [e]
  rfl
theorem min3_nn {a b c : Int} (ha : 0 ≤ a) (hb : 0 ≤ b) (hc : 0 ≤ c) : 0 ≤ min3 a b c := by
  unfold min3
  by_cases h : b < a
  · rw [if_pos h]
    by_cases h2 : c < b
    · rw [if_pos h2]
      exact hc
    · rw [if_neg h2]
      exact hb
  · rw [if_neg h]
    by_cases h2 : c < a
    · rw [if_pos h2]
      exact hc
    · rw [if_neg h2]
      exact ha
theorem ok_between {f : Addr} {fd : FuncData} (F : C8.Def K mg "between" sBetween f fd) (b : Binds K fd ["one", "other"] []) (T : Txt K mg C) (c_check_sights : C8.Cal P w K mg base 4 "check_sights" spCheckSights []) : C8.Cal P w K mg base 5 "between" spBetween [] := by
  refine C8.cal0 F b .nil scBetween (fun vs H Q E h => ?_) (fun cdv A outer s H vs Q E hr h => ?_)
  · obtain ⟨_, _, _, _, _, _, _, rfl, _⟩ := h
    rfl
  · obtain ⟨a, b, s, t, came, went, changed, rfl, ha, hb, gs, gt, B, q⟩ := h
    have ixo : ∀ (i j : Nat), True := fun _ _ => True.intro
    refine ⟨_, (pss_cons (ps_expr (C8.pe_c c_check_sights hr (by decide) (by rfl) (pa_cons (pv 0) (pa_cons (pv 1) pa_nil))))
        (pss_cons (ps_set (i := 2) scBetween.nd rfl (Or.inl rfl) (pe_op op_sub (pe_ix (ixT (K := K)) (pv 1) pe_int (fun _ _ => rfl)) (pe_ix (ixT (K := K)) (pv 0) pe_int (fun _ _ => rfl))))
        (pss_cons (ps_set (i := 3) scBetween.nd rfl (Or.inl rfl) (pe_op op_sub (pe_op op_add (pe_ix (ixT (K := K)) (pv 0) pe_int (fun _ _ => rfl)) (pv 2)) (pe_ix (ixT (K := K)) (pv 1) pe_int (fun _ _ => rfl))))
        (pss_cons (ps_set (i := 4) scBetween.nd rfl (Or.inl rfl) (pe_op op_sub (pe_op op_sub (pe_op op_sub (pe_ix (ixT (K := K)) (pv 1) pe_int (fun _ _ => rfl)) (pe_ix (ixT (K := K)) (pv 0) pe_int (fun _ _ => rfl))) (pv 2)) (pv 3)))
        (pss_cons (ps_if (PW.pt (pw_or (pt_cmpR op_ne (pe_ix (ixT (K := K)) (pv 0) pe_int (fun _ _ => rfl)) (pe_ix (ixT (K := K)) (pv 1) pe_int (fun _ _ => rfl)) (nomark _)) (pw_or1 (pt_cmpR op_lt (pe_callB (call_min3Nu rfl) (by rfl) T.min (by decide +kernel) (pa_cons (pv 2) (pa_cons (pv 3) (pa_cons (pv 4) pa_nil)))) pe_int (nomark _))))) (pss_one (ps_ret pe_non)) pss_nil)
        (pss_one (ps_ret (pe_ifExp (PW.pt (pw_and (pt_cmpR op_gt (pv 4) pe_int (nomark _)) (pw_and1 (pt_cmpR op_eq (pe_op op_add (pe_ix (ixT (K := K)) (pv 0) pe_int (fun _ _ => rfl)) (pv 2)) pe_int (nomark _))))) pe_non (pe_tup (pa_cons (pv 2) (pa_cons (pv 3) (pa_cons (pv 4) pa_nil)))))))))))), ?_⟩
    refine ⟨_, rfl, _, rfl, a, b, s, t, rfl, ha, hb, gs, gt, fun H1 e1 => ?_⟩
    have ha := e1 _ _ ha
    have hb := e1 _ _ hb
    obtain ⟨b1, rfl, rfl, rfl, b2, b3, b4, b5⟩ := B
    refine ⟨_, rfl, b, _, _, _, rfl, rfl, .of hb, at_of (j := 2) rfl rfl, _, rfl, a, _, _, _, rfl, rfl, .of ha, at_of (j := 2) rfl rfl, _, _, rfl, rfl, ?_⟩
    refine ⟨_, rfl, a, _, _, _, rfl, rfl, .of ha, at_of (j := 1) rfl rfl, _, rfl, _, _, rfl, rfl, _, rfl, b, _, _, _, rfl, rfl, .of hb, at_of (j := 1) rfl rfl, _, _, rfl, rfl, ?_⟩
    refine ⟨_, rfl, b, _, _, _, rfl, rfl, .of hb, at_of (j := 3) rfl rfl, _, rfl, a, _, _, _, rfl, rfl, .of ha, at_of (j := 3) rfl rfl, _, _, rfl, rfl, _, rfl, _, _, rfl, rfl, _, rfl, _, _, rfl, rfl, ?_⟩
    refine ⟨_, rfl, a, _, _, _, rfl, rfl, .of ha, at_of (j := 0) rfl rfl, _, rfl, b, _, _, _, rfl, rfl, .of hb, at_of (j := 0) rfl rfl, rfl, _, rfl, iteNS (by rw [b1]) ?_⟩
    refine ⟨_, rfl, _, rfl, _, rfl, _, _, _, _, rfl, nu_min3 _ _ _, _, _, rfl, rfl, _, rfl, iteN (by have := min3_nn b2 b3 b4; omega) ?_⟩
    refine ⟨_, rfl, _, _, rfl, rfl, _, rfl, ?_⟩
    have fin : tTup (tCons (tVar 2) (tCons (tVar 3) (tCons (tVar 4) tNil))) [some (.ref a), some (.ref b), some (.int (t.up - s.up)), some (.int (s.count + (t.up - s.up) - t.count)), some (.int (t.mark - s.mark - (t.up - s.up) - (s.count + (t.up - s.up) - t.count)))] H1 Q :=
      ⟨_, rfl, _, rfl, _, rfl, by show 3 ≤ sizeLine; decide, fun p hp => q p _ (ex_upd e1 (free e1 hp)) upd_same⟩
    refine ite2 (fun c => ?_) (fun c => ?_)
    · have c : 0 < t.mark - s.mark - (t.up - s.up) - (s.count + (t.up - s.up) - t.count) := by simpa using c
      refine ⟨_, rfl, a, _, _, _, rfl, rfl, .of ha, at_of (j := 1) rfl rfl, _, rfl, _, _, rfl, rfl, rfl, _, rfl, iteN (fun z => b5 c (V.int.inj z)) fin⟩
    · exact iteF fin
end
end K59
/-! K59E: alike.py, the rest. -/
namespace K59
open PySem PySem.Spec PyProof.Rows L2 K59S
open Evl (Ex Ev EvT)
def mx (i j : Int) : Int := if j > i then j else i
def mn (i j : Int) : Int := if j < i then j else i
def touchedOf (came changed : Int) : Int := if 0 < changed ∧ came = 0 then 1 else 0
section
variable {P : Program} {w : World} {K : PySem.W.Frag} {mg : Str → Option Value} {base : Heap} {C : Addr}
/-- two sights of which between tells came, went, changed -/
def Two (H : Hp) (vs : List V) (s t : Sgt) (came went changed : Int) : Prop := ∃ a b, vs = [.ref a, .ref b] ∧ SgtAt H a s ∧ SgtAt H b t ∧ SgtOk s ∧ SgtOk t ∧ Btw s t came went changed
def spMost : Sp := fun vs H Q _ => ∃ s t came went changed, Two H vs s t came went changed ∧ ∀ H', Ex H H' → Q (.int (s.count + came)) H'
theorem scMost : FnScope ["one", "other", "told"] ["one", "other"] (C8.fnScope sMost) := ⟨rfl, rfl, rfl, by decide +kernel, rfl, by decide +kernel, by decide +kernel⟩
theorem ok_most {f : Addr} {fd : FuncData} (F : C8.Def K mg "most_at_once" sMost f fd) (b : Binds K fd ["one", "other"] []) (T : Txt K mg C) (c_between : C8.Cal P w K mg base 5 "between" spBetween []) : C8.Cal P w K mg base 6 "most_at_once" spMost [] := by
  refine C8.cal0 F b .nil scMost (fun vs H Q E h => ?_) (fun cdv A outer s H vs Q E hr h => ?_)
  · obtain ⟨_, _, _, _, _, ⟨_, _, rfl, _⟩, _⟩ := h
    rfl
  · obtain ⟨s, t, came, went, changed, ⟨a, b, rfl, ha, hb, gs, gt, B⟩, q⟩ := h
    refine ⟨_, (pss_cons (ps_set (i := 2) scMost.nd rfl (Or.inl rfl) (C8.pe_c c_between hr (by decide) (by rfl) (pa_cons (pv 0) (pa_cons (pv 1) pa_nil))))
        (pss_one (ps_ret (pe_ifExp (pt_cmpR op_isN (pv 2) pe_non (nomark _)) pe_non (pe_op op_add (pe_ix (ixT (K := K)) (pv 0) pe_int (fun _ _ => rfl)) (pe_ix (ixT (K := K)) (pv 2) pe_int (fun _ _ => rfl))))))), ?_⟩
    refine ⟨_, rfl, _, rfl, a, b, s, t, came, went, changed, rfl, ha, hb, gs, gt, B, fun p H1 e1 hp => ?_⟩
    refine ⟨_, rfl, rfl, _, rfl, iteN (fun z => nomatch z) ?_⟩
    exact ⟨_, rfl, a, _, _, _, rfl, rfl, .of (e1 _ _ ha), at_of (j := 1) rfl rfl, _, rfl, p, _, _, _, rfl, rfl, .of hp, at_of (j := 0) rfl rfl, _, _, rfl, rfl, q H1 e1⟩
def spFewest : Sp := fun vs H Q _ => ∃ s t came went changed, Two H vs s t came went changed ∧ ∀ H', Ex H H' → Q (.int (mx 0 (s.count - went))) H'
theorem scFewest : FnScope ["one", "other", "told"] ["one", "other"] (C8.fnScope sFewest) := ⟨rfl, rfl, rfl, by decide +kernel, rfl, by decide +kernel, by decide +kernel⟩
theorem ok_fewest {f : Addr} {fd : FuncData} (F : C8.Def K mg "fewest_at_once" sFewest f fd) (b : Binds K fd ["one", "other"] []) (T : Txt K mg C) (c_between : C8.Cal P w K mg base 5 "between" spBetween []) : C8.Cal P w K mg base 6 "fewest_at_once" spFewest [] := by
  refine C8.cal0 F b .nil scFewest (fun vs H Q E h => ?_) (fun cdv A outer s H vs Q E hr h => ?_)
  · obtain ⟨_, _, _, _, _, ⟨_, _, rfl, _⟩, _⟩ := h
    rfl
  · obtain ⟨s, t, came, went, changed, ⟨a, b, rfl, ha, hb, gs, gt, B⟩, q⟩ := h
    refine ⟨_, (pss_cons (ps_set (i := 2) scFewest.nd rfl (Or.inl rfl) (C8.pe_c c_between hr (by decide) (by rfl) (pa_cons (pv 0) (pa_cons (pv 1) pa_nil))))
        (pss_one (ps_ret (pe_ifExp (pt_cmpR op_isN (pv 2) pe_non (nomark _)) pe_non (pe_callB (call_max2 rfl) (by rfl) T.max (by decide +kernel) (pa_cons pe_int (pa_cons (pe_op op_sub (pe_ix (ixT (K := K)) (pv 0) pe_int (fun _ _ => rfl)) (pe_ix (ixT (K := K)) (pv 2) pe_int (fun _ _ => rfl))) pa_nil))))))), ?_⟩
    refine ⟨_, rfl, _, rfl, a, b, s, t, came, went, changed, rfl, ha, hb, gs, gt, B, fun p H1 e1 hp => ?_⟩
    refine ⟨_, rfl, rfl, _, rfl, iteN (fun z => nomatch z) ?_⟩
    exact ⟨_, rfl, a, _, _, _, rfl, rfl, .of (e1 _ _ ha), at_of (j := 1) rfl rfl, _, rfl, p, _, _, _, rfl, rfl, .of hp, at_of (j := 1) rfl rfl, _, _, rfl, rfl, _, _, rfl, q H1 e1⟩
def spWordOf : Sp := fun vs H Q _ => ∃ i j k, vs = [.int i, .int j, .int k] ∧ ∀ H', Ex H H' → Q (.str (wordOf i j k)) H'
theorem scWordOf : FnScope ["least", "most", "whole"] ["least", "most", "whole"] (C8.fnScope sWordOf) := ⟨rfl, rfl, rfl, by decide +kernel, rfl, by decide +kernel, by decide +kernel⟩
theorem ok_wordOf {f : Addr} {fd : FuncData} (F : C8.Def K mg "word_of" sWordOf f fd) (b : Binds K fd ["least", "most", "whole"] []) (T : Txt K mg C) : C8.Cal P w K mg base 1 "word_of" spWordOf [] := by
  refine C8.cal0 F b .nil scWordOf (fun vs H Q E h => ?_) (fun cdv A outer s H vs Q E hr h => ?_)
  · obtain ⟨_, _, _, rfl, _⟩ := h
    rfl
  · obtain ⟨i, j, k, rfl, q⟩ := h
    refine ⟨_, (pss_cons (ps_if (pt_cmpR op_eq (pv 0) (pv 2) (nomark _)) (pss_one (ps_ret pe_str)) pss_nil)
        (pss_cons (ps_if (pt_cmpR op_eq (pv 1) pe_int (nomark _)) (pss_one (ps_ret pe_str)) pss_nil)
        (pss_one (ps_ret (pe_ifExp (PW.pt (pw_and (pt_cmpR op_gt (pv 0) pe_int (nomark _)) (pw_and1 (pt_cmpR op_lt (pv 1) (pv 2) (nomark _))))) pe_str pe_str))))), ?_⟩
    have q := q H (Evl.Ex.refl H)
    unfold wordOf at q
    refine ⟨_, rfl, _, rfl, rfl, _, rfl, ite2 (fun c => ?_) (fun c => ?_)⟩
    · have c : i = k := V.int.inj (of_decide_eq_true c)
      rw [if_pos c] at q
      exact q
    have c : ¬ i = k := fun z => c (by rw [z]; exact decide_eq_true rfl)
    rw [if_neg c] at q
    refine ⟨_, rfl, rfl, _, rfl, ite2 (fun d => ?_) (fun d => ?_)⟩
    · have d : j = 0 := V.int.inj (of_decide_eq_true d)
      rw [if_pos d] at q
      exact q
    have d : ¬ j = 0 := fun z => d (by rw [z]; exact decide_eq_true rfl)
    rw [if_neg d] at q
    refine ⟨_, rfl, _, _, rfl, rfl, _, rfl, ite2 (fun c2 => ?_) (fun c2 => ?_)⟩
    · have c2 : 0 < i := of_decide_eq_true c2
      refine ⟨_, rfl, _, rfl, _, _, rfl, rfl, _, rfl, ite2 (fun d2 => ?_) (fun d2 => ?_)⟩
      · have d2 : j < k := of_decide_eq_true d2
        rw [if_pos ⟨c2, d2⟩] at q
        exact q
      · have d2 : ¬ j < k := fun z => d2 (decide_eq_true z)
        rw [if_neg fun z => d2 z.2] at q
        exact q
    · have c2 : ¬ 0 < i := fun z => c2 (decide_eq_true z)
      rw [if_neg fun z => c2 z.1] at q
      exact iteF q
theorem and_cut {c d : Bool} {tb : TE} {σ : L2.St} {H : Hp} {Q : VK} (hb : ∀ Q : VK, Q (.bl d) H → tb σ H Q) (k : Q (.bl (c && d)) H) : if c = true then tb σ H Q else Q (.bl false) H := by
  cases c with
  | true => exact iteT (hb Q k)
  | false => exact iteF k
theorem touched_eq (came changed : Int) : (if (decide (0 < changed) && decide (V.int came = V.int 0)) = true then (1 : Int) else 0) = touchedOf came changed := by
  have e : (decide (0 < changed) && decide (V.int came = V.int 0)) = decide (0 < changed ∧ came = 0) := by
    rw [Bool.decide_and]
    congr 1
    by_cases h : came = 0
    · rw [h]
      rfl
    · rw [decide_eq_false h, decide_eq_false fun z => h (V.int.inj z)]
  rw [e]
  unfold touchedOf
  by_cases h : 0 < changed ∧ came = 0
  · rw [if_pos h, if_pos (decide_eq_true h)]
  · rw [if_neg h, if_neg (by rw [decide_eq_false h]; exact Bool.false_ne_true)]
/-- what surely answers -/
def sure1 (s t : Sgt) (went : Int) : Str := wordOf (mx 0 (s.count - went)) (mn s.count t.count) s.count
def sure2 (s : Sgt) (came changed : Int) : Str := wordOf (mx 0 (s.count - changed)) (s.count - touchedOf came changed) s.count
def sure3 (s t : Sgt) (went : Int) : Str := wordOf (t.count - mn s.count t.count) (t.count - mx 0 (s.count - went)) t.count
def spSurely : Sp := fun vs H Q _ => ∃ s t came went changed, Two H vs s t came went changed ∧ ∀ p H', Ex H H' → Three H' p (.str (sure1 s t went)) (.str (sure2 s came changed)) (.str (sure3 s t went)) → Q (.ref p) H'
theorem scSurely : FnScope ["one", "other", "told", "came", "went", "changed", "least", "most", "there", "touched", "signs", "unknown"] ["one", "other"] (C8.fnScope sSurely) := ⟨rfl, rfl, rfl, by decide +kernel, rfl, by decide +kernel, by decide +kernel⟩
theorem ok_surely {f : Addr} {fd : FuncData} (F : C8.Def K mg "surely" sSurely f fd) (b : Binds K fd ["one", "other"] []) (T : Txt K mg C) (c_between : C8.Cal P w K mg base 5 "between" spBetween []) (c_word_of : C8.Cal P w K mg base 1 "word_of" spWordOf []) : C8.Cal P w K mg base 6 "surely" spSurely [] := by
  refine C8.cal0 F b .nil scSurely (fun vs H Q E h => ?_) (fun cdv A outer s H vs Q E hr h => ?_)
  · obtain ⟨_, _, _, _, _, ⟨_, _, rfl, _⟩, _⟩ := h
    rfl
  · obtain ⟨s, t, came, went, changed, ⟨a, b, rfl, ha, hb, gs, gt, B⟩, q⟩ := h
    refine ⟨_, (pss_cons (ps_set (i := 2) scSurely.nd rfl (Or.inl rfl) (C8.pe_c c_between hr (by decide) (by rfl) (pa_cons (pv 0) (pa_cons (pv 1) pa_nil))))
        (pss_cons (ps_if (pt_cmpR op_isN (pv 2) pe_non (nomark _)) (pss_one (ps_ret pe_non)) pss_nil)
        (pss_cons (ps_asg (pv 2) (pg_tup (by rfl) (pgs_cons (pg_name (i := 3) scSurely.nd rfl (Or.inl rfl)) (pgs_cons (pg_name (i := 4) scSurely.nd rfl (Or.inl rfl)) (pgs_cons (pg_name (i := 5) scSurely.nd rfl (Or.inl rfl)) pgs_nil)))))
        (pss_cons (ps_par (by rfl) scSurely.nd (i := 6) (j := 7) rfl rfl (by decide) rfl rfl (pa_cons (pe_callB (call_max2 rfl) (by rfl) T.max (by decide +kernel) (pa_cons pe_int (pa_cons (pe_op op_sub (pe_ix (ixT (K := K)) (pv 0) pe_int (fun _ _ => rfl)) (pv 4)) pa_nil))) (pa_cons (pe_callB (call_min2 rfl) (by rfl) T.min (by decide +kernel) (pa_cons (pe_ix (ixT (K := K)) (pv 0) pe_int (fun _ _ => rfl)) (pa_cons (pe_ix (ixT (K := K)) (pv 1) pe_int (fun _ _ => rfl)) pa_nil))) pa_nil)) (by rfl))
        (pss_cons (ps_set (i := 8) scSurely.nd rfl (Or.inl rfl) (C8.pe_c c_word_of hr (by decide) (by rfl) (pa_cons (pv 6) (pa_cons (pv 7) (pa_cons (pe_ix (ixT (K := K)) (pv 0) pe_int (fun _ _ => rfl)) pa_nil)))))
        (pss_cons (ps_set (i := 9) scSurely.nd rfl (Or.inl rfl) (pe_callTy call_int1 (by rfl) T.int (by decide +kernel) (pa_cons (pe_and (pe_cmpR op_gt (pv 5) pe_int (nomark _)) (pe_one (pe_cmpR op_eq (pv 3) pe_int (nomark _)))) pa_nil)))
        (pss_cons (ps_set (i := 10) scSurely.nd rfl (Or.inl rfl) (C8.pe_c c_word_of hr (by decide) (by rfl) (pa_cons (pe_callB (call_max2 rfl) (by rfl) T.max (by decide +kernel) (pa_cons pe_int (pa_cons (pe_op op_sub (pe_ix (ixT (K := K)) (pv 0) pe_int (fun _ _ => rfl)) (pv 5)) pa_nil))) (pa_cons (pe_op op_sub (pe_ix (ixT (K := K)) (pv 0) pe_int (fun _ _ => rfl)) (pv 9)) (pa_cons (pe_ix (ixT (K := K)) (pv 0) pe_int (fun _ _ => rfl)) pa_nil)))))
        (pss_cons (ps_set (i := 11) scSurely.nd rfl (Or.inl rfl) (C8.pe_c c_word_of hr (by decide) (by rfl) (pa_cons (pe_op op_sub (pe_ix (ixT (K := K)) (pv 1) pe_int (fun _ _ => rfl)) (pv 7)) (pa_cons (pe_op op_sub (pe_ix (ixT (K := K)) (pv 1) pe_int (fun _ _ => rfl)) (pv 6)) (pa_cons (pe_ix (ixT (K := K)) (pv 1) pe_int (fun _ _ => rfl)) pa_nil)))))
        (pss_one (ps_ret (pe_tup (pa_cons (pv 8) (pa_cons (pv 10) (pa_cons (pv 11) pa_nil)))))))))))))), ?_⟩
    refine ⟨_, rfl, _, rfl, a, b, s, t, came, went, changed, rfl, ha, hb, gs, gt, B, fun p H1 e1 hp => ?_⟩
    have ha := e1 _ _ ha
    have hb := e1 _ _ hb
    refine ⟨_, rfl, rfl, _, rfl, iteN (fun z => nomatch z) ?_⟩
    refine ⟨_, rfl, p, _, rfl, .of hp, rfl, _, _, rfl, _, _, rfl, _, _, rfl, rfl, ?_⟩
    refine ⟨_, rfl, a, _, _, _, rfl, rfl, .of ha, at_of (j := 1) rfl rfl, _, rfl, _, _, rfl, rfl, _, _, rfl, _, rfl, a, _, _, _, rfl, rfl, .of ha, at_of (j := 1) rfl rfl, _, rfl, b, _, _, _, rfl, rfl, .of hb, at_of (j := 1) rfl rfl, _, _, rfl, _, _, rfl, ?_⟩
    -- there
    refine ⟨_, rfl, _, rfl, _, rfl, a, _, _, _, rfl, rfl, .of ha, at_of (j := 1) rfl rfl, _, _, _, rfl, fun H2 e2 => ?_⟩
    have ha := e2 _ _ ha
    have hb := e2 _ _ hb
    -- touched
    refine ⟨_, rfl, _, _, rfl, rfl, _, rfl, and_cut (d := decide (V.int came = V.int 0)) (fun Q q => ⟨_, rfl, rfl, q⟩) (.inr ⟨_, rfl, ?_⟩)⟩
    rw [touched_eq]
    -- signs
    refine ⟨_, rfl, a, _, _, _, rfl, rfl, .of ha, at_of (j := 1) rfl rfl, _, rfl, _, _, rfl, rfl, _, _, rfl, _, rfl, a, _, _, _, rfl, rfl, .of ha, at_of (j := 1) rfl rfl, _, rfl, _, _, rfl, rfl, _, rfl, a, _, _, _, rfl, rfl, .of ha, at_of (j := 1) rfl rfl, _, _, _, rfl, fun H3 e3 => ?_⟩
    have ha := e3 _ _ ha
    have hb := e3 _ _ hb
    -- unknown
    refine ⟨_, rfl, b, _, _, _, rfl, rfl, .of hb, at_of (j := 1) rfl rfl, _, rfl, _, _, rfl, rfl, _, rfl, b, _, _, _, rfl, rfl, .of hb, at_of (j := 1) rfl rfl, _, rfl, _, _, rfl, rfl, _, rfl, b, _, _, _, rfl, rfl, .of hb, at_of (j := 1) rfl rfl, _, _, _, rfl, fun H4 e4 => ?_⟩
    have e := ((e1.trans e2).trans e3).trans e4
    exact ⟨_, rfl, _, rfl, _, rfl, by show 3 ≤ sizeLine; decide, fun r hr => q r _ (ex_upd e (free e hr)) upd_same⟩
end
end K59
/-! K59F: folders.py, what is below the methods. -/
namespace K59
open PySem PySem.Spec PyProof.Rows L2 K59S
open Evl (Ex Ev EvT)
/-! ### == of tuples of texts -/
def txD (zs : List Str) : PyData := .tuple (zs.map .str)
theorem sign_str {z : Str} (h : SignOk z) : PyData.strOk z = true := by
  have key : ∀ c ∈ ("abcdefghijklmnopqrstuvwxyz" : Str).cps.toList, c < 1114112 := by decide +kernel
  unfold PyData.strOk
  rw [Array.all_eq_true_iff_forall_mem]
  intro c hc
  exact decide_eq_true (key c (h.2.2 c (Array.mem_toList_iff.mpr hc)))
theorem lay_all : ∀ {zs : List Str}, (∀ z ∈ zs, SignOk z) → PyData.canLayAll0 (zs.map .str) = true
  | [], _ => by simp [PyData.canLayAll0]
  | z :: zs, h => by
    rw [List.map_cons]
    simp only [PyData.canLayAll0, PyData.canLay0, Bool.and_eq_true]
    exact ⟨sign_str (h z List.mem_cons_self), lay_all fun y hy => h y (List.mem_cons_of_mem _ hy)⟩
theorem depth_all : ∀ zs : List Str, PyData.depthAll (zs.map .str) = 0
  | [] => by simp [PyData.depthAll]
  | z :: zs => by
    rw [List.map_cons]
    simp [PyData.depthAll, PyData.depth, depth_all zs]
theorem tx_shaped {zs : List Str} (h : ∀ z ∈ zs, SignOk z) : SeqAt.shaped (txD zs) = true := by
  have e : (txD zs).depth ≤ 64 := by
    unfold txD
    simp [PyData.depth, depth_all]
  have e2 : (txD zs).canLay0 = true := by
    unfold txD
    simp only [PyData.canLay0]
    exact lay_all h
  exact Bool.and_eq_true_iff.mpr ⟨e2, decide_eq_true e⟩
theorem tx_eqv : ∀ xs ys : List Str, PyData.eqvAll (xs.map .str) (ys.map .str) = decide (xs = ys)
  | [], [] => by simp [PyData.eqvAll]
  | [], y :: ys => by simp [PyData.eqvAll]
  | x :: xs, [] => by simp [PyData.eqvAll]
  | x :: xs, y :: ys => by
    rw [List.map_cons, List.map_cons]
    simp only [PyData.eqvAll, PyData.eqv]
    rw [tx_eqv xs ys]
    by_cases h : x = y
    · by_cases h2 : xs = ys
      · simp [h, h2]
      · simp [h, h2]
    · simp [h]
theorem tx_eq (xs ys : List Str) : PyData.eqv (txD xs) (txD ys) = decide (xs = ys) := by
  unfold txD
  simp only [PyData.eqv]
  exact tx_eqv xs ys
theorem dp_all {K : PySem.W.Frag} {H : Hp} : ∀ zs : List Str, DpAll K H (zs.map V.str) (zs.map .str)
  | [] => .nil
  | z :: zs => .cons (.str z) (dp_all zs)
theorem dp_tx {K : PySem.W.Frag} {H : Hp} {a : Addr} {zs : List Str} (h : H a = some (.tup (zs.map V.str))) : Dp K H (.ref a) (txD zs) := .tup (.of h) (dp_all zs)
/-! ### steps -/
section
variable {K : PySem.W.Frag} {σ : L2.St} {H : Hp} {D : Ends} {p C dx : Addr} {fs : List (Str × V)} {f : Str} {v y : V} {i : Nat} {tv : TE}
theorem ev_fld (hs : σ[i]? = some (some (.ref p))) (hp : H p = some (.ins C dx fs)) (c : Cls K C) (n : NoAttr K C f) (l : fs.lookup f = some v) : Ev (tFld K (tVar i) f) σ H v :=
  fun H1 e _ q => ⟨_, hs, p, C, dx, fs, v, rfl, e _ _ hp, c, n, l, q H1 (Evl.Ex.refl H1)⟩
theorem s_fld (hv : Ev tv σ H y) (hs : σ[i]? = some (some (.ref p))) (hp : H p = some (.ins C dx fs)) (c : Cls K C) (n : NoAttr K C f) (l : fs.length < 1000)
    (k : ∀ H1, Exb p H H1 → H1 p = some (.ins C dx (putF f y fs)) → D.nx σ H1) : sFld K (tVar i) tv f D σ H :=
  hv H (Evl.Ex.refl H) _ fun H2 e => ⟨_, hs, p, C, dx, fs, rfl, e _ _ hp, c, n, l, k _ (Exb.put (Exb.of e)) upd_same⟩
/-- .. of a value that may be a new thing -/
theorem s_fldR {R : V → Hp → Prop} (hv : EvR tv σ H R) (hs : σ[i]? = some (some (.ref p))) (hp : H p = some (.ins C dx fs)) (c : Cls K C) (n : NoAttr K C f) (l : fs.length < 1000)
    (k : ∀ y H1 H2, Ex H H1 → R y H1 → H2 = upd H1 p (.ins C dx (putF f y fs)) → D.nx σ H2) : sFld K (tVar i) tv f D σ H :=
  hv H (Evl.Ex.refl H) _ fun y H2 e r => ⟨_, hs, p, C, dx, fs, rfl, e _ _ hp, c, n, l, k y H2 _ e r rfl⟩
theorem g_fld {Q : L2.St → Hp → Prop} (hs : σ[i]? = some (some (.ref p))) (hp : H p = some (.ins C dx fs)) (c : Cls K C) (n : NoAttr K C f) (l : fs.length < 1000)
    (k : ∀ H1, Exb p H H1 → H1 p = some (.ins C dx (putF f v fs)) → Q σ H1) : gFld K (tVar i) f v σ H Q :=
  ⟨_, hs, p, C, dx, fs, rfl, hp, c, n, l, k _ (Exb.put (Exb.refl p H)) upd_same⟩
theorem cat_k {a b : Addr} {xs ys : List V} {Q : VK} (ha : H a = some (.tup xs)) (hb : H b = some (.tup ys)) (ne : ys ≠ []) (l : xs.length + ys.length ≤ 100000) (k : ∀ t H1, Ex H H1 → H1 t = some (.tup (xs ++ ys)) → Q (.ref t) H1) :
    rCatA K (.ref a) (.ref b) H Q := by
  refine ⟨a, b, xs, ys, rfl, rfl, .of ha, .of hb, lt_line l, fun e => ?_, fun _ e => absurd e ne, fun _ _ q hq => k q _ (Evl.Ex.new hq) upd_same⟩
  subst e
  exact k b H (Evl.Ex.refl H) hb
end
theorem putF_le {f : Str} {v : V} : ∀ {fs : List (Str × V)} {n : Nat}, fs.length ≤ n → (putF f v fs).length ≤ n + 1
  | [], n, _ => by
    show 1 ≤ n + 1
    omega
  | (g, x) :: r, n, h => by
    show (if g = f then (g, v) :: r else (g, x) :: putF f v r).length ≤ n + 1
    have h : r.length + 1 ≤ n := h
    split
    · show r.length + 1 ≤ n + 1
      omega
    · show (putF f v r).length + 1 ≤ n + 1
      have := putF_le (f := f) (v := v) (fs := r) (n := n - 1) (by omega)
      omega
theorem lt1000 {n : Nat} (h : n ≤ 6) : n < 1000 := by omega
/-- what is an instance is no tuple -/
theorem Exb.keepI {p b : Addr} {H H' : Hp} {C dx : Addr} {fs : List (Str × V)} {o : HO} (e : Exb p H H') (hp : H p = some (.ins C dx fs)) (hb : H b = some o) (ne : o ≠ .ins C dx fs) : H' b = some o := e b o (ne_of hb hp ne) hb
theorem orSin {X : Cx} {w : World} (e : X.w = w := by rfl) : OpR X (compareOp .In) (rSIn w) := by
  subst e
  exact or_sin
section
variable {P : Program} {w : World} {K : PySem.W.Frag} {mg : Str → Option Value} {base : Heap} {C : Addr}
def spInit (C : Addr) : Sp := fun vs H Q _ => ∃ (p dx : Addr) (age : Int), vs = [.ref p, .int age] ∧ H p = some (.ins C dx []) ∧ 1 ≤ age ∧
  ∀ (H' : Hp) (h w : Addr), Exb p H H' → H' p = some (.ins C dx (ff (.int age) (.ref h) (.int 1) (.int 0) (.ref w) (.int 0))) → H' h = some (.tup []) → H' w = some (.tup []) → Q .non H'
theorem scInit : FnScope ["self", "age"] ["self", "age"] (C8.fnScope sInit) := ⟨rfl, rfl, rfl, by decide +kernel, rfl, by decide +kernel, by decide +kernel⟩
theorem ok_init {f : Addr} {fd : FuncData} (M : Mk K C f) (F : C8.Fun K "__init__" "Folder.__init__" sInit f fd) (b : Binds K fd ["self", "age"] []) (T : Txt K mg C) (c_is_least : C8.Cal P w K mg base 2 "is_least" spIsLeast []) : C8.Mak P w K mg base 3 "Folder" C (spInit C) [] := by
  refine C8.mak0 M T.mgC F b .nil scInit (fun vs H Q E h => ?_) (fun cdv A outer s H vs Q E hr h => ?_)
  · obtain ⟨_, _, _, rfl, _⟩ := h
    rfl
  · obtain ⟨p, dx, age, rfl, hp, h1, q⟩ := h
    refine ⟨_, (pss_cons (ps_if (pt_not (pt_val (C8.pe_c c_is_least hr (by decide) (by rfl) (pa_cons (pv 1) (pa_cons pe_int pa_nil))))) pss_never pss_nil)
        (pss_cons (ps_fld (pv 0) (pv 1) rfl)
        (pss_cons (ps_fld (pv 0) (pe_tup pa_nil) rfl)
        (pss_cons (ps_fld (pv 0) pe_int rfl)
        (pss_cons (ps_fld (pv 0) pe_int rfl)
        (pss_cons (ps_fld (pv 0) (pe_tup pa_nil) rfl)
        (pss_one (ps_fld (pv 0) pe_int rfl)))))))), ?_⟩
    refine ⟨_, rfl, age, 1, rfl, fun H0 e0 => ⟨_, rfl, iteNS h1 ?_⟩⟩
    refine s_fld (p := p) (Evl.ev_var rfl) rfl (e0 _ _ hp) T.cl T.nY (by decide) fun H1 b1 hp => ?_
    refine ⟨Nat.zero_le _, fun a na => ?_⟩
    have npa : p ≠ a := ne_of_none hp na
    refine ⟨_, rfl, p, C, dx, _, rfl, (upd_ne npa).trans hp, T.cl, T.nH, lt1000 (putF_le (Nat.zero_le 5)), ?_⟩
    refine s_fld (p := p) Evl.ev_c rfl upd_same T.cl T.nU (lt1000 (putF_le (putF_le (Nat.zero_le 4)))) fun H2 b2 hp2 => ?_
    refine s_fld (p := p) Evl.ev_c rfl hp2 T.cl T.nL (lt1000 (putF_le (putF_le (putF_le (Nat.zero_le 3))))) fun H3 b3 hp3 => ?_
    have ha3 : H3 a = some (.tup []) := b3 _ _ npa.symm (b2 _ _ npa.symm (by rw [upd_ne npa.symm, upd_same]))
    refine ⟨Nat.zero_le _, fun a2 na2 => ?_⟩
    have npa2 : p ≠ a2 := ne_of_none hp3 na2
    have naa : a ≠ a2 := ne_of_none ha3 na2
    refine ⟨_, rfl, p, C, dx, _, rfl, (upd_ne npa2).trans hp3, T.cl, T.nW, lt1000 (putF_le (putF_le (putF_le (putF_le (Nat.zero_le 2))))), ?_⟩
    refine s_fld (p := p) Evl.ev_c rfl upd_same T.cl T.nO (lt1000 (putF_le (putF_le (putF_le (putF_le (putF_le (Nat.zero_le 1))))))) fun H4 b4 hp4 => ?_
    rw [ff_init] at hp4
    refine q H4 a a2 (fun c o n e => ?_) hp4 (b4 _ _ npa.symm (by rw [upd_ne npa.symm, upd_ne naa]; exact ha3)) (b4 _ _ npa2.symm (by rw [upd_ne npa2.symm, upd_same]))
    have e1 := b1 c o n (e0 _ _ e)
    have e3 := b3 c o n (b2 c o n (by rw [upd_ne n, upd_ne (ne_of_none e1 na)]; exact e1))
    exact b4 c o n (by rw [upd_ne n, upd_ne (ne_of_none e3 na2)]; exact e3)
def spTwin (C : Addr) : Sp := fun vs H Q _ => ∃ (p dx : Addr) (age : Int) (h u l wt o : V), vs = [.ref p] ∧ H p = some (.ins C dx (ff (.int age) h u l wt o)) ∧ 1 ≤ age ∧
  ∀ (q dx' : Addr) (H' : Hp), H q = none → Ex H H' → H' q = some (.ins C dx' (ff (.int age) h u l wt o)) → Q (.ref q) H'
theorem scTwin : FnScope ["folder", "found"] ["folder"] (C8.fnScope sTwin) := ⟨rfl, rfl, rfl, by decide +kernel, rfl, by decide +kernel, by decide +kernel⟩
theorem ok_twin {f : Addr} {fd : FuncData} (F : C8.Def K mg "twin" sTwin f fd) (b : Binds K fd ["folder"] []) (T : Txt K mg C) (c_init : C8.Mak P w K mg base 3 "Folder" C (spInit C) []) : C8.Cal P w K mg base 5 "twin" (spTwin C) [] := by
  refine C8.cal0 F b .nil scTwin (fun vs H Q E h => ?_) (fun cdv A outer s H vs Q E hr h => ?_)
  · obtain ⟨_, _, _, _, _, _, _, _, rfl, _⟩ := h
    rfl
  · obtain ⟨p, dx, age, h, u, l, wt, o, rfl, hp, h1, k⟩ := h
    refine ⟨_, (pss_cons (ps_set (i := 1) scTwin.nd rfl (Or.inl rfl) (C8.pe_mk c_init hr (by decide) (by rfl) (pa_cons (pe_fld (pv 0) rfl) pa_nil)))
        (pss_cons (ps_asg (pe_tup (pa_cons (pe_fld (pv 0) rfl) (pa_cons (pe_fld (pv 0) rfl) (pa_cons (pe_fld (pv 0) rfl) pa_nil)))) (pg_tup (by rfl) (pgs_cons (pg_fld (pv 1)) (pgs_cons (pg_fld (pv 1)) (pgs_cons (pg_fld (pv 1)) pgs_nil)))))
        (pss_cons (ps_asg (pe_tup (pa_cons (pe_fld (pv 0) rfl) (pa_cons (pe_fld (pv 0) rfl) pa_nil))) (pg_tup (by rfl) (pgs_cons (pg_fld (pv 1)) (pgs_cons (pg_fld (pv 1)) pgs_nil))))
        (pss_one (ps_ret (pv 1)))))), ?_⟩
    -- found = Folder(folder.years)
    refine ⟨_, rfl, p, C, dx, _, _, rfl, hp, T.cl, T.nY, ff_y _ _ _ _ _ _, fun q dx2 nq nd nqd => ?_⟩
    refine ⟨q, dx2, age, rfl, upd_same, h1, fun H1 a1 a2 b1 hq ha1 ha2 => ⟨rfl, ?_⟩⟩
    have e1 : Ex H H1 := fun c o e => b1 c o (ne_of_none e nq) (by rw [upd_ne (ne_of_none e nq), upd_ne (ne_of_none e nd)]; exact e)
    have npq : p ≠ q := ne_of_none hp nq
    -- found.holding, found.upcoming, found.latest = ..
    refine ⟨_, rfl, p, C, dx, _, _, rfl, e1 _ _ hp, T.cl, T.nH, ff_h _ _ _ _ _ _, _, rfl, p, C, dx, _, _, rfl, e1 _ _ hp, T.cl, T.nU, ff_u _ _ _ _ _ _, _, rfl, p, C, dx, _, _, rfl, e1 _ _ hp, T.cl, T.nL, ff_l _ _ _ _ _ _, by show 3 ≤ sizeLine; decide, fun t nt => ?_⟩
    have e2 : Ex H (upd H1 t (.tup [h, u, l])) := e1.trans (Evl.Ex.new nt)
    have hq2 : (upd H1 t (.tup [h, u, l])) q = _ := (upd_ne (ne_of_none hq nt)).trans hq
    refine ⟨t, _, rfl, .of upd_same, rfl, _, _, rfl, g_fld (p := q) rfl hq2 T.cl T.nH (ff_len _ _ _ _ _ _) fun H3 b3 hq3 => ?_⟩
    refine ⟨_, _, rfl, g_fld (p := q) rfl hq3 T.cl T.nU (by rw [ff_ph]; exact ff_len _ _ _ _ _ _) fun H4 b4 hq4 => ?_⟩
    refine ⟨_, _, rfl, g_fld (p := q) rfl hq4 T.cl T.nL (by rw [ff_ph, ff_pu]; exact ff_len _ _ _ _ _ _) fun H5 b5 hq5 => ?_⟩
    rw [ff_ph, ff_pu, ff_pl] at hq5
    have e5 : Ex H H5 := fun c o e => b5 c o (ne_of_none e nq) (b4 c o (ne_of_none e nq) (b3 c o (ne_of_none e nq) (e2 c o e)))
    refine ⟨rfl, ?_⟩
    -- found.went, found.low = ..
    refine ⟨_, rfl, p, C, dx, _, _, rfl, e5 _ _ hp, T.cl, T.nW, ff_w _ _ _ _ _ _, _, rfl, p, C, dx, _, _, rfl, e5 _ _ hp, T.cl, T.nO, ff_o _ _ _ _ _ _, by show 2 ≤ sizeLine; decide, fun t2 nt2 => ?_⟩
    have e6 : Ex H (upd H5 t2 (.tup [wt, o])) := e5.trans (Evl.Ex.new nt2)
    have hq6 : (upd H5 t2 (.tup [wt, o])) q = _ := (upd_ne (ne_of_none hq5 nt2)).trans hq5
    refine ⟨t2, _, rfl, .of upd_same, rfl, _, _, rfl, g_fld (p := q) rfl hq6 T.cl T.nW (ff_len _ _ _ _ _ _) fun H7 b7 hq7 => ?_⟩
    refine ⟨_, _, rfl, g_fld (p := q) rfl hq7 T.cl T.nO (by rw [ff_pw]; exact ff_len _ _ _ _ _ _) fun H8 b8 hq8 => ?_⟩
    rw [ff_pw, ff_po] at hq8
    exact ⟨rfl, _, rfl, k q dx2 H8 nq (fun c o e => b8 c o (ne_of_none e nq) (b7 c o (ne_of_none e nq) (e6 c o e))) hq8⟩
end
end K59
/-! K59G: folders.py, what is below the methods, on. -/
namespace K59
open PySem PySem.Spec PyProof.Rows L2 K59S
open Evl (Ex Ev EvT)
/-! ### letters, told by their objects -/
def numAt (H : Hp) : V → Int
  | .ref t => match H t with
    | some (.tup (.int n :: _)) => n
    | _ => 0
  | _ => 0
theorem numAt_of {H : Hp} {v : V} {l : Ltr} (h : LtrAt H v l) : numAt H v = l.num := by
  obtain ⟨t, g, rfl, h1, _⟩ := h
  show (match H t with
    | some (.tup (.int n :: _)) => n
    | _ => 0) = l.num
  rw [h1]
theorem map_str_inj : ∀ {xs ys : List Str}, xs.map V.str = ys.map V.str → xs = ys
  | [], [], _ => rfl
  | [], _ :: _, e => by simp at e
  | _ :: _, [], e => by simp at e
  | x :: xs, y :: ys, e => by
    rw [List.map_cons, List.map_cons] at e
    injection e with e1 e2
    rw [V.str.inj e1, map_str_inj e2]
theorem LtrAt.inj {H : Hp} {v : V} {l m : Ltr} (h : LtrAt H v l) (k : LtrAt H v m) : l = m := by
  obtain ⟨t, g, rfl, h1, h2⟩ := h
  obtain ⟨t', g', e, k1, k2⟩ := k
  have e : t = t' := V.ref.inj e
  subst e
  rw [h1] at k1
  have e2 := HO.tup.inj (Option.some.inj k1)
  injection e2 with e3 e4
  injection e4 with e5 e6
  injection e6 with e7 e8
  injection e8 with e9 _
  have e7 : g = g' := V.ref.inj e7
  subst e7
  rw [h2] at k2
  have es := map_str_inj (HO.tup.inj (Option.some.inj k2))
  cases l
  cases m
  have a1 := V.int.inj e3
  have a2 := V.int.inj e5
  have a3 := V.int.inj e9
  simp only at a1 a2 a3 es
  rw [a1, a2, a3, es]
theorem LtrsAt.mem {H : Hp} : ∀ {vs : List V} {ls : List Ltr} {v : V}, LtrsAt H vs ls → v ∈ vs → ∃ l ∈ ls, LtrAt H v l
  | _, _, _, .nil, h => by cases h
  | _, _, v, .cons (b := l) a r, h => by
    rcases List.mem_cons.mp h with e | e
    · exact ⟨l, List.mem_cons_self, by rw [e]; exact a⟩
    · obtain ⟨m, hm, hl⟩ := LtrsAt.mem r e
      exact ⟨m, List.mem_cons_of_mem _ hm, hl⟩
theorem LtrsAt.filter {H : Hp} {q : Int → Bool} : ∀ {vs : List V} {ls : List Ltr}, LtrsAt H vs ls → LtrsAt H (vs.filter fun v => q (numAt H v)) (ls.filter fun l => q l.num)
  | _, _, .nil => .nil
  | v :: _, l :: _, .cons a r => by
    have ih := LtrsAt.filter (q := q) r
    have e := numAt_of a
    rw [List.filter_cons, List.filter_cons, e]
    by_cases h : q l.num = true
    · rw [if_pos h, if_pos h]
      exact .cons a ih
    · rw [if_neg h, if_neg h]
      exact ih
/-- each letter of H made into g of it -/
theorem LtrsAt.via {H H' : Hp} {g : Ltr → Ltr} : ∀ {vs ys : List V} {ls : List Ltr}, LtrsAt H vs ls → Paired (fun x y => ∃ l, LtrAt H x l ∧ LtrAt H' y (g l)) vs ys → LtrsAt H' ys (ls.map g)
  | _, _, _, .nil, .nil => .nil
  | _, _, _, .cons a r, .cons b s => by
    obtain ⟨l, h1, h2⟩ := b
    have e := a.inj h1
    subst e
    exact .cons h2 (LtrsAt.via r s)
section
variable {P : Program} {w : World} {K : PySem.W.Frag} {mg : Str → Option Value} {base : Heap} {C : Addr}
def spCheckNumbers : Sp := fun vs H Q _ => ∃ a ns, vs = [.ref a] ∧ H a = some (.tup (ns.map V.int)) ∧ NumsOk ns ∧ ∀ H', Ex H H' → Q .non H'
theorem scCheckNumbers : FnScope ["numbers"] ["numbers"] (C8.fnScope sCheckNumbers) := ⟨rfl, rfl, rfl, by decide +kernel, rfl, by decide +kernel, by decide +kernel⟩
theorem ok_checkNumbers {f : Addr} {fd : FuncData} (F : C8.Def K mg "check_numbers" sCheckNumbers f fd) (b : Binds K fd ["numbers"] []) (T : Txt K mg C) (c_is_numbers : C8.Cal P w K mg base 3 "is_numbers" spIsNumbers []) : C8.Cal P w K mg base 4 "check_numbers" spCheckNumbers [] := by
  refine C8.cal0 F b .nil scCheckNumbers (fun vs H Q E h => ?_) (fun cdv A outer s H vs Q E hr h => ?_)
  · obtain ⟨_, _, rfl, _⟩ := h
    rfl
  · obtain ⟨a, ns, rfl, ha, hn, q⟩ := h
    refine ⟨_, (pss_one (ps_if (pt_not (pt_val (C8.pe_c c_is_numbers hr (by decide) (by rfl) (pa_cons (pv 0) pa_nil)))) pss_never pss_nil)), ?_⟩
    exact ⟨_, rfl, a, ns, rfl, ha, hn, fun H1 e1 => ⟨_, rfl, iteF (q H1 e1)⟩⟩
def spCheckFolder (C : Addr) : Sp := fun vs H Q _ => ∃ a dx fs, vs = [.ref a] ∧ H a = some (.ins C dx fs) ∧ ∀ H', Ex H H' → Q .non H'
theorem scCheckFolder : FnScope ["thing"] ["thing"] (C8.fnScope sCheckFolder) := ⟨rfl, rfl, rfl, by decide +kernel, rfl, by decide +kernel, by decide +kernel⟩
theorem ok_checkFolder {f : Addr} {fd : FuncData} (F : C8.Def K mg "check_folder" sCheckFolder f fd) (b : Binds K fd ["thing"] []) (T : Txt K mg C) : C8.Cal P w K mg base 1 "check_folder" (spCheckFolder C) [] := by
  refine C8.cal0 F b .nil scCheckFolder (fun vs H Q E h => ?_) (fun cdv A outer s H vs Q E hr h => ?_)
  · obtain ⟨_, _, _, rfl, _⟩ := h
    rfl
  · obtain ⟨a, dx, fs, rfl, ha, q⟩ := h
    refine ⟨_, (pss_one (ps_if (pt_not (pt_val (pe_callB (C8.call_isC T.isC) (by rfl) T.isi (by decide +kernel) (pa_cons (pv 0) (pa_cons (C8.pe_gc (v := .ref C) (by rfl) ⟨_, T.mgC, rfl⟩) pa_nil))))) pss_never pss_nil)), ?_⟩
    exact ⟨_, rfl, a, dx, fs, rfl, ha, _, rfl, iteF (q H (Evl.Ex.refl H))⟩
def spAge (C : Addr) : Sp := fun vs H Q _ => ∃ p F, vs = [.ref p] ∧ FolAt C H p F ∧ ∀ H', Ex H H' → Q (.int F.age) H'
def spNext (C : Addr) : Sp := fun vs H Q _ => ∃ p F, vs = [.ref p] ∧ FolAt C H p F ∧ ∀ H', Ex H H' → Q (.int F.up) H'
def spMark (C : Addr) : Sp := fun vs H Q _ => ∃ p F, vs = [.ref p] ∧ FolAt C H p F ∧ ∀ H', Ex H H' → Q (.int F.lat) H'
def spLetters (C : Addr) : Sp := fun vs H Q _ => ∃ p F, vs = [.ref p] ∧ FolAt C H p F ∧ ∀ q xs H', Ex H H' → H q = none → H' q = some (.lst xs) → LtrsAt H' xs F.ls → Q (.ref q) H'
theorem scAge : FnScope ["self"] ["self"] (C8.fnScope sAge) := ⟨rfl, rfl, rfl, by decide +kernel, rfl, by decide +kernel, by decide +kernel⟩
theorem scNext : FnScope ["self"] ["self"] (C8.fnScope sNext) := ⟨rfl, rfl, rfl, by decide +kernel, rfl, by decide +kernel, by decide +kernel⟩
theorem scMark : FnScope ["self"] ["self"] (C8.fnScope sMark) := ⟨rfl, rfl, rfl, by decide +kernel, rfl, by decide +kernel, by decide +kernel⟩
theorem scLetters : FnScope ["self"] ["self"] (C8.fnScope sLetters) := ⟨rfl, rfl, rfl, by decide +kernel, rfl, by decide +kernel, by decide +kernel⟩
theorem ok_age {f : Addr} {fd : FuncData} (me : Meth K C "age" f) (F : C8.Fun K "age" "Folder.age" sAge f fd) (b : Binds K fd ["self"] []) (T : Txt K mg C) : C8.Met P w K mg base 1 C "age" (spAge C) [] := by
  refine C8.met0 T.cl me F b scAge (fun vs H Q E h => ?_) (fun cdv A outer s H vs Q E hr h => ?_)
  · obtain ⟨_, _, rfl, _⟩ := h
    rfl
  · obtain ⟨p, F, rfl, ⟨dx, h, wt, xs, ws, hp, _⟩, q⟩ := h
    refine ⟨_, (pss_one (ps_ret (pe_fld (pv 0) rfl))), ?_⟩
    exact ⟨_, rfl, p, C, dx, _, _, rfl, hp, T.cl, T.nY, ff_y _ _ _ _ _ _, q H (Evl.Ex.refl H)⟩
theorem ok_next {f : Addr} {fd : FuncData} (me : Meth K C "next_number" f) (F : C8.Fun K "next_number" "Folder.next_number" sNext f fd) (b : Binds K fd ["self"] []) (T : Txt K mg C) : C8.Met P w K mg base 1 C "next_number" (spNext C) [] := by
  refine C8.met0 T.cl me F b scNext (fun vs H Q E h => ?_) (fun cdv A outer s H vs Q E hr h => ?_)
  · obtain ⟨_, _, rfl, _⟩ := h
    rfl
  · obtain ⟨p, F, rfl, ⟨dx, h, wt, xs, ws, hp, _⟩, q⟩ := h
    refine ⟨_, (pss_one (ps_ret (pe_fld (pv 0) rfl))), ?_⟩
    exact ⟨_, rfl, p, C, dx, _, _, rfl, hp, T.cl, T.nU, ff_u _ _ _ _ _ _, q H (Evl.Ex.refl H)⟩
theorem ok_mark {f : Addr} {fd : FuncData} (me : Meth K C "mark" f) (F : C8.Fun K "mark" "Folder.mark" sMark f fd) (b : Binds K fd ["self"] []) (T : Txt K mg C) : C8.Met P w K mg base 1 C "mark" (spMark C) [] := by
  refine C8.met0 T.cl me F b scMark (fun vs H Q E h => ?_) (fun cdv A outer s H vs Q E hr h => ?_)
  · obtain ⟨_, _, rfl, _⟩ := h
    rfl
  · obtain ⟨p, F, rfl, ⟨dx, h, wt, xs, ws, hp, _⟩, q⟩ := h
    refine ⟨_, (pss_one (ps_ret (pe_fld (pv 0) rfl))), ?_⟩
    exact ⟨_, rfl, p, C, dx, _, _, rfl, hp, T.cl, T.nL, ff_l _ _ _ _ _ _, q H (Evl.Ex.refl H)⟩
theorem ok_letters {f : Addr} {fd : FuncData} (me : Meth K C "letters" f) (F : C8.Fun K "letters" "Folder.letters" sLetters f fd) (b : Binds K fd ["self"] []) (T : Txt K mg C) : C8.Met P w K mg base 1 C "letters" (spLetters C) [] := by
  refine C8.met0 T.cl me F b scLetters (fun vs H Q E h => ?_) (fun cdv A outer s H vs Q E hr h => ?_)
  · obtain ⟨_, _, rfl, _⟩ := h
    rfl
  · obtain ⟨p, F, rfl, ⟨dx, h, wt, xs, ws, hp, hh, hx, _⟩, q⟩ := h
    refine ⟨_, (pss_one (ps_ret (pe_callTy call_list_of (by rfl) T.list (by decide +kernel) (pa_cons (pe_fld (pv 0) rfl) pa_nil)))), ?_⟩
    exact ⟨_, rfl, p, C, dx, _, _, rfl, hp, T.cl, T.nH, ff_h _ _ _ _ _ _, h, xs, rfl, .inr (.of hh), fun l hl => q l xs _ (Evl.Ex.new hl) hl upd_same (hx.mono (Evl.Ex.new hl))⟩
def spAmong (C : Addr) : Sp := fun vs H Q _ => ∃ (p t : Addr) (F : Fol) (ns : List Int), vs = [.ref p, .ref t] ∧ FolAt C H p F ∧ F.ls.length ≤ 1000 ∧ H t = some (.tup (ns.map V.int)) ∧ ns.length ≤ 1000 ∧
  ∀ q xs H', Ex H H' → H' q = some (.lst xs) → LtrsAt H' xs (F.ls.filter fun l => decide (l.num ∈ ns)) → Q (.ref q) H'
theorem scAmong : FnScope ["folder", "numbers", "wanted", "letter"] ["folder", "numbers"] (C8.fnScope sAmong) := ⟨rfl, rfl, rfl, by decide +kernel, rfl, by decide +kernel, by decide +kernel⟩
theorem ok_among {f : Addr} {fd : FuncData} (F : C8.Def K mg "among" sAmong f fd) (b : Binds K fd ["folder", "numbers"] []) (T : Txt K mg C) : C8.Cal P w K mg base 1 "among" (spAmong C) [] := by
  refine C8.cal0 F b .nil scAmong (fun vs H Q E h => ?_) (fun cdv A outer s H vs Q E hr h => ?_)
  · obtain ⟨_, _, _, _, rfl, _⟩ := h
    rfl
  · obtain ⟨p, t, F, ns, rfl, ⟨dx, h, wt, xs, ws, hp, hh, hx, _⟩, few, ht, fewn, q⟩ := h
    refine ⟨_, (pss_cons (ps_set (i := 2) scAmong.nd rfl (Or.inr rfl) (pe_callTy (cr_setI rfl) (by rfl) T.set (by decide +kernel) (pa_cons (pv 1) pa_nil)))
        (pss_one (ps_ret (pe_lc (own := [("letter", 3)]) (g := gName 3) rfl scAmong.nd (pi_tup (pe_fld (pv 0) rfl)) (blkOk_by (N := ["folder", "numbers", "wanted", "letter"]) (sc := C8.fnScope sAmong) (by decide +kernel)) (fun _ _ _ _ _ => pg_name (i := 3) scAmong.nd rfl (Or.inl rfl)) (fun _ _ _ _ _ => (pts_one (pt_cmpR (orSin (w := w)) (pe_ix (ixT (K := K)) (pv 3) pe_int (fun _ _ => rfl)) (pv 2) rfl))) (fun _ _ _ _ _ => (pv 3)))))), ?_⟩
    refine ⟨_, rfl, t, ns, rfl, .of ht, fewn, fun a c na => ?_⟩
    have e1 : Ex H (upd H a (SetO w a (fun j => decide (j ∈ ns)) c)) := Evl.Ex.new na
    have ha : (upd H a (SetO w a (fun j => decide (j ∈ ns)) c)) a = some (SetO w a (fun j => decide (j ∈ ns)) c) := upd_same
    have hx1 := hx.mono e1
    refine ⟨_, rfl, p, C, dx, _, _, rfl, e1 _ _ hp, T.cl, T.nH, ff_h _ _ _ _ _ _, h, rfl, ⟨xs, .of (e1 _ _ hh)⟩, fun D hD => ?_⟩
    refine lc_gen (tt := tTest (tOp (rSIn w) (tOp (rIxT K) (tVar 3) (tC (.int 0))) (tVar 2))) walk_tup rfl (by rw [hx.length]; omega) hD (fun H' e => .of (e _ _ (e1 _ _ hh))) (fun v => decide (numAt (upd H a (SetO w a (fun j => decide (j ∈ ns)) c)) v ∈ ns)) (fun x y H' => y = x) (fun _ _ _ _ _ _ _ e => e) (fun _ => rfl)
      (fun x hxm H2 e2 Q2 k => ?_) (fun x hxm _ H2 e2 Q2 k => ⟨x, rfl, k x H2 (Evl.Ex.refl H2) rfl⟩) fun ys H' e hL pr => ?_
    · obtain ⟨l, _, hl⟩ := hx1.mem hxm
      rw [numAt_of hl] at k
      obtain ⟨tt, g, rfl, h1, _⟩ := hl
      exact ⟨_, rfl, tt, _, _, _, rfl, rfl, .of (e2 _ _ h1), at_of (j := 0) rfl rfl, _, rfl, _, a, _, _, rfl, rfl, e2 _ _ ha, _, rfl, k H2 (Evl.Ex.refl H2)⟩
    · have ey := paired_fn (f := fun x => x) pr
      rw [List.map_id'] at ey
      rw [ey] at hL
      exact q D _ H' (e1.trans e) hL ((hx1.filter (q := fun n => decide (n ∈ ns))).mono e)
end
end K59
/-! K59I: with_letter, resigned, without. -/
namespace K59
open PySem PySem.Spec PyProof.Rows L2 K59S
open Evl (Ex Ev EvT)
section
variable {P : Program} {w : World} {K : PySem.W.Frag} {mg : Str → Option Value} {base : Heap} {C : Addr}
theorem Exb.exN {q : Addr} {H H1 H2 : Hp} (nq : H q = none) (e : Ex H H1) (b : Exb q H1 H2) : Ex H H2 := fun c o h => b c o (ne_of_none h nq) (e c o h)
theorem putF_lt {f : Str} {v y h u l wt o : V} (_ : True) : (putF f v (ff y h u l wt o)).length < 1000 := Nat.lt_of_le_of_lt (putF_le (n := 6) (Nat.le_refl 6)) (by decide)
theorem LtrAt.keepI {q C dx : Addr} {fs : List (Str × V)} {H H' : Hp} {v : V} {l : Ltr} (hq : H q = some (.ins C dx fs)) (e : Exb q H H') (h : LtrAt H v l) : LtrAt H' v l := by
  obtain ⟨t, g, e1, e2, e3⟩ := h
  exact ⟨t, g, e1, e.keepI hq e2 (fun z => nomatch z), e.keepI hq e3 (fun z => nomatch z)⟩
theorem LtrsAt.keepI {q C dx : Addr} {fs : List (Str × V)} {H H' : Hp} (hq : H q = some (.ins C dx fs)) (e : Exb q H H') : ∀ {vs : List V} {ls : List Ltr}, LtrsAt H vs ls → LtrsAt H' vs ls
  | _, _, .nil => .nil
  | _, _, .cons a b => .cons (a.keepI hq e) (LtrsAt.keepI hq e b)
def spWithLetter (C : Addr) : Sp := fun vs H Q _ => ∃ (p g : Addr) (F : Fol) (bd : Int) (s : List Str), vs = [.ref p, .int bd, .ref g] ∧ FolAt C H p F ∧ 1 ≤ F.age ∧ F.ls.length ≤ 1000 ∧ H g = some (.tup (s.map V.str)) ∧
  ∀ q H', Ex H H' → FolAt C H' q (F.come bd s) → Q (.ref q) H'
theorem scWithLetter : FnScope ["folder", "body", "signs", "found"] ["folder", "body", "signs"] (C8.fnScope sWithLetter) := ⟨rfl, rfl, rfl, by decide +kernel, rfl, by decide +kernel, by decide +kernel⟩
theorem ok_withLetter {f : Addr} {fd : FuncData} (F : C8.Def K mg "with_letter" sWithLetter f fd) (b : Binds K fd ["folder", "body", "signs"] []) (T : Txt K mg C) (c_twin : C8.Cal P w K mg base 5 "twin" (spTwin C) []) : C8.Cal P w K mg base 6 "with_letter" (spWithLetter C) [] := by
  refine C8.cal0 F b .nil scWithLetter (fun vs H Q E h => ?_) (fun cdv A outer s H vs Q E hr h => ?_)
  · obtain ⟨_, _, _, _, _, rfl, _⟩ := h
    rfl
  · obtain ⟨p, g, F, bd, sg, rfl, ⟨dx, h, wt, xs, ws, hp, hh, hx, hw, hl⟩, age, few, hg, k⟩ := h
    refine ⟨_, (pss_cons (ps_set (i := 3) scWithLetter.nd rfl (Or.inl rfl) (C8.pe_c c_twin hr (by decide) (by rfl) (pa_cons (pv 0) pa_nil)))
        (pss_cons (ps_fld (pv 3) (pe_op op_add (pe_fld (pv 0) rfl) pe_int) rfl)
        (pss_cons (ps_fld (pv 3) (pe_op op_catA (pe_fld (pv 0) rfl) (pe_tup (pa_cons (pe_tup (pa_cons (pe_fld (pv 0) rfl) (pa_cons (pv 1) (pa_cons (pv 2) (pa_cons (pe_fld (pv 3) rfl) pa_nil))))) pa_nil))) rfl)
        (pss_cons (ps_fld (pv 3) (pe_op op_add (pe_fld (pv 0) rfl) pe_int) rfl)
        (pss_one (ps_ret (pv 3))))))), ?_⟩
    refine ⟨_, rfl, p, dx, F.age, _, _, _, _, _, rfl, hp, age, fun q dx2 H1 nq e1 hq => ?_⟩
    refine s_fld (p := q) (Evl.ev_op (ev_fld rfl (e1 _ _ hp) T.cl T.nL (ff_l _ _ _ _ _ _)) Evl.ev_c Evl.rv_I0) rfl hq T.cl T.nL (ff_len _ _ _ _ _ _) fun H2 b2 hq2 => ?_
    rw [ff_pl] at hq2
    have e2 := Exb.exN nq e1 b2
    refine ⟨_, rfl, p, C, dx, _, _, rfl, e2 _ _ hp, T.cl, T.nH, ff_h _ _ _ _ _ _, _, rfl, p, C, dx, _, _, rfl, e2 _ _ hp, T.cl, T.nU, ff_u _ _ _ _ _ _, _, rfl, _, rfl, _, rfl, q, C, dx2, _, _, rfl, hq2, T.cl, T.nL, ff_l _ _ _ _ _ _, by show 4 ≤ sizeLine; decide, fun t nt => ?_⟩
    have e3 := e2.trans (Evl.Ex.new (o := .tup [.int F.up, .int bd, .ref g, .int (F.lat + 1)]) nt)
    refine ⟨by show 1 ≤ sizeLine; decide, fun t2 nt2 => ?_⟩
    have e4 := e3.trans (Evl.Ex.new (o := .tup [.ref t]) nt2)
    have nqt : q ≠ t := ne_of_none hq2 nt
    have nqt2 : q ≠ t2 := ne_of_none ((upd_ne nqt).trans hq2) nt2
    have ntt2 : t ≠ t2 := ne_of_none upd_same nt2
    refine cat_k (xs := xs) (ys := [.ref t]) (e4 _ _ hh) upd_same (by simp) (by rw [hx.length]; show _ + 1 ≤ _; omega) fun r H5 e5 hr5 => ?_
    have hq5 : H5 q = _ := e5 _ _ ((upd_ne nqt2).trans ((upd_ne nqt).trans hq2))
    have ht5 : H5 t = _ := e5 _ _ ((upd_ne ntt2).trans upd_same)
    refine ⟨_, rfl, q, C, dx2, _, rfl, hq5, T.cl, T.nH, ff_len _ _ _ _ _ _, ?_⟩
    rw [ff_ph]
    have nrq : r ≠ q := ne_of hr5 hq5 (fun z => nomatch z)
    have ntq : t ≠ q := nqt.symm
    have b6 : Exb q H5 (upd H5 q (.ins C dx2 (ff (.int F.age) (.ref r) (.int F.up) (.int (F.lat + 1)) (.ref wt) (.int 0)))) := Exb.put (Exb.refl q H5)
    have e6 := Exb.exN nq (e4.trans e5) b6
    refine s_fld (p := q) (Evl.ev_op (ev_fld rfl (e6 _ _ hp) T.cl T.nU (ff_u _ _ _ _ _ _)) Evl.ev_c Evl.rv_I0) rfl upd_same T.cl T.nU (ff_len _ _ _ _ _ _) fun H7 b7 hq7 => ?_
    rw [ff_pu] at hq7
    have e7 := Exb.exN nq e6 b7
    refine ⟨_, rfl, k q H7 e7 ⟨dx2, r, wt, xs ++ [.ref t], ws, hq7, b7 _ _ nrq (b6 _ _ nrq hr5), ?_, e7 _ _ hw, ?_⟩⟩
    · refine LtrsAt.snoc (hx.mono e7) ⟨t, g, rfl, ?_, e7 _ _ hg⟩
      exact b7 _ _ ntq (b6 _ _ ntq ht5)
    · show (ws.length : Int) ≤ F.lat + 1
      omega
def spResigned (C : Addr) : Sp := fun vs H Q _ => ∃ (p g : Addr) (v : V) (l : Ltr) (G : Fol) (s : List Str), vs = [.ref p, v, .ref g] ∧ FolAt C H p G ∧ 1 ≤ G.age ∧ G.ls.length ≤ 1000 ∧ LtrAt H v l ∧ H g = some (.tup (s.map V.str)) ∧
  (∀ z ∈ l.sg, SignOk z) ∧ (∀ z ∈ s, SignOk z) ∧ ∀ q H', Ex H H' → FolAt C H' q (if l.sg = s then G else G.sign l s) → Q (.ref q) H'
theorem scResigned : FnScope ["folder", "letter", "signs", "found", "new", "one"] ["folder", "letter", "signs"] (C8.fnScope sResigned) := ⟨rfl, rfl, rfl, by decide +kernel, rfl, by decide +kernel, by decide +kernel⟩
theorem ok_resigned {f : Addr} {fd : FuncData} (F : C8.Def K mg "resigned" sResigned f fd) (b : Binds K fd ["folder", "letter", "signs"] []) (T : Txt K mg C) (c_twin : C8.Cal P w K mg base 5 "twin" (spTwin C) []) : C8.Cal P w K mg base 6 "resigned" (spResigned C) [] := by
  refine C8.cal0 F b .nil scResigned (fun vs H Q E h => ?_) (fun cdv A outer s H vs Q E hr h => ?_)
  · obtain ⟨_, _, _, _, _, _, rfl, _⟩ := h
    rfl
  · obtain ⟨p, g, v, l, G, sg, rfl, hG, age, few, hl, hg, ok1, ok2, k⟩ := h
    obtain ⟨t, g0, rfl, ht, hg0⟩ := id hl
    refine ⟨_, (pss_cons (ps_if (pt_cmpR (op_eqD hr.units) (pe_ix (ixT (K := K)) (pv 1) pe_int (fun _ _ => rfl)) (pv 2) (nomark _)) (pss_one (ps_ret (pv 0))) pss_nil)
        (pss_cons (ps_set (i := 3) scResigned.nd rfl (Or.inl rfl) (C8.pe_c c_twin hr (by decide) (by rfl) (pa_cons (pv 0) pa_nil)))
        (pss_cons (ps_fld (pv 3) (pe_op op_add (pe_fld (pv 0) rfl) pe_int) rfl)
        (pss_cons (ps_set (i := 4) scResigned.nd rfl (Or.inr rfl) (pe_tup (pa_cons (pe_ix (ixT (K := K)) (pv 1) pe_int (fun _ _ => rfl)) (pa_cons (pe_ix (ixT (K := K)) (pv 1) pe_int (fun _ _ => rfl)) (pa_cons (pv 2) (pa_cons (pe_fld (pv 3) rfl) pa_nil))))))
        (pss_cons (ps_fld (pv 3) (pe_callTy call_tuple_of (by rfl) T.tuple (by decide +kernel) (pa_cons (pe_lc (own := [("one", 5)]) (g := gName 5) (tt := tYes) rfl scResigned.nd (pi_tup (pe_fld (pv 0) rfl)) (blkOk_by (N := ["folder", "letter", "signs", "found", "new", "one"]) (sc := C8.fnScope sResigned) (by decide +kernel)) (fun _ _ _ _ _ => pg_name (i := 5) scResigned.nd rfl (Or.inl rfl)) (fun _ _ _ _ _ => pts_nil) (fun _ _ _ _ _ => (pe_ifExp (pt_cmpR op_eq (pe_ix (ixT (K := K)) (pv 5) pe_int (fun _ _ => rfl)) (pe_ix (ixT (K := K)) (pv 1) pe_int (fun _ _ => rfl)) (nomark _)) (pv 4) (pv 5)))) pa_nil)) rfl)
        (pss_one (ps_ret (pv 3)))))))), ?_⟩
    refine ⟨_, rfl, t, _, _, _, rfl, rfl, .of ht, at_of (j := 2) rfl rfl, _, rfl, txD l.sg, txD sg, dp_tx hg0, dp_tx hg, tx_shaped ok1, tx_shaped ok2, _, rfl, ?_⟩
    rw [tx_eq]
    refine ite2 (fun c => ?_) (fun c => ?_)
    · have c : l.sg = sg := of_decide_eq_true c
      rw [if_pos c] at k
      exact ⟨_, rfl, k p H (Evl.Ex.refl H) hG⟩
    have c : ¬ l.sg = sg := fun z => c (decide_eq_true z)
    rw [if_neg c] at k
    obtain ⟨dx, h, wt, xs, ws, hp, hh, hx, hw, hlen⟩ := hG
    refine ⟨_, rfl, p, dx, G.age, _, _, _, _, _, rfl, hp, age, fun q dx2 H1 nq e1 hq => ?_⟩
    refine s_fld (p := q) (Evl.ev_op (ev_fld rfl (e1 _ _ hp) T.cl T.nL (ff_l _ _ _ _ _ _)) Evl.ev_c Evl.rv_I0) rfl hq T.cl T.nL (ff_len _ _ _ _ _ _) fun H2 b2 hq2 => ?_
    rw [ff_pl] at hq2
    have e2 := Exb.exN nq e1 b2
    -- new = (letter[0], letter[1], signs, found.latest)
    refine ⟨_, rfl, t, _, _, _, rfl, rfl, .of (e2 _ _ ht), at_of (j := 0) rfl rfl, _, rfl, t, _, _, _, rfl, rfl, .of (e2 _ _ ht), at_of (j := 1) rfl rfl, _, rfl, _, rfl, q, C, dx2, _, _, rfl, hq2, T.cl, T.nL, ff_l _ _ _ _ _ _, by show 4 ≤ sizeLine; decide, fun n nn => ?_⟩
    have e3 := e2.trans (Evl.Ex.new (o := .tup [.int l.num, .int l.body, .ref g, .int (G.lat + 1)]) nn)
    have hq3 : (upd H2 n (.tup [.int l.num, .int l.body, .ref g, .int (G.lat + 1)])) q = _ := (upd_ne (ne_of_none hq2 nn)).trans hq2
    have hnew : LtrAt (upd H2 n (.tup [.int l.num, .int l.body, .ref g, .int (G.lat + 1)])) (.ref n) ⟨l.num, l.body, sg, G.lat + 1⟩ := ⟨n, g, rfl, upd_same, e3 _ _ hg⟩
    have hx3 := hx.mono e3
    refine ⟨_, rfl, p, C, dx, _, _, rfl, e3 _ _ hp, T.cl, T.nH, ff_h _ _ _ _ _ _, h, rfl, ⟨xs, .of (e3 _ _ hh)⟩, fun D hD => ?_⟩
    refine lc_gen walk_tup rfl (by rw [hx.length]; omega) hD (fun H' e => .of (e _ _ (e3 _ _ hh))) (fun _ => true)
      (fun x y H' => ∃ m, LtrAt (upd H2 n (.tup [.int l.num, .int l.body, .ref g, .int (G.lat + 1)])) x m ∧ LtrAt H' y (if m.num = l.num then ⟨l.num, l.body, sg, G.lat + 1⟩ else m))
      (fun _ _ _ _ _ hD' eb ⟨m, m1, m2⟩ => ⟨m, m1, m2.keep hD' eb⟩) (fun _ => rfl) (fun _ _ => ev_yes)
      (fun x hxm _ H4 e4 Q4 k4 => ?_) fun ys H' e hL pr => ?_
    · obtain ⟨m, _, hm⟩ := hx3.mem hxm
      obtain ⟨t5, g5, rfl, h5, _⟩ := id hm
      refine ⟨_, rfl, t5, _, _, _, rfl, rfl, .of (e4 _ _ h5), at_of (j := 0) rfl rfl, _, rfl, t, _, _, _, rfl, rfl, .of (e4 _ _ (e3 _ _ ht)), at_of (j := 0) rfl rfl, rfl, _, rfl, ite2 (fun c5 => ?_) (fun c5 => ?_)⟩
      · have c5 : m.num = l.num := V.int.inj (of_decide_eq_true c5)
        exact ⟨_, rfl, k4 _ H4 (Evl.Ex.refl H4) ⟨m, hm, by rw [if_pos c5]; exact hnew.mono e4⟩⟩
      · have c5 : ¬ m.num = l.num := fun z => c5 (decide_eq_true (by rw [z]))
        exact ⟨_, rfl, k4 _ H4 (Evl.Ex.refl H4) ⟨m, hm, by rw [if_neg c5]; exact hm.mono e4⟩⟩
    · rw [filter_true] at pr
      refine ⟨D, _, rfl, .inl ⟨.of hL, fun r hr => ?_⟩⟩
      have e5 := e.trans (Evl.Ex.new (o := .tup ys) hr)
      refine ⟨_, rfl, q, C, dx2, _, rfl, e5 _ _ hq3, T.cl, T.nH, ff_len _ _ _ _ _ _, ?_⟩
      rw [ff_ph]
      have b6 : Exb q (upd H' r (.tup ys)) (upd (upd H' r (.tup ys)) q (.ins C dx2 (ff (.int G.age) (.ref r) (.int G.up) (.int (G.lat + 1)) (.ref wt) (.int 0)))) := Exb.put (Exb.refl q _)
      have e6 := Exb.exN nq (e3.trans e5) b6
      have nrq : r ≠ q := (ne_of_none (e _ _ hq3) hr).symm
      have hys : LtrsAt H' ys (G.ls.map fun m => if m.num = l.num then ⟨l.num, l.body, sg, G.lat + 1⟩ else m) := LtrsAt.via hx3 pr
      refine ⟨_, rfl, k q _ e6 ⟨dx2, r, wt, ys, ws, upd_same, b6 _ _ nrq upd_same, ?_, e6 _ _ hw, ?_⟩⟩
      · exact LtrsAt.keepI (C := C) (dx := dx2) (e5 _ _ hq3) b6 (hys.mono (Evl.Ex.new hr))
      · show (ws.length : Int) ≤ G.lat + 1
        omega
def spWithout (C : Addr) : Sp := fun vs H Q _ => ∃ (p : Addr) (n : Int) (G : Fol), vs = [.ref p, .int n] ∧ FolAt C H p G ∧ 1 ≤ G.age ∧ G.ls.length ≤ 1000 ∧ G.lat ≤ 90000 ∧
  ∀ q H', Ex H H' → FolAt C H' q (G.go n) → Q (.ref q) H'
theorem scWithout : FnScope ["folder", "number", "found", "one"] ["folder", "number"] (C8.fnScope sWithout) := ⟨rfl, rfl, rfl, by decide +kernel, rfl, by decide +kernel, by decide +kernel⟩
theorem ok_without {f : Addr} {fd : FuncData} (F : C8.Def K mg "without" sWithout f fd) (b : Binds K fd ["folder", "number"] []) (T : Txt K mg C) (c_twin : C8.Cal P w K mg base 5 "twin" (spTwin C) []) : C8.Cal P w K mg base 6 "without" (spWithout C) [] := by
  refine C8.cal0 F b .nil scWithout (fun vs H Q E h => ?_) (fun cdv A outer s H vs Q E hr h => ?_)
  · obtain ⟨_, _, _, rfl, _⟩ := h
    rfl
  · obtain ⟨p, n, G, rfl, ⟨dx, h, wt, xs, ws, hp, hh, hx, hw, hlen⟩, age, few, late, k⟩ := h
    refine ⟨_, (pss_cons (ps_set (i := 2) scWithout.nd rfl (Or.inl rfl) (C8.pe_c c_twin hr (by decide) (by rfl) (pa_cons (pv 0) pa_nil)))
        (pss_cons (ps_fld (pv 2) (pe_op op_add (pe_fld (pv 0) rfl) pe_int) rfl)
        (pss_cons (ps_fld (pv 2) (pe_callTy call_tuple_of (by rfl) T.tuple (by decide +kernel) (pa_cons (pe_lc (own := [("one", 3)]) (g := gName 3) rfl scWithout.nd (pi_tup (pe_fld (pv 0) rfl)) (blkOk_by (N := ["folder", "number", "found", "one"]) (sc := C8.fnScope sWithout) (by decide +kernel)) (fun _ _ _ _ _ => pg_name (i := 3) scWithout.nd rfl (Or.inl rfl)) (fun _ _ _ _ _ => (pts_one (pt_cmpR op_ne (pe_ix (ixT (K := K)) (pv 3) pe_int (fun _ _ => rfl)) (pv 1) (nomark _)))) (fun _ _ _ _ _ => (pv 3))) pa_nil)) rfl)
        (pss_cons (ps_fld (pv 2) (pe_op op_catA (pe_fld (pv 0) rfl) (pe_tup (pa_cons (pe_tup (pa_cons (pe_fld (pv 2) rfl) (pa_cons (pv 1) pa_nil))) pa_nil))) rfl)
        (pss_one (ps_ret (pv 2))))))), ?_⟩
    refine ⟨_, rfl, p, dx, G.age, _, _, _, _, _, rfl, hp, age, fun q dx2 H1 nq e1 hq => ?_⟩
    refine s_fld (p := q) (Evl.ev_op (ev_fld rfl (e1 _ _ hp) T.cl T.nL (ff_l _ _ _ _ _ _)) Evl.ev_c Evl.rv_I0) rfl hq T.cl T.nL (ff_len _ _ _ _ _ _) fun H2 b2 hq2 => ?_
    rw [ff_pl] at hq2
    have e2 := Exb.exN nq e1 b2
    have hx2 := hx.mono e2
    refine ⟨_, rfl, p, C, dx, _, _, rfl, e2 _ _ hp, T.cl, T.nH, ff_h _ _ _ _ _ _, h, rfl, ⟨xs, .of (e2 _ _ hh)⟩, fun D hD => ?_⟩
    refine lc_gen (tt := tTest (tOp rNe (tOp (rIxT K) (tVar 3) (tC (.int 0))) (tVar 1))) walk_tup rfl (by rw [hx.length]; omega) hD (fun H' e => .of (e _ _ (e2 _ _ hh))) (fun v => !decide (numAt H2 v = n)) (fun x y H' => y = x) (fun _ _ _ _ _ _ _ e => e) (fun _ => rfl)
      (fun x hxm H4 e4 Q4 k4 => ?_) (fun x hxm _ H4 e4 Q4 k4 => ⟨x, rfl, k4 x H4 (Evl.Ex.refl H4) rfl⟩) fun ys H' e hL pr => ?_
    · obtain ⟨l, _, hl⟩ := hx2.mem hxm
      rw [numAt_of hl] at k4
      obtain ⟨tt, g, rfl, h1, _⟩ := hl
      refine ⟨_, rfl, tt, _, _, _, rfl, rfl, .of (e4 _ _ h1), at_of (j := 0) rfl rfl, _, rfl, rfl, _, rfl, ?_⟩
      have e0 : decide (V.int l.num = V.int n) = decide (l.num = n) := by
        by_cases z : l.num = n
        · rw [z]
          simp
        · rw [decide_eq_false z, decide_eq_false fun y => z (V.int.inj y)]
      rw [e0]
      exact k4 H4 (Evl.Ex.refl H4)
    · have ey := paired_fn (f := fun x => x) pr
      rw [List.map_id'] at ey
      refine ⟨D, _, rfl, .inl ⟨.of hL, fun r hr => ?_⟩⟩
      have e5 := e.trans (Evl.Ex.new (o := .tup ys) hr)
      refine ⟨_, rfl, q, C, dx2, _, rfl, e5 _ _ hq2, T.cl, T.nH, ff_len _ _ _ _ _ _, ?_⟩
      rw [ff_ph]
      have b6 : Exb q (upd H' r (.tup ys)) (upd (upd H' r (.tup ys)) q (.ins C dx2 (ff (.int G.age) (.ref r) (.int G.up) (.int (G.lat + 1)) (.ref wt) (.int 0)))) := Exb.put (Exb.refl q _)
      have e6 := Exb.exN nq (e2.trans e5) b6
      have nrq : r ≠ q := (ne_of_none (e _ _ hq2) hr).symm
      have hys : LtrsAt H' ys (G.ls.filter fun m => !decide (m.num = n)) := by
        rw [ey]
        exact (hx2.filter (q := fun m => !decide (m = n))).mono e
      have hys6 := LtrsAt.keepI (C := C) (dx := dx2) (e5 _ _ hq2) b6 (hys.mono (Evl.Ex.new (o := .tup ys) hr))
      have hr6 := b6 _ _ nrq upd_same
      -- found.went = folder.went + ((found.latest, number),)
      generalize hH6 : upd (upd H' r (.tup ys)) q (.ins C dx2 (ff (.int G.age) (.ref r) (.int G.up) (.int (G.lat + 1)) (.ref wt) (.int 0))) = H6 at e6 hys6 hr6
      have hq6 : H6 q = some (.ins C dx2 (ff (.int G.age) (.ref r) (.int G.up) (.int (G.lat + 1)) (.ref wt) (.int 0))) := by
        rw [← hH6]
        exact upd_same
      refine ⟨_, rfl, p, C, dx, _, _, rfl, e6 _ _ hp, T.cl, T.nW, ff_w _ _ _ _ _ _, _, rfl, q, C, dx2, _, _, rfl, hq6, T.cl, T.nL, ff_l _ _ _ _ _ _, _, rfl, by show 2 ≤ sizeLine; decide, fun t nt => ?_⟩
      have e7 := e6.trans (Evl.Ex.new (o := .tup [.int (G.lat + 1), .int n]) nt)
      refine ⟨by show 1 ≤ sizeLine; decide, fun t2 nt2 => ?_⟩
      have e8 := e7.trans (Evl.Ex.new (o := .tup [.ref t]) nt2)
      have nqt : q ≠ t := ne_of_none hq6 nt
      have nqt2 : q ≠ t2 := ne_of_none ((upd_ne nqt).trans hq6) nt2
      have e68 : Ex H6 (upd (upd H6 t (.tup [.int (G.lat + 1), .int n])) t2 (.tup [.ref t])) := (Evl.Ex.new nt).trans (Evl.Ex.new nt2)
      refine cat_k (xs := ws) (ys := [.ref t]) (e8 _ _ hw) upd_same (by simp) (by show _ + 1 ≤ _; omega) fun z H9 e9 hz9 => ?_
      have hq9 : H9 q = _ := e9 _ _ (e68 _ _ hq6)
      refine ⟨_, rfl, q, C, dx2, _, rfl, hq9, T.cl, T.nW, ff_len _ _ _ _ _ _, ?_⟩
      rw [ff_pw]
      have b9 : Exb q H9 (upd H9 q (.ins C dx2 (ff (.int G.age) (.ref r) (.int G.up) (.int (G.lat + 1)) (.ref z) (.int 0)))) := Exb.put (Exb.refl q _)
      have e10 := Exb.exN nq (e8.trans e9) b9
      have nzq : z ≠ q := ne_of hz9 hq9 (fun y => nomatch y)
      refine ⟨_, rfl, k q _ e10 ⟨dx2, r, z, ys, ws ++ [.ref t], upd_same, b9 _ _ nrq (e9 _ _ (e68 _ _ hr6)), ?_, b9 _ _ nzq hz9, ?_⟩⟩
      · exact LtrsAt.keepI (C := C) (dx := dx2) hq9 b9 (hys6.mono (e68.trans e9))
      · rw [List.length_append]
        show ((ws.length + 1 : Nat) : Int) ≤ G.lat + 1
        omega
end
end K59
/-! K59J: the methods that change letters. -/
namespace K59
open PySem PySem.Spec PyProof.Rows L2 K59S
open Evl (Ex Ev EvT)
/-! ### the loops, without a program -/
theorem len_subS : ∀ (a b : List Str), a.Nodup → (∀ x ∈ a, x ∈ b) → a.length ≤ b.length
  | [], b, _, _ => Nat.zero_le _
  | x :: a, b, nd, h => by
    obtain ⟨h1, h2⟩ := List.nodup_cons.mp nd
    have hx : x ∈ b := h x List.mem_cons_self
    have ih := len_subS a (b.erase x) h2 fun y hy => by
      have hne : y ≠ x := fun e => h1 (e ▸ hy)
      exact (List.mem_erase_of_ne hne).mpr (h y (List.mem_cons_of_mem _ hy))
    rw [List.length_erase_of_mem hx] at ih
    have hp : 0 < b.length := List.length_pos_of_mem hx
    rw [List.length_cons]
    omega
/-- a folder that can be worked at -/
structure Fine (F : Fol) : Prop where
  inv : Inv F
  few : F.ls.length ≤ 900
  late : F.lat ≤ 80000
abbrev Sel (F : Fol) (ns : List Int) : List Ltr := F.ls.filter fun l => decide (l.num ∈ ns)
theorem sel_mem {F : Fol} {ns : List Int} {l : Ltr} {i : Nat} (h : (Sel F ns)[i]? = some l) : l ∈ F.ls := (List.mem_filter.mp (List.mem_of_getElem? h)).1
theorem sel_nd {F : Fol} {ns : List Int} (nd : (nums F).Nodup) : ((Sel F ns).map Ltr.num).Nodup := nd_filter nd
theorem sel_next {ls : List Ltr} (nd : (ls.map Ltr.num).Nodup) {i : Nat} {l m : Ltr} (h : ls[i]? = some l) (hm : m ∈ ls.drop (i + 1)) : m.num ≠ l.num := by
  obtain ⟨j, hj⟩ := List.getElem?_of_mem hm
  rw [List.getElem?_drop] at hj
  intro e
  have a1 : (ls.map Ltr.num)[i]? = some l.num := by rw [List.getElem?_map, h]; rfl
  have a2 : (ls.map Ltr.num)[i + 1 + j]? = some l.num := by rw [List.getElem?_map, hj, ← e]; rfl
  have := nd_ix nd a1 a2
  omega
theorem drop_here {ls : List Ltr} {i : Nat} {l : Ltr} (h : ls[i]? = some l) : l ∈ ls.drop i := by
  refine List.mem_of_getElem? (i := 0) ?_
  rw [List.getElem?_drop]
  exact h
theorem drop_more {ls : List Ltr} {i : Nat} {m : Ltr} (h : m ∈ ls.drop (i + 1)) : m ∈ ls.drop i := by
  obtain ⟨j, hj⟩ := List.getElem?_of_mem h
  rw [List.getElem?_drop] at hj
  refine List.mem_of_getElem? (i := j + 1) ?_
  rw [List.getElem?_drop, ← hj]
  congr 1
  omega
structure SLoop (F : Fol) (ns : List Int) (i : Nat) (G : Fol) (h : Ltr → Ltr) : Prop where
  sgd : Sgd F G h
  rest : ∀ l ∈ (Sel F ns).drop i, h l = l
  ok : ∀ l ∈ G.ls, SgOk l.sg
theorem SLoop.start {F : Fol} {ns : List Int} (I : Inv F) : SLoop F ns 0 F id := ⟨Sgd.refl F, fun _ _ => rfl, I.sgb⟩
theorem SLoop.skip {F G : Fol} {ns : List Int} {i : Nat} {h : Ltr → Ltr} (S : SLoop F ns i G h) : SLoop F ns (i + 1) G h := ⟨S.sgd, fun l hl => S.rest l (drop_more hl), S.ok⟩
theorem SLoop.turn {F G : Fol} {ns : List Int} {i : Nat} {h : Ltr → Ltr} {l : Ltr} {s : List Str} (I : Inv F) (S : SLoop F ns i G h) (hi : (Sel F ns)[i]? = some l) (ok : SgOk s) :
    ∃ h', SLoop F ns (i + 1) (if l.sg = s then G else G.sign l s) h' := by
  by_cases c : l.sg = s
  · rw [if_pos c]
    exact ⟨h, S.skip⟩
  · rw [if_neg c]
    refine ⟨_, S.sgd.sign I.nd (sel_mem hi) (S.rest l (drop_here hi)) (fun e => c e.symm), fun m hm => ?_, fun m hm => ?_⟩
    · rw [put_other (sel_next (sel_nd I.nd) hi hm)]
      exact S.rest m (drop_more hm)
    · obtain ⟨x, hx, e⟩ := List.mem_map.mp hm
      by_cases c2 : x.num = l.num
      · rw [if_pos c2] at e
        rw [← e]
        exact ok
      · rw [if_neg c2] at e
        rw [← e]
        exact S.ok x hx
theorem SLoop.step {F G : Fol} {ns : List Int} {i : Nat} {h : Ltr → Ltr} (I : Inv F) (S : SLoop F ns i G h) : Step F G := S.sgd.step I S.ok
theorem SLoop.len {F G : Fol} {ns : List Int} {i : Nat} {h : Ltr → Ltr} (S : SLoop F ns i G h) : G.ls.length = F.ls.length := by rw [S.sgd.ls, List.length_map]
structure GLoop (F : Fol) (ns : List Int) (i : Nat) (G : Fol) (p : Ltr → Bool) : Prop where
  went : Went F G p
  rest : ∀ l ∈ (Sel F ns).drop i, p l = true
theorem GLoop.start {F : Fol} {ns : List Int} : GLoop F ns 0 F (fun _ => true) := ⟨Went.refl F, fun _ _ => rfl⟩
theorem GLoop.turn {F G : Fol} {ns : List Int} {i : Nat} {p : Ltr → Bool} {l : Ltr} (I : Inv F) (S : GLoop F ns i G p) (hi : (Sel F ns)[i]? = some l) : ∃ p', GLoop F ns (i + 1) (G.go l.num) p' := by
  refine ⟨_, S.went.go I.nd (sel_mem hi) (S.rest l (drop_here hi)), fun m hm => ?_⟩
  have h1 := S.rest m (drop_more hm)
  have h2 := sel_next (sel_nd I.nd) hi hm
  rw [h1, decide_eq_false h2]
  rfl
theorem GLoop.len {F G : Fol} {ns : List Int} {i : Nat} {p : Ltr → Bool} (S : GLoop F ns i G p) : G.ls.length ≤ F.ls.length := by
  rw [S.went.ls]
  exact List.length_filter_le _ _
theorem in_strs (z : Str) : ∀ zs : List Str, inV (.str z) (zs.map V.str) = decide (z ∈ zs)
  | [] => rfl
  | y :: zs => by
    have ih := in_strs z zs
    show (eqV (.str y) (.str z) || inV (.str z) (zs.map V.str)) = _
    rw [ih]
    show ((y == z) || decide (z ∈ zs)) = _
    by_cases e : y = z
    · simp [e]
    · have e2 : ¬ z = y := fun q => e q.symm
      simp [e, e2]
section
variable {P : Program} {w : World} {K : PySem.W.Frag} {mg : Str → Option Value} {base : Heap} {C : Addr}
/-- what a deed's method hands back -/
def Back (C : Addr) (F : Fol) (H : Hp) (Q : VK) : Prop := ∀ q G H', Ex H H' → FolAt C H' q G → Step F G → Q (.ref q) H'
def spAppended (C : Addr) : Sp := fun vs H Q _ => ∃ (p g : Addr) (F : Fol) (bd : Int) (s : List Str), vs = [.ref p, .int bd, .ref g] ∧ FolAt C H p F ∧ Fine F ∧ 0 ≤ bd ∧ H g = some (.tup (s.map V.str)) ∧ SigsOk s ∧ Back C F H Q
theorem scAppended : FnScope ["self", "body", "signs"] ["self", "body", "signs"] (C8.fnScope sAppended) := ⟨rfl, rfl, rfl, by decide +kernel, rfl, by decide +kernel, by decide +kernel⟩
theorem ok_appended {f : Addr} {fd : FuncData} (me : Meth K C "appended" f) (F : C8.Fun K "appended" "Folder.appended" sAppended f fd) (b : Binds K fd ["self", "body", "signs"] []) (T : Txt K mg C) (c_is_least : C8.Cal P w K mg base 2 "is_least" spIsLeast []) (c_is_signs : C8.Cal P w K mg base 2 "is_signs" spIsSigns [])
    (c_with_letter : C8.Cal P w K mg base 6 "with_letter" (spWithLetter C) []) : C8.Met P w K mg base 7 C "appended" (spAppended C) [] := by
  refine C8.met0 T.cl me F b scAppended (fun vs H Q E h => ?_) (fun cdv A outer s H vs Q E hr h => ?_)
  · obtain ⟨_, _, _, _, _, rfl, _⟩ := h
    rfl
  · obtain ⟨p, g, F, bd, sg, rfl, hF, fine, b0, hg, ok, k⟩ := h
    refine ⟨_, (pss_cons (ps_if (pt_not (pt_val (C8.pe_c c_is_least hr (by decide) (by rfl) (pa_cons (pv 1) (pa_cons pe_int pa_nil))))) pss_never pss_nil)
        (pss_cons (ps_if (pt_not (pt_val (C8.pe_c c_is_signs hr (by decide) (by rfl) (pa_cons (pv 2) pa_nil)))) pss_never pss_nil)
        (pss_one (ps_ret (C8.pe_c c_with_letter hr (by decide) (by rfl) (pa_cons (pv 0) (pa_cons (pv 1) (pa_cons (pv 2) pa_nil)))))))), ?_⟩
    refine ⟨_, rfl, bd, 0, rfl, fun H1 e1 => ⟨_, rfl, iteNS b0 ?_⟩⟩
    refine ⟨_, rfl, g, sg, rfl, e1 _ _ hg, ok, fun H2 e2 => ⟨_, rfl, iteF ?_⟩⟩
    have e := e1.trans e2
    refine ⟨_, rfl, _, rfl, _, rfl, p, g, F, bd, sg, rfl, hF.mono e, fine.inv.age, by have := fine.few; omega, e _ _ hg, fun q H3 e3 hq => ?_⟩
    exact k q _ H3 (e.trans e3) hq (come_step fine.inv bd sg ⟨ok.few, ok.each⟩)
/-- the numbers of a deed -/
def NumsAt (H : Hp) (t : Addr) (ns : List Int) : Prop := H t = some (.tup (ns.map V.int)) ∧ NumsOk ns
def spSetTo (C : Addr) : Sp := fun vs H Q _ => ∃ (p t g : Addr) (F : Fol) (ns : List Int) (s : List Str), vs = [.ref p, .ref t, .ref g] ∧ FolAt C H p F ∧ Fine F ∧ NumsAt H t ns ∧ H g = some (.tup (s.map V.str)) ∧ SigsOk s ∧ Back C F H Q
theorem scSetTo : FnScope ["self", "numbers", "signs", "found", "letter"] ["self", "numbers", "signs"] (C8.fnScope sSetTo) := ⟨rfl, rfl, rfl, by decide +kernel, rfl, by decide +kernel, by decide +kernel⟩
theorem ok_setTo {f : Addr} {fd : FuncData} (me : Meth K C "set_to" f) (F : C8.Fun K "set_to" "Folder.set_to" sSetTo f fd) (b : Binds K fd ["self", "numbers", "signs"] []) (T : Txt K mg C) (c_check_numbers : C8.Cal P w K mg base 4 "check_numbers" spCheckNumbers []) (c_is_signs : C8.Cal P w K mg base 2 "is_signs" spIsSigns [])
    (c_among : C8.Cal P w K mg base 1 "among" (spAmong C) []) (c_resigned : C8.Cal P w K mg base 6 "resigned" (spResigned C) []) : C8.Met P w K mg base 7 C "set_to" (spSetTo C) [] := by
  refine C8.met0 T.cl me F b scSetTo (fun vs H Q E h => ?_) (fun cdv A outer s H vs Q E hr h => ?_)
  · obtain ⟨_, _, _, _, _, _, rfl, _⟩ := h
    rfl
  · obtain ⟨p, t, g, F, ns, sg, rfl, hF, fine, ⟨ht, hn⟩, hg, ok, k⟩ := h
    refine ⟨_, (pss_cons (ps_expr (C8.pe_c c_check_numbers hr (by decide) (by rfl) (pa_cons (pv 1) pa_nil)))
        (pss_cons (ps_if (pt_not (pt_val (C8.pe_c c_is_signs hr (by decide) (by rfl) (pa_cons (pv 2) pa_nil)))) pss_never pss_nil)
        (pss_cons (ps_set (i := 3) scSetTo.nd rfl (Or.inl rfl) (pv 0))
        (pss_cons (ps_for PassesOwn.never rfl (pi_list (C8.pe_c c_among hr (by decide) (by rfl) (pa_cons (pv 0) (pa_cons (pv 1) pa_nil)))) (pg_name (i := 4) scSetTo.nd rfl (Or.inl rfl))
        (pss_one (ps_set (i := 3) scSetTo.nd rfl (Or.inl rfl) (C8.pe_c c_resigned hr (by decide) (by rfl) (pa_cons (pv 3) (pa_cons (pv 4) (pa_cons (pv 2) pa_nil)))))))
        (pss_one (ps_ret (pv 3))))))), ?_⟩
    refine ⟨_, rfl, t, ns, rfl, ht, hn, fun H1 e1 => ?_⟩
    refine ⟨_, rfl, g, sg, rfl, e1 _ _ hg, ok, fun H2 e2 => ⟨_, rfl, iteF ?_⟩⟩
    have e12 := e1.trans e2
    refine ⟨_, rfl, ?_⟩
    refine ⟨_, rfl, _, rfl, p, t, F, ns, rfl, hF.mono e12, by have := fine.few; omega, e12 _ _ ht, hn.2, fun a xs H3 e3 ha hx => ?_⟩
    have e13 := e12.trans e3
    refine ⟨a, rfl, ⟨xs, .of ha⟩, for_it (walk_list (xs := xs)) (fun i σ H' => ∃ q G h v, σ = [some (.ref p), some (.ref t), some (.ref g), some (.ref q), v] ∧ Ex H3 H' ∧ FolAt C H' q G ∧ SLoop F ns i G h)
      ⟨p, F, id, none, rfl, Evl.Ex.refl H3, hF.mono e13, SLoop.start fine.inv⟩ (fun i σ H' _ ⟨_, _, _, _, _, e, _⟩ => .of (e _ _ ha)) ?_ ?_⟩
    · rintro i x σ H' H'' hi ⟨q, G, h, v, rfl, e, hG, S⟩ ⟨eH, hxi⟩
      subst eH
      obtain ⟨l, hl, hlt⟩ := hx.get hxi
      have hlF := sel_mem hl
      refine ⟨_, rfl, _, rfl, _, rfl, q, g, x, l, G, sg, rfl, hG, by rw [S.sgd.age]; exact fine.inv.age, by rw [S.len]; have := fine.few; omega, hlt.mono e, (e13.trans e) _ _ hg, (fine.inv.sgb l hlF).2, ok.each, fun q2 H4 e4 hq2 => ?_⟩
      obtain ⟨h', S'⟩ := S.turn fine.inv hl ⟨ok.few, ok.each⟩
      exact ⟨q2, _, h', _, rfl, e.trans e4, hq2, S'⟩
    · rintro σ H' ⟨q, G, h, v, rfl, e, hG, S⟩
      exact ⟨_, rfl, k q G H' (e13.trans e) hG (S.step fine.inv)⟩
def spRemoved (C : Addr) : Sp := fun vs H Q _ => ∃ (p t : Addr) (F : Fol) (ns : List Int), vs = [.ref p, .ref t] ∧ FolAt C H p F ∧ Fine F ∧ NumsAt H t ns ∧ Back C F H Q
theorem scRemoved : FnScope ["self", "numbers", "found", "letter"] ["self", "numbers"] (C8.fnScope sRemoved) := ⟨rfl, rfl, rfl, by decide +kernel, rfl, by decide +kernel, by decide +kernel⟩
theorem ok_removed {f : Addr} {fd : FuncData} (me : Meth K C "removed" f) (F : C8.Fun K "removed" "Folder.removed" sRemoved f fd) (b : Binds K fd ["self", "numbers"] []) (T : Txt K mg C) (c_check_numbers : C8.Cal P w K mg base 4 "check_numbers" spCheckNumbers [])
    (c_among : C8.Cal P w K mg base 1 "among" (spAmong C) []) (c_without : C8.Cal P w K mg base 6 "without" (spWithout C) []) : C8.Met P w K mg base 7 C "removed" (spRemoved C) [] := by
  refine C8.met0 T.cl me F b scRemoved (fun vs H Q E h => ?_) (fun cdv A outer s H vs Q E hr h => ?_)
  · obtain ⟨_, _, _, _, rfl, _⟩ := h
    rfl
  · obtain ⟨p, t, F, ns, rfl, hF, fine, ⟨ht, hn⟩, k⟩ := h
    refine ⟨_, (pss_cons (ps_expr (C8.pe_c c_check_numbers hr (by decide) (by rfl) (pa_cons (pv 1) pa_nil)))
        (pss_cons (ps_set (i := 2) scRemoved.nd rfl (Or.inl rfl) (pv 0))
        (pss_cons (ps_for PassesOwn.never rfl (pi_list (C8.pe_c c_among hr (by decide) (by rfl) (pa_cons (pv 0) (pa_cons (pv 1) pa_nil)))) (pg_name (i := 3) scRemoved.nd rfl (Or.inl rfl))
        (pss_one (ps_set (i := 2) scRemoved.nd rfl (Or.inl rfl) (C8.pe_c c_without hr (by decide) (by rfl) (pa_cons (pv 2) (pa_cons (pe_ix (ixT (K := K)) (pv 3) pe_int (fun _ _ => rfl)) pa_nil))))))
        (pss_one (ps_ret (pv 2)))))), ?_⟩
    refine ⟨_, rfl, t, ns, rfl, ht, hn, fun H1 e1 => ?_⟩
    refine ⟨_, rfl, ?_⟩
    refine ⟨_, rfl, _, rfl, p, t, F, ns, rfl, hF.mono e1, by have := fine.few; omega, e1 _ _ ht, hn.2, fun a xs H3 e3 ha hx => ?_⟩
    have e13 := e1.trans e3
    refine ⟨a, rfl, ⟨xs, .of ha⟩, for_it (walk_list (xs := xs)) (fun i σ H' => ∃ q G h v, σ = [some (.ref p), some (.ref t), some (.ref q), v] ∧ Ex H3 H' ∧ FolAt C H' q G ∧ GLoop F ns i G h)
      ⟨p, F, _, none, rfl, Evl.Ex.refl H3, hF.mono e13, GLoop.start⟩ (fun i σ H' _ ⟨_, _, _, _, _, e, _⟩ => .of (e _ _ ha)) ?_ ?_⟩
    · rintro i x σ H' H'' hi ⟨q, G, h, v, rfl, e, hG, S⟩ ⟨eH, hxi⟩
      subst eH
      obtain ⟨l, hl, hlt⟩ := hx.get hxi
      obtain ⟨tx, gx, rfl, htx, _⟩ := hlt
      have f1 := fine.few
      have f2 := fine.late
      have f3 := S.len
      have f4 := S.went.lat
      refine ⟨_, rfl, _, rfl, tx, _, _, _, rfl, rfl, .of (e _ _ htx), at_of (j := 0) rfl rfl, q, l.num, G, rfl, hG, by rw [S.went.age]; exact fine.inv.age, by omega, by omega, fun q2 H4 e4 hq2 => ?_⟩
      obtain ⟨h', S'⟩ := S.turn fine.inv hl
      exact ⟨q2, _, h', _, rfl, e.trans e4, hq2, S'⟩
    · rintro σ H' ⟨q, G, h, v, rfl, e, hG, S⟩
      exact ⟨_, rfl, k q G H' (e13.trans e) hG (S.went.step fine.inv)⟩
end
end K59
/-! K59L: added, taken. -/
namespace K59
open PySem PySem.Spec PyProof.Rows L2 K59S
open Evl (Ex Ev EvT)
theorem or_cut {c d : Bool} {u : TT} {σ : L2.St} {H : Hp} {Q : Bool → Hp → Prop} (hu : ∀ Q : Bool → Hp → Prop, Q d H → u σ H Q) (k : Q (c || d) H) : if c = true then Q true H else u σ H Q := by
  cases c with
  | true => exact iteT k
  | false => exact iteF (hu Q k)
theorem flat_str (zs : List Str) : (zs.map V.str).all flatV = true := by
  rw [List.all_map]
  exact List.all_eq_true.mpr fun _ _ => rfl
section
variable {P : Program} {w : World} {K : PySem.W.Frag} {mg : Str → Option Value} {base : Heap} {C : Addr}
def spSignDeed (C : Addr) : Sp := fun vs H Q _ => ∃ (p t : Addr) (F : Fol) (ns : List Int) (sg : Str), vs = [.ref p, .ref t, .str sg] ∧ FolAt C H p F ∧ Fine F ∧ NumsAt H t ns ∧ SignOk sg ∧ Back C F H Q
theorem scAdded : FnScope ["self", "numbers", "sign", "found", "letter"] ["self", "numbers", "sign"] (C8.fnScope sAdded) := ⟨rfl, rfl, rfl, by decide +kernel, rfl, by decide +kernel, by decide +kernel⟩
theorem ok_added {f : Addr} {fd : FuncData} (me : Meth K C "added" f) (F : C8.Fun K "added" "Folder.added" sAdded f fd) (b : Binds K fd ["self", "numbers", "sign"] []) (T : Txt K mg C) (c_check_numbers : C8.Cal P w K mg base 4 "check_numbers" spCheckNumbers []) (c_is_sign : C8.Cal P w K mg base 1 "is_sign" spIsSign [])
    (c_among : C8.Cal P w K mg base 1 "among" (spAmong C) []) (c_resigned : C8.Cal P w K mg base 6 "resigned" (spResigned C) []) : C8.Met P w K mg base 7 C "added" (spSignDeed C) [] := by
  refine C8.met0 T.cl me F b scAdded (fun vs H Q E h => ?_) (fun cdv A outer s H vs Q E hr h => ?_)
  · obtain ⟨_, _, _, _, _, rfl, _⟩ := h
    rfl
  · obtain ⟨p, t, F, ns, sg, rfl, hF, fine, ⟨ht, hn⟩, ok, k⟩ := h
    refine ⟨_, (pss_cons (ps_expr (C8.pe_c c_check_numbers hr (by decide) (by rfl) (pa_cons (pv 1) pa_nil)))
        (pss_cons (ps_if (pt_not (pt_val (C8.pe_c c_is_sign hr (by decide) (by rfl) (pa_cons (pv 2) pa_nil)))) pss_never pss_nil)
        (pss_cons (ps_set (i := 3) scAdded.nd rfl (Or.inl rfl) (pv 0))
        (pss_cons (ps_for PassesOwn.never rfl (pi_list (C8.pe_c c_among hr (by decide) (by rfl) (pa_cons (pv 0) (pa_cons (pv 1) pa_nil)))) (pg_name (i := 4) scAdded.nd rfl (Or.inl rfl))
        (pss_one (ps_if (PW.pt (pw_or (pt_cmpR op_lt (pe_callB call_len_seq (by rfl) T.len (by decide +kernel) (pa_cons (pe_ix (ixT (K := K)) (pv 4) pe_int (fun _ _ => rfl)) pa_nil)) (C8.pe_gc (by rfl) T.mostS) (nomark _)) (pw_or1 (pt_cmpR op_in_seq (pv 2) (pe_ix (ixT (K := K)) (pv 4) pe_int (fun _ _ => rfl)) rfl)))) (pss_one (ps_set (i := 3) scAdded.nd rfl (Or.inl rfl) (C8.pe_c c_resigned hr (by decide) (by rfl) (pa_cons (pv 3) (pa_cons (pv 4) (pa_cons (pe_callTy call_tuple_of (by rfl) T.tuple (by decide +kernel) (pa_cons (pe_callB (K59S.cr_sortT rfl) (by rfl) T.sorted (by decide +kernel) (pa_cons (pe_callTy (K59S.cr_setT rfl) (by rfl) T.set (by decide +kernel) (pa_cons (pe_op op_catA (pe_ix (ixT (K := K)) (pv 4) pe_int (fun _ _ => rfl)) (pe_tup (pa_cons (pv 2) pa_nil))) pa_nil)) pa_nil)) pa_nil)) pa_nil)))))) pss_nil)))
        (pss_one (ps_ret (pv 3))))))), ?_⟩
    refine ⟨_, rfl, t, ns, rfl, ht, hn, fun H1 e1 => ?_⟩
    refine ⟨_, rfl, sg, rfl, ok, fun H2 e2 => ⟨_, rfl, iteF ?_⟩⟩
    have e12 := e1.trans e2
    refine ⟨_, rfl, ?_⟩
    refine ⟨_, rfl, _, rfl, p, t, F, ns, rfl, hF.mono e12, by have := fine.few; omega, e12 _ _ ht, hn.2, fun a xs H3 e3 ha hx => ?_⟩
    have e13 := e12.trans e3
    refine ⟨a, rfl, ⟨xs, .of ha⟩, for_it (walk_list (xs := xs)) (fun i σ H' => ∃ q G h v, σ = [some (.ref p), some (.ref t), some (.str sg), some (.ref q), v] ∧ Ex H3 H' ∧ FolAt C H' q G ∧ SLoop F ns i G h)
      ⟨p, F, id, none, rfl, Evl.Ex.refl H3, hF.mono e13, SLoop.start fine.inv⟩ (fun i σ H' _ ⟨_, _, _, _, _, e, _⟩ => .of (e _ _ ha)) ?_ ?_⟩
    · rintro i x σ H' H'' hi ⟨q, G, h, v, rfl, e, hG, S⟩ ⟨eH, hxi⟩
      subst eH
      obtain ⟨l, hl, hlt⟩ := hx.get hxi
      have hlF := sel_mem hl
      have oks := fine.inv.sgb l hlF
      have hlt := hlt.mono e
      obtain ⟨tx, gx, rfl, htx, hgx⟩ := id hlt
      refine ⟨_, rfl, tx, _, _, _, rfl, rfl, .of htx, at_of (j := 2) rfl rfl, gx, _, rfl, .inr (.of hgx), _, _, rfl, rfl, _, rfl, ?_⟩
      refine or_cut (d := decide (sg ∈ l.sg)) (fun Q q => ⟨_, rfl, _, rfl, tx, _, _, _, rfl, rfl, .of htx, at_of (j := 2) rfl rfl, gx, _, rfl, .inr (.of hgx), rfl, flat_str _, _, rfl, by show Q (inV _ _) _; rw [in_strs]; exact q⟩) ?_
      refine ite2 (fun c => ?_) (fun c => ?_)
      · have room : l.sg.length < 6 ∨ sg ∈ l.sg := by
          rw [Bool.or_eq_true, decide_eq_true_eq, decide_eq_true_eq, List.length_map] at c
          rcases c with c | c
          · exact .inl (by omega)
          · exact .inr c
        refine ⟨_, rfl, _, rfl, _, rfl, tx, _, _, _, rfl, rfl, .of htx, at_of (j := 2) rfl rfl, _, rfl, by show 1 ≤ sizeLine; decide, fun t1 nt1 => ?_⟩
        have e4 := Evl.Ex.new (o := .tup [.str sg]) nt1
        have six := oks.1
        refine cat_k (xs := l.sg.map V.str) (ys := [.str sg]) (e4 _ _ hgx) upd_same (by simp) (by rw [List.length_map]; show _ + 1 ≤ _; omega) fun r H5 e5 hr5 => ?_
        refine ⟨r, l.sg ++ [sg], rfl, .of (by rw [List.map_append]; exact hr5), by rw [List.length_append]; show _ + 1 ≤ _; omega, fun a6 ys na6 nd ly my => ?_⟩
        have ylen : ys.length ≤ 6 := by
          rcases room with c | c
          · rw [List.length_append] at ly
            have : ys.length ≤ l.sg.length + 1 := ly
            omega
          · refine Nat.le_trans (len_subS ys l.sg nd fun x hx => ?_) six
            rcases List.mem_append.mp (my x hx) with z | z
            · exact z
            · rw [List.mem_singleton.mp z]
              exact c
        have e6 := e5.trans (Evl.Ex.new (o := SetSO P w a6 ys) na6)
        refine ⟨a6, ys, rfl, upd_same, by omega, fun zs p7 lz mz np7 => ?_⟩
        have e7 := e6.trans (Evl.Ex.new (o := .lst (zs.map V.str)) np7)
        refine ⟨p7, _, rfl, .inl ⟨.of upd_same, fun t8 nt8 => ?_⟩⟩
        have e8 := e4.trans (e7.trans (Evl.Ex.new (o := .tup (zs.map V.str)) nt8))
        have okz : SgOk zs := ⟨by omega, fun z hz => by
          rcases List.mem_append.mp (my z (mz z hz)) with c | c
          · exact oks.2 z c
          · rw [List.mem_singleton.mp c]
            exact ok⟩
        refine ⟨q, t8, .ref tx, l, G, zs, rfl, hG.mono e8, by rw [S.sgd.age]; exact fine.inv.age, by rw [S.len]; have := fine.few; omega, hlt.mono e8, upd_same, oks.2, okz.2, fun q2 H9 e9 hq2 => ?_⟩
        obtain ⟨h', S'⟩ := S.turn fine.inv hl okz
        exact ⟨q2, _, h', _, rfl, (e.trans e8).trans e9, hq2, S'⟩
      · exact ⟨q, G, h, _, rfl, e, hG, S.skip⟩
    · rintro σ H' ⟨q, G, h, v, rfl, e, hG, S⟩
      exact ⟨_, rfl, k q G H' (e13.trans e) hG (S.step fine.inv)⟩
theorem scTaken : FnScope ["self", "numbers", "sign", "found", "letter", "one"] ["self", "numbers", "sign"] (C8.fnScope sTaken) := ⟨rfl, rfl, rfl, by decide +kernel, rfl, by decide +kernel, by decide +kernel⟩
theorem ok_taken {f : Addr} {fd : FuncData} (me : Meth K C "taken" f) (F : C8.Fun K "taken" "Folder.taken" sTaken f fd) (b : Binds K fd ["self", "numbers", "sign"] []) (T : Txt K mg C) (c_check_numbers : C8.Cal P w K mg base 4 "check_numbers" spCheckNumbers []) (c_is_sign : C8.Cal P w K mg base 1 "is_sign" spIsSign [])
    (c_among : C8.Cal P w K mg base 1 "among" (spAmong C) []) (c_resigned : C8.Cal P w K mg base 6 "resigned" (spResigned C) []) : C8.Met P w K mg base 7 C "taken" (spSignDeed C) [] := by
  refine C8.met0 T.cl me F b scTaken (fun vs H Q E h => ?_) (fun cdv A outer s H vs Q E hr h => ?_)
  · obtain ⟨_, _, _, _, _, rfl, _⟩ := h
    rfl
  · obtain ⟨p, t, F, ns, sg, rfl, hF, fine, ⟨ht, hn⟩, ok, k⟩ := h
    refine ⟨_, (pss_cons (ps_expr (C8.pe_c c_check_numbers hr (by decide) (by rfl) (pa_cons (pv 1) pa_nil)))
        (pss_cons (ps_if (pt_not (pt_val (C8.pe_c c_is_sign hr (by decide) (by rfl) (pa_cons (pv 2) pa_nil)))) pss_never pss_nil)
        (pss_cons (ps_set (i := 3) scTaken.nd rfl (Or.inl rfl) (pv 0))
        (pss_cons (ps_for PassesOwn.never rfl (pi_list (C8.pe_c c_among hr (by decide) (by rfl) (pa_cons (pv 0) (pa_cons (pv 1) pa_nil)))) (pg_name (i := 4) scTaken.nd rfl (Or.inl rfl))
        (pss_one (ps_set (i := 3) scTaken.nd rfl (Or.inl rfl) (C8.pe_c c_resigned hr (by decide) (by rfl) (pa_cons (pv 3) (pa_cons (pv 4) (pa_cons (pe_callTy call_tuple_of (by rfl) T.tuple (by decide +kernel) (pa_cons (pe_lc (own := [("one", 5)]) (g := gName 5) rfl scTaken.nd (pi_tup (pe_ix (ixT (K := K)) (pv 4) pe_int (fun _ _ => rfl))) (blkOk_by (N := ["self", "numbers", "sign", "found", "letter", "one"]) (sc := C8.fnScope sTaken) (by decide +kernel)) (fun _ _ _ _ _ => pg_name (i := 5) scTaken.nd rfl (Or.inl rfl)) (fun _ _ _ _ _ => (pts_one (pt_cmpR op_ne (pv 5) (pv 2) (nomark _)))) (fun _ _ _ _ _ => (pv 5))) pa_nil)) pa_nil)))))))
        (pss_one (ps_ret (pv 3))))))), ?_⟩
    refine ⟨_, rfl, t, ns, rfl, ht, hn, fun H1 e1 => ?_⟩
    refine ⟨_, rfl, sg, rfl, ok, fun H2 e2 => ⟨_, rfl, iteF ?_⟩⟩
    have e12 := e1.trans e2
    refine ⟨_, rfl, ?_⟩
    refine ⟨_, rfl, _, rfl, p, t, F, ns, rfl, hF.mono e12, by have := fine.few; omega, e12 _ _ ht, hn.2, fun a xs H3 e3 ha hx => ?_⟩
    have e13 := e12.trans e3
    refine ⟨a, rfl, ⟨xs, .of ha⟩, for_it (walk_list (xs := xs)) (fun i σ H' => ∃ q G h v, σ = [some (.ref p), some (.ref t), some (.str sg), some (.ref q), v, none] ∧ Ex H3 H' ∧ FolAt C H' q G ∧ SLoop F ns i G h)
      ⟨p, F, id, none, rfl, Evl.Ex.refl H3, hF.mono e13, SLoop.start fine.inv⟩ (fun i σ H' _ ⟨_, _, _, _, _, e, _⟩ => .of (e _ _ ha)) ?_ ?_⟩
    · rintro i x σ H' H'' hi ⟨q, G, h, v, rfl, e, hG, S⟩ ⟨eH, hxi⟩
      subst eH
      obtain ⟨l, hl, hlt⟩ := hx.get hxi
      have hlF := sel_mem hl
      have oks := fine.inv.sgb l hlF
      have six := oks.1
      have hlt := hlt.mono e
      obtain ⟨tx, gx, rfl, htx, hgx⟩ := id hlt
      refine ⟨_, rfl, _, rfl, _, rfl, tx, _, _, _, rfl, rfl, .of htx, at_of (j := 2) rfl rfl, gx, rfl, ⟨_, .of hgx⟩, fun D hD => ?_⟩
      refine lc_gen (tt := tTest (tOp rNe (tVar 5) (tVar 2))) walk_tup rfl (by rw [List.length_map]; omega) hD (fun H' e => .of (e _ _ hgx)) (fun x => !decide (x = V.str sg)) (fun x y _ => y = x) (fun _ _ _ _ _ _ _ e => e) (fun _ => rfl)
        (fun x hxm H4 e4 Q4 k4 => ?_) (fun x hxm _ H4 e4 Q4 k4 => ⟨x, rfl, k4 x H4 (Evl.Ex.refl H4) rfl⟩) fun ys H5 e5 hL pr => ?_
      · obtain ⟨z, _, rfl⟩ := List.mem_map.mp hxm
        exact ⟨_, rfl, _, rfl, rfl, _, rfl, k4 H4 (Evl.Ex.refl H4)⟩
      · have ey := paired_fn (f := fun x => x) pr
        rw [List.map_id', List.filter_map] at ey
        generalize hzs : l.sg.filter ((fun x => !decide (x = V.str sg)) ∘ V.str) = zs at ey
        have okz : SgOk zs := by
          rw [← hzs]
          exact ⟨Nat.le_trans (List.length_filter_le _ _) six, fun z hz => oks.2 z (List.mem_filter.mp hz).1⟩
        subst ey
        refine ⟨D, _, rfl, .inl ⟨.of hL, fun t8 nt8 => ?_⟩⟩
        have e8 := e5.trans (Evl.Ex.new (o := .tup (zs.map V.str)) nt8)
        refine ⟨q, t8, .ref tx, l, G, zs, rfl, hG.mono e8, by rw [S.sgd.age]; exact fine.inv.age, by rw [S.len]; have := fine.few; omega, hlt.mono e8, upd_same, oks.2, okz.2, fun q2 H9 e9 hq2 => ?_⟩
        obtain ⟨h', S'⟩ := S.turn fine.inv hl okz
        exact ⟨q2, _, h', _, rfl, (e.trans e8).trans e9, hq2, S'⟩
    · rintro σ H' ⟨q, G, h, v, rfl, e, hG, S⟩
      exact ⟨_, rfl, k q G H' (e13.trans e) hG (S.step fine.inv)⟩
end
end K59
/-! K59N: histories.py. -/
namespace K59
open PySem PySem.Spec PyProof.Rows L2 K59S
open Evl (Ex Ev EvT)
/-- the table of lengths at d -/
structure Lens (K : PySem.W.Frag) (w : World) (mg : Str → Option Value) (d : Addr) (es : Array DictEntry) (n : Nat) : Prop where
  mgD : mg "LENGTHS" = some (.ref d)
  kd : KDict K w d es n
  app : ∃ t, PySem.W.nsIn K d "append" = some (some (.int 3 t))
  add : ∃ t, PySem.W.nsIn K d "add" = some (some (.int 3 t))
  take : ∃ t, PySem.W.nsIn K d "take" = some (some (.int 3 t))
  set : ∃ t, PySem.W.nsIn K d "set" = some (some (.int 3 t))
  rem : ∃ t, PySem.W.nsIn K d "remove" = some (some (.int 2 t))
/-! ### deeds -/
theorem NumsAt.mono {H H' : Hp} {t : Addr} {ns : List Int} (e : Ex H H') (h : NumsAt H t ns) : NumsAt H' t ns := ⟨e _ _ h.1, h.2⟩
inductive DeedAt (H : Hp) : V → Prop where
  | app {a g : Addr} {bd : Int} {s : List Str} (h : H a = some (.tup [.str "append", .int bd, .ref g])) (b : 0 ≤ bd) (hg : H g = some (.tup (s.map V.str))) (ok : SigsOk s) : DeedAt H (.ref a)
  | add {a t : Addr} {ns : List Int} {z : Str} (h : H a = some (.tup [.str "add", .ref t, .str z])) (ht : NumsAt H t ns) (ok : SignOk z) : DeedAt H (.ref a)
  | take {a t : Addr} {ns : List Int} {z : Str} (h : H a = some (.tup [.str "take", .ref t, .str z])) (ht : NumsAt H t ns) (ok : SignOk z) : DeedAt H (.ref a)
  | set {a t g : Addr} {ns : List Int} {s : List Str} (h : H a = some (.tup [.str "set", .ref t, .ref g])) (ht : NumsAt H t ns) (hg : H g = some (.tup (s.map V.str))) (ok : SigsOk s) : DeedAt H (.ref a)
  | rem {a t : Addr} {ns : List Int} (h : H a = some (.tup [.str "remove", .ref t])) (ht : NumsAt H t ns) : DeedAt H (.ref a)
theorem DeedAt.mono {H H' : Hp} {v : V} (e : Ex H H') (h : DeedAt H v) : DeedAt H' v := by
  cases h with
  | app h b hg ok => exact .app (e _ _ h) b (e _ _ hg) ok
  | add h ht ok => exact .add (e _ _ h) (ht.mono e) ok
  | take h ht ok => exact .take (e _ _ h) (ht.mono e) ok
  | set h ht hg ok => exact .set (e _ _ h) (ht.mono e) (e _ _ hg) ok
  | rem h ht => exact .rem (e _ _ h) (ht.mono e)
def inD (ns : List Int) : PyData := .tuple (ns.map .int)
theorem lay_ints : ∀ ns : List Int, PyData.canLayAll0 (ns.map .int) = true
  | [] => by simp [PyData.canLayAll0]
  | n :: ns => by
    rw [List.map_cons]
    simp [PyData.canLayAll0, PyData.canLay0, lay_ints ns]
theorem depth_ints : ∀ ns : List Int, PyData.depthAll (ns.map .int) = 0
  | [] => by simp [PyData.depthAll]
  | n :: ns => by
    rw [List.map_cons]
    simp [PyData.depthAll, PyData.depth, depth_ints ns]
theorem dp_ints {K : PySem.W.Frag} {H : Hp} : ∀ ns : List Int, DpAll K H (ns.map V.int) (ns.map .int)
  | [] => .nil
  | n :: ns => .cons (.int n) (dp_ints ns)
theorem dp_in {K : PySem.W.Frag} {H : Hp} {a : Addr} {ns : List Int} (h : NumsAt H a ns) : Dp K H (.ref a) (inD ns) := .tup (.of h.1) (dp_ints ns)
theorem w_ok : PyData.strOk "append" = true ∧ PyData.strOk "add" = true ∧ PyData.strOk "take" = true ∧ PyData.strOk "set" = true ∧ PyData.strOk "remove" = true := by decide +kernel
theorem shaped_of {d : PyData} (h : d.canLay0 = true) (h2 : d.depth ≤ 64) : SeqAt.shaped d = true := Bool.and_eq_true_iff.mpr ⟨h, decide_eq_true h2⟩
/-- what has_form asks, of any deed -/
structure FormAt (K : PySem.W.Frag) (d : Addr) (H : Hp) (v : V) : Prop where
  ex : ∃ (a : Addr) (wd : Str) (rest : List V) (ds : List PyData) (u : Tok), v = .ref a ∧ H a = some (.tup (.str wd :: rest)) ∧ DpAll K H (.str wd :: rest) (.str wd :: ds) ∧ SeqAt.shaped (.tuple (.str wd :: ds)) = true ∧
    PySem.W.nsIn K d wd = some (some (.int ((rest.length : Int) + 1) u))
theorem DeedAt.form {K : PySem.W.Frag} {w : World} {mg : Str → Option Value} {d : Addr} {es : Array DictEntry} {n : Nat} (L : Lens K w mg d es n) {H : Hp} {v : V} (h : DeedAt H v) : FormAt K d H v := by
  obtain ⟨w1, w2, w3, w4, w5⟩ := w_ok
  cases h with
  | @app a g bd s h b hg ok =>
    obtain ⟨t, e⟩ := L.app
    refine ⟨a, _, _, [.int bd, txD s], t, rfl, h, .cons (.str _) (.cons (.int _) (.cons (dp_tx hg) .nil)), shaped_of ?_ ?_, e⟩
    · simp only [PyData.canLay0, PyData.canLayAll0, w1, txD, lay_all ok.each, Bool.and_self]
    · simp only [PyData.depth, PyData.depthAll, txD, depth_all]
      decide
  | @add a t ns z h ht ok =>
    obtain ⟨u, e⟩ := L.add
    refine ⟨a, _, _, [inD ns, .str z], u, rfl, h, .cons (.str _) (.cons (dp_in ht) (.cons (.str _) .nil)), shaped_of ?_ ?_, e⟩
    · simp only [PyData.canLay0, PyData.canLayAll0, w2, inD, lay_ints, sign_str ok, Bool.and_self]
    · simp only [PyData.depth, PyData.depthAll, inD, depth_ints]
      decide
  | @take a t ns z h ht ok =>
    obtain ⟨u, e⟩ := L.take
    refine ⟨a, _, _, [inD ns, .str z], u, rfl, h, .cons (.str _) (.cons (dp_in ht) (.cons (.str _) .nil)), shaped_of ?_ ?_, e⟩
    · simp only [PyData.canLay0, PyData.canLayAll0, w3, inD, lay_ints, sign_str ok, Bool.and_self]
    · simp only [PyData.depth, PyData.depthAll, inD, depth_ints]
      decide
  | @set a t g ns s h ht hg ok =>
    obtain ⟨u, e⟩ := L.set
    refine ⟨a, _, _, [inD ns, txD s], u, rfl, h, .cons (.str _) (.cons (dp_in ht) (.cons (dp_tx hg) .nil)), shaped_of ?_ ?_, e⟩
    · simp only [PyData.canLay0, PyData.canLayAll0, w4, inD, lay_ints, txD, lay_all ok.each, Bool.and_self]
    · simp only [PyData.depth, PyData.depthAll, inD, depth_ints, txD, depth_all]
      decide
  | @rem a t ns h ht =>
    obtain ⟨u, e⟩ := L.rem
    refine ⟨a, _, _, [inD ns], u, rfl, h, .cons (.str _) (.cons (dp_in ht) .nil), shaped_of ?_ ?_, e⟩
    · simp only [PyData.canLay0, PyData.canLayAll0, w5, inD, lay_ints, Bool.and_self]
    · simp only [PyData.depth, PyData.depthAll, inD, depth_ints]
      decide
theorem n_add : ¬ ("add" : Str) = "append" := by decide +kernel
theorem n_ta : ¬ ("take" : Str) = "append" := by decide +kernel
theorem n_td : ¬ ("take" : Str) = "add" := by decide +kernel
theorem n_sa : ¬ ("set" : Str) = "append" := by decide +kernel
theorem n_sd : ¬ ("set" : Str) = "add" := by decide +kernel
theorem n_st : ¬ ("set" : Str) = "take" := by decide +kernel
theorem n_ra : ¬ ("remove" : Str) = "append" := by decide +kernel
theorem n_rd : ¬ ("remove" : Str) = "add" := by decide +kernel
theorem n_rt : ¬ ("remove" : Str) = "take" := by decide +kernel
theorem n_rs : ¬ ("remove" : Str) = "set" := by decide +kernel
section
variable (y h u l w o : V)
theorem no_app : (ff y h u l w o).lookup ("appended" : Str) = none := ff_no _ _ _ _ _ _ (by decide +kernel) (by decide +kernel) (by decide +kernel) (by decide +kernel) (by decide +kernel) (by decide +kernel)
theorem no_add : (ff y h u l w o).lookup ("added" : Str) = none := ff_no _ _ _ _ _ _ (by decide +kernel) (by decide +kernel) (by decide +kernel) (by decide +kernel) (by decide +kernel) (by decide +kernel)
theorem no_take : (ff y h u l w o).lookup ("taken" : Str) = none := ff_no _ _ _ _ _ _ (by decide +kernel) (by decide +kernel) (by decide +kernel) (by decide +kernel) (by decide +kernel) (by decide +kernel)
theorem no_set : (ff y h u l w o).lookup ("set_to" : Str) = none := ff_no _ _ _ _ _ _ (by decide +kernel) (by decide +kernel) (by decide +kernel) (by decide +kernel) (by decide +kernel) (by decide +kernel)
theorem no_rem : (ff y h u l w o).lookup ("removed" : Str) = none := ff_no _ _ _ _ _ _ (by decide +kernel) (by decide +kernel) (by decide +kernel) (by decide +kernel) (by decide +kernel) (by decide +kernel)
theorem no_age : (ff y h u l w o).lookup ("age" : Str) = none := ff_no _ _ _ _ _ _ (by decide +kernel) (by decide +kernel) (by decide +kernel) (by decide +kernel) (by decide +kernel) (by decide +kernel)
theorem no_letters : (ff y h u l w o).lookup ("letters" : Str) = none := ff_no _ _ _ _ _ _ (by decide +kernel) (by decide +kernel) (by decide +kernel) (by decide +kernel) (by decide +kernel) (by decide +kernel)
theorem no_next : (ff y h u l w o).lookup ("next_number" : Str) = none := ff_no _ _ _ _ _ _ (by decide +kernel) (by decide +kernel) (by decide +kernel) (by decide +kernel) (by decide +kernel) (by decide +kernel)
theorem no_mark : (ff y h u l w o).lookup ("mark" : Str) = none := ff_no _ _ _ _ _ _ (by decide +kernel) (by decide +kernel) (by decide +kernel) (by decide +kernel) (by decide +kernel) (by decide +kernel)
end
section
variable {P : Program} {w : World} {K : PySem.W.Frag} {mg : Str → Option Value} {base : Heap} {C d : Addr} {es : Array DictEntry} {n : Nat}
def spDone (C : Addr) : Sp := fun vs H Q _ => ∃ (p : Addr) (v : V) (F : Fol), vs = [.ref p, v] ∧ FolAt C H p F ∧ Fine F ∧ DeedAt H v ∧ Back C F H Q
theorem scDone : FnScope ["folder", "deed"] ["folder", "deed"] (C8.fnScope sDone) := ⟨rfl, rfl, rfl, by decide +kernel, rfl, by decide +kernel, by decide +kernel⟩
theorem ok_done {f : Addr} {fd : FuncData} (F : C8.Def K mg "done" sDone f fd) (b : Binds K fd ["folder", "deed"] []) (T : Txt K mg C) (c_appended : C8.Met P w K mg base 7 C "appended" (spAppended C) []) (c_added : C8.Met P w K mg base 7 C "added" (spSignDeed C) [])
    (c_taken : C8.Met P w K mg base 7 C "taken" (spSignDeed C) []) (c_set_to : C8.Met P w K mg base 7 C "set_to" (spSetTo C) []) (c_removed : C8.Met P w K mg base 7 C "removed" (spRemoved C) []) : C8.Cal P w K mg base 8 "done" (spDone C) [] := by
  refine C8.cal0 F b .nil scDone (fun vs H Q E h => ?_) (fun cdv A outer s H vs Q E hr h => ?_)
  · obtain ⟨_, _, _, rfl, _⟩ := h
    rfl
  · obtain ⟨p, v, F, rfl, hF, fine, hd, k⟩ := h
    obtain ⟨dx, hh, wt, xs, ws, hp, _⟩ := id hF
    refine ⟨_, (pss_cons (ps_if (pt_cmpR op_eq (pe_ix (ixT (K := K)) (pv 1) pe_int (fun _ _ => rfl)) pe_str (nomark _)) (pss_one (ps_ret (C8.pe_mt c_appended hr (by decide) (pv 0) (pa_cons (pe_ix (ixT (K := K)) (pv 1) pe_int (fun _ _ => rfl)) (pa_cons (pe_ix (ixT (K := K)) (pv 1) pe_int (fun _ _ => rfl)) pa_nil))))) pss_nil)
        (pss_cons (ps_if (pt_cmpR op_eq (pe_ix (ixT (K := K)) (pv 1) pe_int (fun _ _ => rfl)) pe_str (nomark _)) (pss_one (ps_ret (C8.pe_mt c_added hr (by decide) (pv 0) (pa_cons (pe_ix (ixT (K := K)) (pv 1) pe_int (fun _ _ => rfl)) (pa_cons (pe_ix (ixT (K := K)) (pv 1) pe_int (fun _ _ => rfl)) pa_nil))))) pss_nil)
        (pss_cons (ps_if (pt_cmpR op_eq (pe_ix (ixT (K := K)) (pv 1) pe_int (fun _ _ => rfl)) pe_str (nomark _)) (pss_one (ps_ret (C8.pe_mt c_taken hr (by decide) (pv 0) (pa_cons (pe_ix (ixT (K := K)) (pv 1) pe_int (fun _ _ => rfl)) (pa_cons (pe_ix (ixT (K := K)) (pv 1) pe_int (fun _ _ => rfl)) pa_nil))))) pss_nil)
        (pss_cons (ps_if (pt_cmpR op_eq (pe_ix (ixT (K := K)) (pv 1) pe_int (fun _ _ => rfl)) pe_str (nomark _)) (pss_one (ps_ret (C8.pe_mt c_set_to hr (by decide) (pv 0) (pa_cons (pe_ix (ixT (K := K)) (pv 1) pe_int (fun _ _ => rfl)) (pa_cons (pe_ix (ixT (K := K)) (pv 1) pe_int (fun _ _ => rfl)) pa_nil))))) pss_nil)
        (pss_cons (ps_if (pt_cmpR op_eq (pe_ix (ixT (K := K)) (pv 1) pe_int (fun _ _ => rfl)) pe_str (nomark _)) (pss_one (ps_ret (C8.pe_mt c_removed hr (by decide) (pv 0) (pa_cons (pe_ix (ixT (K := K)) (pv 1) pe_int (fun _ _ => rfl)) pa_nil)))) pss_nil)
        (pss_one ps_never)))))), ?_⟩
    cases hd with
    | @app a g bd sg ha b0 hg ok =>
      refine ⟨_, rfl, a, _, _, _, rfl, rfl, .of ha, at_of (j := 0) rfl rfl, rfl, _, rfl, iteY rfl ?_⟩
      exact ⟨_, rfl, p, dx, _, rfl, hp, no_app _ _ _ _ _ _, _, rfl, a, _, _, _, rfl, rfl, .of ha, at_of (j := 1) rfl rfl, _, rfl, a, _, _, _, rfl, rfl, .of ha, at_of (j := 2) rfl rfl, p, g, F, bd, sg, rfl, hF, fine, b0, hg, ok, k⟩
    | @add a t ns z ha ht ok =>
      refine ⟨_, rfl, a, _, _, _, rfl, rfl, .of ha, at_of (j := 0) rfl rfl, rfl, _, rfl, iteN (fun e => n_add (V.str.inj e)) ?_⟩
      refine ⟨_, rfl, a, _, _, _, rfl, rfl, .of ha, at_of (j := 0) rfl rfl, rfl, _, rfl, iteY rfl ?_⟩
      exact ⟨_, rfl, p, dx, _, rfl, hp, no_add _ _ _ _ _ _, _, rfl, a, _, _, _, rfl, rfl, .of ha, at_of (j := 1) rfl rfl, _, rfl, a, _, _, _, rfl, rfl, .of ha, at_of (j := 2) rfl rfl, p, t, F, ns, z, rfl, hF, fine, ht, ok, k⟩
    | @take a t ns z ha ht ok =>
      refine ⟨_, rfl, a, _, _, _, rfl, rfl, .of ha, at_of (j := 0) rfl rfl, rfl, _, rfl, iteN (fun e => n_ta (V.str.inj e)) ?_⟩
      refine ⟨_, rfl, a, _, _, _, rfl, rfl, .of ha, at_of (j := 0) rfl rfl, rfl, _, rfl, iteN (fun e => n_td (V.str.inj e)) ?_⟩
      refine ⟨_, rfl, a, _, _, _, rfl, rfl, .of ha, at_of (j := 0) rfl rfl, rfl, _, rfl, iteY rfl ?_⟩
      exact ⟨_, rfl, p, dx, _, rfl, hp, no_take _ _ _ _ _ _, _, rfl, a, _, _, _, rfl, rfl, .of ha, at_of (j := 1) rfl rfl, _, rfl, a, _, _, _, rfl, rfl, .of ha, at_of (j := 2) rfl rfl, p, t, F, ns, z, rfl, hF, fine, ht, ok, k⟩
    | @set a t g ns sg ha ht hg ok =>
      refine ⟨_, rfl, a, _, _, _, rfl, rfl, .of ha, at_of (j := 0) rfl rfl, rfl, _, rfl, iteN (fun e => n_sa (V.str.inj e)) ?_⟩
      refine ⟨_, rfl, a, _, _, _, rfl, rfl, .of ha, at_of (j := 0) rfl rfl, rfl, _, rfl, iteN (fun e => n_sd (V.str.inj e)) ?_⟩
      refine ⟨_, rfl, a, _, _, _, rfl, rfl, .of ha, at_of (j := 0) rfl rfl, rfl, _, rfl, iteN (fun e => n_st (V.str.inj e)) ?_⟩
      refine ⟨_, rfl, a, _, _, _, rfl, rfl, .of ha, at_of (j := 0) rfl rfl, rfl, _, rfl, iteY rfl ?_⟩
      exact ⟨_, rfl, p, dx, _, rfl, hp, no_set _ _ _ _ _ _, _, rfl, a, _, _, _, rfl, rfl, .of ha, at_of (j := 1) rfl rfl, _, rfl, a, _, _, _, rfl, rfl, .of ha, at_of (j := 2) rfl rfl, p, t, g, F, ns, sg, rfl, hF, fine, ht, hg, ok, k⟩
    | @rem a t ns ha ht =>
      refine ⟨_, rfl, a, _, _, _, rfl, rfl, .of ha, at_of (j := 0) rfl rfl, rfl, _, rfl, iteN (fun e => n_ra (V.str.inj e)) ?_⟩
      refine ⟨_, rfl, a, _, _, _, rfl, rfl, .of ha, at_of (j := 0) rfl rfl, rfl, _, rfl, iteN (fun e => n_rd (V.str.inj e)) ?_⟩
      refine ⟨_, rfl, a, _, _, _, rfl, rfl, .of ha, at_of (j := 0) rfl rfl, rfl, _, rfl, iteN (fun e => n_rt (V.str.inj e)) ?_⟩
      refine ⟨_, rfl, a, _, _, _, rfl, rfl, .of ha, at_of (j := 0) rfl rfl, rfl, _, rfl, iteN (fun e => n_rs (V.str.inj e)) ?_⟩
      refine ⟨_, rfl, a, _, _, _, rfl, rfl, .of ha, at_of (j := 0) rfl rfl, rfl, _, rfl, iteY rfl ?_⟩
      exact ⟨_, rfl, p, dx, _, rfl, hp, no_rem _ _ _ _ _ _, _, rfl, a, _, _, _, rfl, rfl, .of ha, at_of (j := 1) rfl rfl, p, t, F, ns, rfl, hF, fine, ht, k⟩
def spHasForm : Sp := fun vs H Q _ => ∃ v, vs = [v] ∧ DeedAt H v ∧ ∀ H', Ex H H' → Q (.bl true) H'
theorem scHasForm : FnScope ["deed"] ["deed"] (C8.fnScope sHasForm) := ⟨rfl, rfl, rfl, by decide +kernel, rfl, by decide +kernel, by decide +kernel⟩
theorem ok_hasForm {f : Addr} {fd : FuncData} (F : C8.Def K mg "has_form" sHasForm f fd) (b : Binds K fd ["deed"] []) (T : Txt K mg C) (L : Lens K w mg d es n) : C8.Cal P w K mg base 1 "has_form" spHasForm [] := by
  refine C8.cal0 F b .nil scHasForm (fun vs H Q E h => ?_) (fun cdv A outer s H vs Q E hr h => ?_)
  · obtain ⟨_, rfl, _⟩ := h
    rfl
  · obtain ⟨v, rfl, hd, q⟩ := h
    refine ⟨_, (pss_cons (ps_if (PW.pt (pw_or (pt_not (pt_val (pe_callB call_isi (by rfl) T.isi (by decide +kernel) (pa_cons (pv 0) (pa_cons (pe_bltn (v := .ty "tuple") (by rfl) T.tuple (by decide +kernel) rfl) pa_nil))))) (pw_or (pt_cmpR (op_eqD hr.units) (pv 0) (pe_tup pa_nil) (nomark _)) (pw_or1 (pt_not (pt_val (pe_callB call_isi (by rfl) T.isi (by decide +kernel) (pa_cons (pe_ix (ixT (K := K)) (pv 0) pe_int (fun _ _ => rfl)) (pa_cons (pe_bltn (v := .ty "str") (by rfl) T.str (by decide +kernel) rfl) pa_nil))))))))) (pss_one (ps_ret pe_bl)) pss_nil)
        (pss_one (ps_ret (pe_and (pe_cmpR (op_in_kd L.kd) (pe_ix (ixT (K := K)) (pv 0) pe_int (fun _ _ => rfl)) (C8.pe_gc (v := .ref d) (by rfl) ⟨_, L.mgD, rfl⟩) rfl) (pe_one (pe_cmpR op_eq (pe_callB call_len_seq (by rfl) T.len (by decide +kernel) (pa_cons (pv 0) pa_nil)) (pe_ix ix_kdict (C8.pe_gc (v := .ref d) (by rfl) ⟨_, L.mgD, rfl⟩) (pe_ix (ixT (K := K)) (pv 0) pe_int (fun _ _ => rfl)) (fun _ _ => rfl)) (nomark _))))))), ?_⟩
    obtain ⟨a, wd, rest, ds, u, rfl, ha, dp, sh, e⟩ := (hd.form L).ex
    refine ⟨_, rfl, _, _, _, _, true, rfl, .ty _, .base (.tup ha), kit_ty (by decide +kernel), true, rfl, iteF ?_⟩
    refine ⟨_, rfl, Nat.zero_le _, fun p np => ?_⟩
    have e1 := Evl.Ex.new (o := .tup []) np
    obtain ⟨a', wd', rest', ds', u', ea, ha', dp', sh', e'⟩ := ((hd.mono e1).form L).ex
    have ea : a = a' := V.ref.inj ea
    subst ea
    refine ⟨.tuple (.str wd' :: ds'), .tuple [], .tup (.of ha') dp', .tup (.of upd_same) .nil, sh', shaped_of (by simp [PyData.canLay0, PyData.canLayAll0]) (by simp [PyData.depth, PyData.depthAll]), _, rfl, ?_⟩
    have z : PyData.eqv (.tuple (.str wd' :: ds')) (.tuple []) = false := by simp [PyData.eqv, PyData.eqvAll]
    rw [z]
    refine iteF ?_
    refine ⟨_, rfl, a, _, _, _, rfl, rfl, .of ha', at_of (j := 0) rfl rfl, _, _, _, _, true, rfl, .ty _, .base (.str wd'), kit_ty (by decide +kernel), true, rfl, iteF ?_⟩
    refine ⟨_, rfl, a, _, _, _, rfl, rfl, .of ha', at_of (j := 0) rfl rfl, wd', _, rfl, rfl, e', true, rfl, iteT ?_⟩
    refine ⟨_, rfl, a, _, rfl, .inr (.of ha'), _, rfl, a, _, _, _, rfl, rfl, .of ha', at_of (j := 0) rfl rfl, d, wd', .int ((rest'.length : Int) + 1), rfl, rfl, ⟨es, n, _, L.kd.at_, L.kd.lit, e', ⟨u', rfl⟩⟩, rfl, ?_⟩
    have z2 : decide (V.int ((V.str wd' :: rest').length : Nat) = V.int ((rest'.length : Int) + 1)) = true := decide_eq_true (by rw [List.length_cons]; rfl)
    rw [z2]
    exact q _ e1
def spPlayed (C : Addr) : Sp := fun vs H Q _ => ∃ (p hL : Addr) (v : V) (F : Fol), vs = [.ref p, .ref hL] ∧ FolAt C H p F ∧ Fine F ∧ H hL = some (.lst [v]) ∧ DeedAt H v ∧ Back C F H Q
theorem scPlayed : FnScope ["folder", "history", "at", "deed"] ["folder", "history"] (C8.fnScope sPlayed) := ⟨rfl, rfl, rfl, by decide +kernel, rfl, by decide +kernel, by decide +kernel⟩
theorem kit_ll : PySem.W.kitAny K (.type "list") [.type "list", .type "tuple"] = some true :=
  kitAny_cons (b := true) (kit_ty (by decide +kernel)) (fun z => nomatch z) fun _ => rfl
theorem ok_played {f : Addr} {fd : FuncData} (F : C8.Def K mg "played" sPlayed f fd) (b : Binds K fd ["folder", "history"] []) (T : Txt K mg C) (c_check_folder : C8.Cal P w K mg base 1 "check_folder" (spCheckFolder C) []) (c_has_form : C8.Cal P w K mg base 1 "has_form" spHasForm [])
    (c_done : C8.Cal P w K mg base 8 "done" (spDone C) []) : C8.Cal P w K mg base 9 "played" (spPlayed C) [] := by
  refine C8.cal0 F b .nil scPlayed (fun vs H Q E h => ?_) (fun cdv A outer s H vs Q E hr h => ?_)
  · obtain ⟨_, _, _, _, rfl, _⟩ := h
    rfl
  · obtain ⟨p, hL, v, F, rfl, hF, fine, hl, hd, k⟩ := h
    obtain ⟨dx, hh, wt, xs, ws, hp, _⟩ := id hF
    refine ⟨_, (pss_cons (ps_expr (C8.pe_c c_check_folder hr (by decide) (by rfl) (pa_cons (pv 0) pa_nil)))
        (pss_cons (ps_if (pt_not (pt_val (pe_callB call_isiT (by rfl) T.isi (by decide +kernel) (pa_cons (pv 1) (pa_cons (pe_tup (pa_cons (pe_bltn (v := .ty "list") (by rfl) T.list (by decide +kernel) rfl) (pa_cons (pe_bltn (v := .ty "tuple") (by rfl) T.tuple (by decide +kernel) rfl) pa_nil))) pa_nil))))) pss_never pss_nil)
        (pss_cons (ps_for PassesOwn.never rfl (pi_enum (by rfl) T.enum (pa_cons (pv 1) pa_nil)) (pg_tup (by rfl) (pgs_cons (pg_name (i := 2) scPlayed.nd rfl (Or.inl rfl)) (pgs_cons (pg_name (i := 3) scPlayed.nd rfl (Or.inl rfl)) pgs_nil)))
        (pss_cons (ps_if (pt_not (pt_val (C8.pe_c c_has_form hr (by decide) (by rfl) (pa_cons (pv 3) pa_nil)))) pss_never pss_nil)
        (pss_one (ps_try_thru0 (pss_one (ps_set (i := 0) scPlayed.nd rfl (Or.inl rfl) (C8.pe_c c_done hr (by decide) (by rfl) (pa_cons (pv 0) (pa_cons (pv 3) pa_nil)))))))))
        (pss_one (ps_ret (pv 0)))))), ?_⟩
    refine ⟨_, rfl, p, dx, _, rfl, hp, fun H1 e1 => ?_⟩
    refine ⟨_, rfl, by show 2 ≤ sizeLine; decide, fun t nt => ?_⟩
    have e2 := e1.trans (Evl.Ex.new (o := .tup [.ty "list", .ty "tuple"]) nt)
    refine ⟨_, t, _, _, _, true, rfl, upd_same, .cons (.ty _) (.cons (.ty _) .nil), .base (.lst (e2 _ _ hl)), kit_ll, true, rfl, iteF ?_⟩
    refine ⟨_, rfl, hL, _, rfl, .of (e2 _ _ hl), for_it (walk_enum (xs := [v])) (fun i σ H' => Ex H H' ∧ ((i = 0 ∧ σ = [some (.ref p), some (.ref hL), none, none]) ∨ (i = 1 ∧ ∃ q G a b, σ = [some (.ref q), some (.ref hL), a, b] ∧ FolAt C H' q G ∧ Step F G)))
      ⟨e2, .inl ⟨rfl, rfl⟩⟩ (fun i σ H' _ ⟨e, _⟩ => .of (e _ _ hl)) ?_ ?_⟩
    · rintro i x σ H' H'' hi ⟨e, h⟩ ⟨T2, x1, y1, rfl, nT, rfl, hx1, hy1⟩
      rcases h with ⟨rfl, rfl⟩ | ⟨rfl, _⟩
      · have hy : v = y1 := Option.some.inj hy1
        subst hy
        have e3 := e.trans (Evl.Ex.new (o := .tup [x1, v]) nT)
        refine ⟨T2, _, rfl, .of upd_same, rfl, _, _, rfl, _, _, rfl, rfl, ?_⟩
        refine ⟨_, rfl, v, rfl, hd.mono e3, fun H4 e4 => ⟨_, rfl, iteF ?_⟩⟩
        have e34 := e3.trans e4
        refine ⟨_, rfl, _, rfl, p, v, F, rfl, hF.mono e34, fine, hd.mono e34, fun q G H5 e5 hG st => ?_⟩
        exact ⟨e34.trans e5, .inr ⟨rfl, q, G, _, _, rfl, hG, st⟩⟩
      · exact absurd hi (Nat.lt_irrefl 1)
    · rintro σ H' ⟨e, h⟩
      rcases h with ⟨z, _⟩ | ⟨_, q, G, a, b, rfl, hG, st⟩
      · exact absurd z (Nat.succ_ne_zero 0)
      · exact ⟨_, rfl, k q G H' e hG st⟩
end
end K59
/-! K59O: the law's draws. -/
namespace K59
open PySem PySem.Spec PyProof.Rows L2 K59S
open Evl (Ex Ev EvT)
/-- a source of draws at p that has drawn n times -/
def WellAt (H : Hp) (p : Addr) (n : Int) : Prop := ∃ w0 c : Int, H p = some (.lst [.int w0, .int c, .int n]) ∧ 0 ≤ w0 ∧ 0 ≤ n
theorem WellAt.lst {H : Hp} {p : Addr} {n : Int} (h : WellAt H p n) : ∃ xs, H p = some (.lst xs) := by
  obtain ⟨_, _, h, _⟩ := h
  exact ⟨_, h⟩
theorem WellAt.mono {H H' : Hp} {p : Addr} {n : Int} (e : Ex H H') (h : WellAt H p n) : WellAt H' p n := by
  obtain ⟨a, b, h, c⟩ := h
  exact ⟨a, b, e _ _ h, c⟩
section
variable {P : Program} {w : World} {K : PySem.W.Frag} {mg : Str → Option Value} {base : Heap} {C d : Addr} {es : Array DictEntry} {n : Nat}
def spCellAt (K : PySem.W.Frag) : Sp := fun vs H Q _ => ∃ (a : Addr) (ns : List Int), vs = [.ref a, .int 0] ∧ SqL K H a (ns.map V.int) ∧ ∀ z H', Ex H H' → Q (.int z) H'
theorem scCellAt : FnScope ["_law_script", "_law_k"] ["_law_script", "_law_k"] (C8.fnScope sCellAt) := ⟨rfl, rfl, rfl, by decide +kernel, rfl, by decide +kernel, by decide +kernel⟩
theorem ok_cellAt {f : Addr} {fd : FuncData} (F : C8.Def K mg "_law_cell_at" sCellAt f fd) (b : Binds K fd ["_law_script", "_law_k"] []) (T : Txt K mg C) : C8.Cal P w K mg base 1 "_law_cell_at" (spCellAt K) [] := by
  refine C8.cal0 F b .nil scCellAt (fun vs H Q E h => ?_) (fun cdv A outer s H vs Q E hr h => ?_)
  · obtain ⟨_, _, rfl, _⟩ := h
    rfl
  · obtain ⟨a, ns, rfl, ha, q⟩ := h
    refine ⟨_, (pss_cons (ps_if (pt_cmpR op_lt (pv 1) (pe_callB call_len_seq (by rfl) T.len (by decide +kernel) (pa_cons (pv 0) pa_nil)) (nomark _)) (pss_one (ps_ret (pe_ix ix_list (pv 0) (pv 1) (fun _ _ => rfl)))) pss_nil)
        (pss_one (ps_ret pe_int))), ?_⟩
    refine ⟨_, rfl, _, rfl, a, _, rfl, .inl ha, _, _, rfl, rfl, _, rfl, ite2 (fun c => ?_) (fun c => q 0 H (Evl.Ex.refl H))⟩
    cases ns with
    | nil => exact absurd c (by decide)
    | cons z r => exact ⟨_, rfl, _, rfl, a, _, _, _, rfl, rfl, ha, at_of (j := 0) rfl rfl, q z H (Evl.Ex.refl H)⟩
def spWell : Sp := fun vs H Q _ => ∃ c : Int, vs = [.int c] ∧ ∀ p H', Ex H H' → H p = none → WellAt H' p 0 → Q (.ref p) H'
theorem scWell : FnScope ["_law_cell"] ["_law_cell"] (C8.fnScope sWell) := ⟨rfl, rfl, rfl, by decide +kernel, rfl, by decide +kernel, by decide +kernel⟩
theorem ok_well {f : Addr} {fd : FuncData} (F : C8.Def K mg "_law_well" sWell f fd) (b : Binds K fd ["_law_cell"] []) (T : Txt K mg C) : C8.Cal P w K mg base 1 "_law_well" spWell [] := by
  refine C8.cal0 F b .nil scWell (fun vs H Q E h => ?_) (fun cdv A outer s H vs Q E hr h => ?_)
  · obtain ⟨_, rfl, _⟩ := h
    rfl
  · obtain ⟨c, rfl, q⟩ := h
    refine ⟨_, (pss_one (ps_ret (pe_lst (pa_cons (pe_ix ix_list (pe_lst (pa_cons pe_int (pa_cons (pv 0) pa_nil))) (pe_callTy call_int1 (by rfl) T.int (by decide +kernel) (pa_cons (pe_cmpR op_ge (pv 0) (pe_op op_pow pe_int pe_int) (nomark _)) pa_nil)) (fun _ _ => rfl)) (pa_cons (pv 0) (pa_cons pe_int pa_nil)))))), ?_⟩
    refine ⟨_, rfl, by show 2 ≤ sizeLine; decide, fun t nt => ?_⟩
    have e1 := Evl.Ex.new (o := .lst [.int 0, .int c]) nt
    refine ⟨_, rfl, _, _, rfl, rfl, ⟨by decide, by decide, by decide⟩, _, _, rfl, rfl, .inr ⟨_, rfl, ?_⟩⟩
    by_cases h : (10 : Int) ^ (18 : Int).toNat ≤ c
    · rw [decide_eq_true h]
      refine ⟨t, _, _, _, rfl, rfl, .of upd_same, at_of (j := 1) rfl rfl, _, rfl, by show 3 ≤ sizeLine; decide, fun p np => ?_⟩
      have h : (1000000000000000000 : Int) ≤ c := h
      exact q p _ (e1.trans (Evl.Ex.new np)) (free e1 np) ⟨c, c, upd_same, by omega, Int.le_refl _⟩
    · rw [decide_eq_false h]
      refine ⟨t, _, _, _, rfl, rfl, .of upd_same, at_of (j := 0) rfl rfl, _, rfl, by show 3 ≤ sizeLine; decide, fun p np => ?_⟩
      exact q p _ (e1.trans (Evl.Ex.new np)) (free e1 np) ⟨0, c, upd_same, Int.le_refl _, Int.le_refl _⟩
def spDraw : Sp := fun vs H Q _ => ∃ (p : Addr) (m n : Int), vs = [.ref p, .int m] ∧ WellAt H p n ∧ 1 ≤ m ∧ m ≤ 1000 ∧ n ≤ 100000 ∧
  ∀ k n' H', Exb p H H' → WellAt H' p n' → n' ≤ n + 1 → 0 ≤ k → k < m → Q (.int k) H'
theorem scDraw : FnScope ["_law_well_here", "_law_many", "_law_found", "_law_salt", "_law_base", "_law_number"] ["_law_well_here", "_law_many"] (C8.fnScope sDraw) := ⟨rfl, rfl, rfl, by decide +kernel, rfl, by decide +kernel, by decide +kernel⟩
theorem ok_draw {f : Addr} {fd : FuncData} (F : C8.Def K mg "_law_draw" sDraw f fd) (b : Binds K fd ["_law_well_here", "_law_many"] []) (T : Txt K mg C) : C8.Cal P w K mg base 1 "_law_draw" spDraw [] := by
  refine C8.cal0 F b .nil scDraw (fun vs H Q E h => ?_) (fun cdv A outer s H vs Q E hr h => ?_)
  · obtain ⟨_, _, _, rfl, _⟩ := h
    rfl
  · obtain ⟨p, m, n, rfl, ⟨w0, c, hp, w00, n0⟩, m1, m2, n1, q⟩ := h
    refine ⟨_, (pss_cons (ps_if (pt_cmpR op_gt (pe_ix ix_list (pv 0) pe_int (fun _ _ => rfl)) pe_int (nomark _)) (pss_cons (ps_set (i := 2) scDraw.nd rfl (Or.inl rfl) (pe_op op_mod (pe_callTy call_int1 (by rfl) T.int (by decide +kernel) (pa_cons (pe_ix ix_list (pv 0) pe_int (fun _ _ => rfl)) pa_nil)) (pv 1)))
        (pss_cons (ps_asg (pe_op op_fdivW (pe_ix ix_list (pv 0) pe_int (fun _ _ => rfl)) (pv 1)) (pg_sub (pv 0) pe_int set_list))
        (pss_one (ps_ret (pv 2))))) pss_nil)
        (pss_cons (ps_asg (pe_op op_add (pe_ix ix_list (pv 0) pe_int (fun _ _ => rfl)) pe_int) (pg_sub (pv 0) pe_int set_list))
        (pss_cons (ps_set (i := 3) scDraw.nd rfl (Or.inl rfl) (pe_op op_mod (pe_callTy call_int1 (by rfl) T.int (by decide +kernel) (pa_cons (pe_op op_fdivW (pe_ix ix_list (pv 0) pe_int (fun _ _ => rfl)) pe_int) pa_nil)) pe_int))
        (pss_cons (ps_set (i := 4) scDraw.nd rfl (Or.inl rfl) (pe_op op_add (pe_op op_add (pe_op op_add (pe_op op_mod (pe_callTy call_int1 (by rfl) T.int (by decide +kernel) (pa_cons (pe_ix ix_list (pv 0) pe_int (fun _ _ => rfl)) pa_nil)) pe_int) (pe_op op_mul pe_int (pe_ix ix_list (pv 0) pe_int (fun _ _ => rfl)))) (pv 3)) pe_int))
        (pss_cons (ps_set (i := 5) scDraw.nd rfl (Or.inl rfl) (pe_op op_mod (pe_callTy call_int1 (by rfl) T.int (by decide +kernel) (pa_cons (pe_op op_pow (pv 4) pe_int) pa_nil)) pe_int))
        (pss_cons (ps_set (i := 5) scDraw.nd rfl (Or.inl rfl) (pe_op op_mod (pe_callTy call_int1 (by rfl) T.int (by decide +kernel) (pa_cons (pe_op op_mul (pv 5) (pe_op op_add (pe_op op_add (pe_op op_fdivW (pv 5) pe_int) pe_int) (pe_ix ix_list (pv 0) pe_int (fun _ _ => rfl)))) pa_nil)) pe_int))
        (pss_one (ps_ret (pe_op op_mod (pe_callTy call_int1 (by rfl) T.int (by decide +kernel) (pa_cons (pe_op op_mod (pe_callTy call_int1 (by rfl) T.int (by decide +kernel) (pa_cons (pe_op op_mul (pv 5) (pe_op op_add (pe_op op_fdivW (pv 5) pe_int) pe_int)) pa_nil)) pe_int) pa_nil)) (pv 1)))))))))), ?_⟩
    refine ⟨_, rfl, p, _, _, _, rfl, rfl, .of hp, at_of (j := 0) rfl rfl, _, _, rfl, rfl, _, rfl, ite2 (fun h => ?_) (fun h => ?_)⟩
    · refine ⟨_, rfl, p, _, _, _, rfl, rfl, .of hp, at_of (j := 0) rfl rfl, .inl ⟨_, rfl, _, rfl, _, _, rfl, rfl, (by show 0 < m; omega), ?_⟩⟩
      refine ⟨_, rfl, p, _, _, _, rfl, rfl, .of hp, at_of (j := 0) rfl rfl, _, rfl, _, _, rfl, rfl, wide_div (b := 64) (by omega) (by omega) (by decide) (by decide), _, rfl, p, _, _, 0, rfl, rfl, hp, rfl, ?_⟩
      refine ⟨_, rfl, q _ n _ (Exb.put (Exb.refl p H)) ⟨w0 / m, c, upd_same, Int.ediv_nonneg w00 (by omega), n0⟩ (by omega) (Int.emod_nonneg _ (by omega)) (Int.emod_lt_of_pos _ (by omega))⟩
    · refine ⟨_, rfl, p, _, _, _, rfl, rfl, .of hp, at_of (j := 2) rfl rfl, _, _, rfl, rfl, _, rfl, p, _, _, 2, rfl, rfl, hp, rfl, ?_⟩
      have hp2 : (upd H p (.lst [.int w0, .int c, .int (n + 1)])) p = some (.lst [.int w0, .int c, .int (n + 1)]) := upd_same
      have b2 : Exb p H (upd H p (.lst [.int w0, .int c, .int (n + 1)])) := Exb.put (Exb.refl p H)
      have w2 : WellAt (upd H p (.lst [.int w0, .int c, .int (n + 1)])) p (n + 1) := ⟨w0, c, hp2, w00, by omega⟩
      -- salt
      refine ⟨_, rfl, p, _, _, _, rfl, rfl, .of hp2, at_of (j := 1) rfl rfl, _, _, rfl, rfl, wide_div (b := 64) (by decide) (by decide) (by decide) (by decide), .inl ⟨_, rfl, _, _, rfl, rfl, (by show (0 : Int) < 65521; decide), ?_⟩⟩
      have s1 := Int.emod_nonneg (c / 2147483629) (show (65521 : Int) ≠ 0 by decide)
      have s2 := Int.emod_lt_of_pos (c / 2147483629) (show (0 : Int) < 65521 by decide)
      generalize c / 2147483629 % 65521 = salt at s1 s2
      -- base
      refine ⟨_, rfl, p, _, _, _, rfl, rfl, .of hp2, at_of (j := 1) rfl rfl, .inl ⟨_, rfl, _, _, rfl, rfl, (by show (0 : Int) < 2147483629; decide), ?_⟩⟩
      have t1 := Int.emod_nonneg c (show (2147483629 : Int) ≠ 0 by decide)
      have t2 := Int.emod_lt_of_pos c (show (0 : Int) < 2147483629 by decide)
      generalize c % 2147483629 = low at t1 t2
      refine ⟨_, rfl, p, _, _, _, rfl, rfl, .of hp2, at_of (j := 2) rfl rfl, _, _, rfl, rfl, .inl ⟨by decide, by decide⟩, _, _, rfl, rfl, _, rfl, _, _, rfl, rfl, _, _, rfl, rfl, ?_⟩
      -- number
      refine ⟨_, rfl, _, _, rfl, rfl, ⟨by decide, by decide, by omega⟩, .inl ⟨_, rfl, _, _, rfl, rfl, (by show (0 : Int) < 2147483647; decide), ?_⟩⟩
      generalize hb : (low + 7919 * (n + 1) + salt + 1) ^ (5 : Int).toNat = big
      have u1 := Int.emod_nonneg big (show (2147483647 : Int) ≠ 0 by decide)
      have u2 := Int.emod_lt_of_pos big (show (0 : Int) < 2147483647 by decide)
      generalize big % 2147483647 = num at u1 u2
      refine ⟨_, rfl, _, rfl, _, _, rfl, rfl, wide_div (b := 64) (by decide) (by decide) (by decide) (by decide), _, _, rfl, rfl, _, rfl, p, _, _, _, rfl, rfl, .of hp2, at_of (j := 2) rfl rfl, _, _, rfl, rfl, _, _, rfl, rfl, .inl ⟨by omega, by omega⟩, .inl ⟨_, rfl, _, _, rfl, rfl, (by show (0 : Int) < 2147483629; decide), ?_⟩⟩
      generalize num * (num / 1009 + 69621 + (n + 1)) = big2
      have v1 := Int.emod_nonneg big2 (show (2147483629 : Int) ≠ 0 by decide)
      have v2 := Int.emod_lt_of_pos big2 (show (0 : Int) < 2147483629 by decide)
      generalize big2 % 2147483629 = num2 at v1 v2
      refine ⟨_, rfl, _, rfl, _, _, rfl, rfl, wide_div (b := 64) (by decide) (by decide) (by decide) (by decide), _, _, rfl, rfl, _, _, rfl, rfl, .inl ⟨by omega, by omega⟩, .inl ⟨_, rfl, _, _, rfl, rfl, (by show (0 : Int) < 2147483399; decide), .inl ⟨_, rfl, _, rfl, _, _, rfl, rfl, (by show 0 < m; omega), ?_⟩⟩⟩
      exact q _ (n + 1) _ b2 w2 (Int.le_refl _) (Int.emod_nonneg _ (by omega)) (Int.emod_lt_of_pos _ (by omega))
def spOne : Sp := fun vs H Q _ => ∃ (p l : Addr) (n : Int) (xs : List V), vs = [.ref p, .ref l] ∧ WellAt H p n ∧ n ≤ 100000 ∧ H l = some (.lst xs) ∧ l ≠ p ∧ 1 ≤ xs.length ∧ xs.length ≤ 1000 ∧
  ∀ x n' H', Exb p H H' → WellAt H' p n' → n' ≤ n + 1 → x ∈ xs → Q x H'
theorem scOne : FnScope ["_law_well_here", "_law_some"] ["_law_well_here", "_law_some"] (C8.fnScope sOne) := ⟨rfl, rfl, rfl, by decide +kernel, rfl, by decide +kernel, by decide +kernel⟩
theorem ok_one {f : Addr} {fd : FuncData} (F : C8.Def K mg "_law_one" sOne f fd) (b : Binds K fd ["_law_well_here", "_law_some"] []) (T : Txt K mg C) (c_law_draw : C8.Cal P w K mg base 1 "_law_draw" spDraw []) : C8.Cal P w K mg base 2 "_law_one" spOne [] := by
  refine C8.cal0 F b .nil scOne (fun vs H Q E h => ?_) (fun cdv A outer s H vs Q E hr h => ?_)
  · obtain ⟨_, _, _, _, rfl, _⟩ := h
    rfl
  · obtain ⟨p, l, n, xs, rfl, hw, n1, hl, ne, x1, x2, q⟩ := h
    refine ⟨_, (pss_one (ps_ret (pe_ix ix_list (pv 1) (C8.pe_c c_law_draw hr (by decide) (by rfl) (pa_cons (pv 0) (pa_cons (pe_callB call_len_seq (by rfl) T.len (by decide +kernel) (pa_cons (pv 1) pa_nil)) pa_nil))) (fun _ _ => rfl)))), ?_⟩
    refine ⟨_, rfl, _, rfl, _, rfl, l, _, rfl, .inl (.of hl), p, _, n, rfl, hw, by omega, by omega, n1, fun k n' H1 b1 w1 n2 k0 k1 => ?_⟩
    obtain ⟨j, rfl⟩ : ∃ j : Nat, k = (j : Int) := ⟨k.toNat, by omega⟩
    have hj : j < xs.length := by omega
    exact ⟨l, _, _, _, rfl, rfl, .of (b1 _ _ ne hl), atI_nat (List.getElem?_eq_getElem hj), q _ n' H1 b1 w1 n2 (List.getElem_mem hj)⟩
theorem ok_a : SignOk "a" := by
  unfold SignOk
  decide +kernel
theorem ok_b : SignOk "b" := by
  unfold SignOk
  decide +kernel
theorem ok_seen : SignOk "seen" := by
  unfold SignOk
  decide +kernel
theorem sigs0 : SigsOk [] := ⟨by decide, (fun z h => by cases h), (fun k x y h => by simp at h)⟩
theorem sigs1 {z : Str} (h : SignOk z) : SigsOk [z] := ⟨by show 1 ≤ 6; decide, fun y hy => by rw [List.mem_singleton.mp hy]; exact h, fun k x y _ h2 => by simp at h2⟩
theorem sigs2 : SigsOk ["a", "b"] := ⟨by decide, fun y hy => by
  rcases List.mem_cons.mp hy with e | e
  · rw [e]
    exact ok_a
  · rw [List.mem_singleton.mp e]
    exact ok_b, fun k x y h1 h2 => by
  cases k with
  | zero =>
    have e1 : ("a" : Str) = x := Option.some.inj h1
    have e2 : ("b" : Str) = y := Option.some.inj h2
    rw [← e1, ← e2]
    decide +kernel
  | succ k => simp at h2⟩
def spSigns : Sp := fun vs H Q _ => ∃ (p : Addr) (n : Int), vs = [.ref p] ∧ WellAt H p n ∧ n ≤ 100000 ∧
  ∀ g s n' H', Exb p H H' → WellAt H' p n' → n' ≤ n + 1 → H' g = some (.tup (s.map V.str)) → SigsOk s → Q (.ref g) H'
theorem scSigns : FnScope ["_law_well_here"] ["_law_well_here"] (C8.fnScope sSigns) := ⟨rfl, rfl, rfl, by decide +kernel, rfl, by decide +kernel, by decide +kernel⟩
theorem ok_signs {f : Addr} {fd : FuncData} (F : C8.Def K mg "_law_signs" sSigns f fd) (b : Binds K fd ["_law_well_here"] []) (T : Txt K mg C) (c_law_one : C8.Cal P w K mg base 2 "_law_one" spOne []) : C8.Cal P w K mg base 3 "_law_signs" spSigns [] := by
  refine C8.cal0 F b .nil scSigns (fun vs H Q E h => ?_) (fun cdv A outer s H vs Q E hr h => ?_)
  · obtain ⟨_, _, rfl, _⟩ := h
    rfl
  · obtain ⟨p, n, rfl, hw, n1, q⟩ := h
    refine ⟨_, (pss_one (ps_ret (C8.pe_c c_law_one hr (by decide) (by rfl) (pa_cons (pv 0) (pa_cons (pe_lst (pa_cons (pe_tup pa_nil) (pa_cons (pe_tup (pa_cons pe_str pa_nil)) (pa_cons (pe_tup (pa_cons pe_str pa_nil)) (pa_cons (pe_tup (pa_cons pe_str (pa_cons pe_str pa_nil))) (pa_cons (pe_tup (pa_cons pe_str pa_nil)) pa_nil)))))) pa_nil))))), ?_⟩
    refine ⟨_, rfl, Nat.zero_le _, fun t1 f1 => ⟨by show 1 ≤ sizeLine; decide, fun t2 f2 => ⟨by show 1 ≤ sizeLine; decide, fun t3 f3 => ⟨by show 2 ≤ sizeLine; decide, fun t4 f4 => ⟨by show 1 ≤ sizeLine; decide, fun t5 f5 => ⟨by show 5 ≤ sizeLine; decide, fun l f6 => ?_⟩⟩⟩⟩⟩⟩
    have e1 := Evl.Ex.new (o := .tup []) f1
    have e2 := Evl.Ex.new (o := .tup [.str "a"]) f2
    have e3 := Evl.Ex.new (o := .tup [.str "b"]) f3
    have e4 := Evl.Ex.new (o := .tup [.str "a", .str "b"]) f4
    have e5 := Evl.Ex.new (o := .tup [.str "seen"]) f5
    have e6 := Evl.Ex.new (o := .lst [.ref t1, .ref t2, .ref t3, .ref t4, .ref t5]) f6
    have e16 := e1.trans (e2.trans (e3.trans (e4.trans (e5.trans e6))))
    have hw6 := hw.mono e16
    obtain ⟨xs, hx⟩ := hw6.lst
    have ne : l ≠ p := by
      obtain ⟨ys, hy⟩ := (hw.mono (e1.trans (e2.trans (e3.trans (e4.trans e5))))).lst
      exact (ne_of_none hy f6).symm
    refine ⟨p, l, n, _, rfl, hw6, n1, upd_same, ne, (by show 1 ≤ 5; decide), (by show 5 ≤ 1000; decide), fun x n' H1 b1 w1 n2 hm => ?_⟩
    have b0 : Exb p H H1 := (Exb.of e16).trans b1
    simp only [List.mem_cons, List.not_mem_nil, or_false] at hm
    rcases hm with e | e | e | e | e <;> subst e
    · exact q t1 [] n' H1 b0 w1 n2 (b1.keep hx ((e2.trans (e3.trans (e4.trans (e5.trans e6)))) _ _ upd_same) (fun z => nomatch z)) sigs0
    · exact q t2 ["a"] n' H1 b0 w1 n2 (b1.keep hx ((e3.trans (e4.trans (e5.trans e6))) _ _ upd_same) (fun z => nomatch z)) (sigs1 ok_a)
    · exact q t3 ["b"] n' H1 b0 w1 n2 (b1.keep hx ((e4.trans (e5.trans e6)) _ _ upd_same) (fun z => nomatch z)) (sigs1 ok_b)
    · exact q t4 ["a", "b"] n' H1 b0 w1 n2 (b1.keep hx ((e5.trans e6) _ _ upd_same) (fun z => nomatch z)) sigs2
    · exact q t5 ["seen"] n' H1 b0 w1 n2 (b1.keep hx (e6 _ _ upd_same) (fun z => nomatch z)) (sigs1 ok_seen)
end
end K59
/-! K59Q: the law's drawn deeds and folders. -/
namespace K59
open PySem PySem.Spec PyProof.Rows L2 K59S
open Evl (Ex Ev EvT)
/-- a folder behind at most i deeds -/
structure FB (F : Fol) (i : Nat) : Prop where
  inv : Inv F
  len : F.ls.length ≤ i
  up : F.up ≤ 1 + i
  lat : F.lat ≤ 200 * i
theorem FB.mono {F : Fol} {i j : Nat} (h : FB F i) (l : i ≤ j) : FB F j := ⟨h.inv, Nat.le_trans h.len l, by have := h.up; omega, by have := h.lat; omega⟩
theorem FB.fine {F : Fol} {i : Nat} (h : FB F i) (l : i ≤ 100) : Fine F := ⟨h.inv, by have := h.len; omega, by have := h.lat; omega⟩
theorem goneL_le (F G : Fol) : (goneL F G).length ≤ F.ls.length := by
  unfold goneL
  have := List.length_filter_le (fun n => !decide (n ∈ nums G)) (nums F)
  rw [nums_len] at this
  exact this
theorem newL_le (F G : Fol) : (newL F G).length ≤ F.ls.length := by
  unfold newL
  rw [List.length_map]
  exact List.length_filter_le _ _
theorem FB.step {F G : Fol} {i : Nat} (h : FB F i) (l : i ≤ 90) (st : Step F G) : FB G (i + 1) := by
  have h1 := goneL_le F G
  have h2 := newL_le F G
  have h3 := h.len
  have h4 := h.up
  have h5 := h.lat
  have h6 := st.up1
  have h7 := st.lat
  have h8 := st.few
  exact ⟨st.inv, by omega, by omega, by omega⟩
theorem inv0 {age : Int} (h : 1 ≤ age) : Inv ⟨age, [], 1, 0⟩ := ⟨h, Int.le_refl _, List.nodup_nil, (fun n hn => by cases hn), by show (0 : Int) ≤ 1 - 1; decide, by show 2 * ((1 : Int) - 1) - 0 ≤ 0; decide, (fun _ => rfl), (fun l hl => by cases hl)⟩
theorem NumsAt.keep {q : Addr} {xs : List V} {H H' : Hp} {t : Addr} {ns : List Int} (hq : H q = some (.lst xs)) (e : Exb q H H') (h : NumsAt H t ns) : NumsAt H' t ns := ⟨e.keep hq h.1 (fun z => nomatch z), h.2⟩
section
variable {P : Program} {w : World} {K : PySem.W.Frag} {mg : Str → Option Value} {base : Heap} {C d : Addr} {es : Array DictEntry} {n : Nat}
def spDeed (C : Addr) : Sp := fun vs H Q _ => ∃ (p q : Addr) (n : Int) (F : Fol), vs = [.ref p, .ref q] ∧ WellAt H p n ∧ n ≤ 90000 ∧ FolAt C H q F ∧ 1 ≤ F.up ∧ F.up ≤ 1000 ∧
  ∀ v n' H', Exb p H H' → WellAt H' p n' → n' ≤ n + 20 → DeedAt H' v → Q v H'
theorem scDeed : FnScope ["_law_well_here", "_law_folder_here", "_law_way", "_law_top", "_law_numbers", "_law_k"] ["_law_well_here", "_law_folder_here"] (C8.fnScope sDeed) := ⟨rfl, rfl, rfl, by decide +kernel, rfl, by decide +kernel, by decide +kernel⟩
theorem ok_deed {f : Addr} {fd : FuncData} (F : C8.Def K mg "_law_deed" sDeed f fd) (b : Binds K fd ["_law_well_here", "_law_folder_here"] []) (T : Txt K mg C) (c_law_draw : C8.Cal P w K mg base 1 "_law_draw" spDraw []) (c_law_signs : C8.Cal P w K mg base 3 "_law_signs" spSigns [])
    (c_law_one : C8.Cal P w K mg base 2 "_law_one" spOne []) (c_next_number : C8.Met P w K mg base 1 C "next_number" (spNext C) []) : C8.Cal P w K mg base 4 "_law_deed" (spDeed C) [] := by
  refine C8.cal0 F b .nil scDeed (fun vs H Q E h => ?_) (fun cdv A outer s H vs Q E hr h => ?_)
  · obtain ⟨_, _, _, _, rfl, _⟩ := h
    rfl
  · obtain ⟨p, q, n, F, rfl, hw, n1, hF, up1, up2, k⟩ := h
    refine ⟨_, (pss_cons (ps_asg (pe_tup (pa_cons (C8.pe_c c_law_draw hr (by decide) (by rfl) (pa_cons (pv 0) (pa_cons pe_int pa_nil))) (pa_cons (C8.pe_mt0 c_next_number hr (by decide) (pv 1)) pa_nil))) (pg_tup (by rfl) (pgs_cons (pg_name (i := 2) scDeed.nd rfl (Or.inl rfl)) (pgs_cons (pg_name (i := 3) scDeed.nd rfl (Or.inr rfl)) pgs_nil))))
        (pss_cons (ps_set (i := 4) scDeed.nd rfl (Or.inl rfl) (pe_callTy call_tuple_of (by rfl) T.tuple (by decide +kernel) (pa_cons (pe_lc (own := [("_law_k", 5)]) (g := gName 5) (tt := tYes) rfl scDeed.nd (pi_range1 (by rfl) T.range (pa_cons (pe_op op_add pe_int (C8.pe_c c_law_draw hr (by decide) (by rfl) (pa_cons (pv 0) (pa_cons pe_int pa_nil)))) pa_nil)) (blkOk_by (N := ["_law_well_here", "_law_folder_here", "_law_way", "_law_top", "_law_numbers", "_law_k"]) (sc := C8.fnScope sDeed) (by decide +kernel)) (fun _ _ _ _ _ => pg_name (i := 5) scDeed.nd rfl (Or.inl rfl)) (fun _ _ _ _ _ => pts_nil) (fun _ _ _ _ _ => (pe_op op_add pe_int (C8.pe_c c_law_draw hr (by decide) (by rfl) (pa_cons (pv 0) (pa_cons (pv 3) pa_nil)))))) pa_nil)))
        (pss_cons (ps_if (PW.pt (pw_or (pt_cmpR op_lt (pv 2) pe_int (nomark _)) (pw_or1 (pt_cmpR op_eq (pv 3) pe_int (nomark _))))) (pss_one (ps_ret (pe_tup (pa_cons pe_str (pa_cons (C8.pe_c c_law_draw hr (by decide) (by rfl) (pa_cons (pv 0) (pa_cons pe_int pa_nil))) (pa_cons (C8.pe_c c_law_signs hr (by decide) (by rfl) (pa_cons (pv 0) pa_nil)) pa_nil)))))) pss_nil)
        (pss_cons (ps_if (pt_cmpR op_eq (pv 2) pe_int (nomark _)) (pss_one (ps_ret (pe_tup (pa_cons pe_str (pa_cons (pv 4) pa_nil))))) pss_nil)
        (pss_cons (ps_if (pt_cmpR op_eq (pv 2) pe_int (nomark _)) (pss_one (ps_ret (pe_tup (pa_cons pe_str (pa_cons (pv 4) (pa_cons (C8.pe_c c_law_signs hr (by decide) (by rfl) (pa_cons (pv 0) pa_nil)) pa_nil)))))) pss_nil)
        (pss_one (ps_ret (pe_tup (pa_cons (C8.pe_c c_law_one hr (by decide) (by rfl) (pa_cons (pv 0) (pa_cons (pe_lst (pa_cons pe_str (pa_cons pe_str pa_nil))) pa_nil))) (pa_cons (pv 4) (pa_cons (C8.pe_c c_law_one hr (by decide) (by rfl) (pa_cons (pv 0) (pa_cons (pe_lst (pa_cons pe_str (pa_cons pe_str (pa_cons pe_str pa_nil)))) pa_nil))) pa_nil))))))))))), ?_⟩
    -- way, top
    refine ⟨_, rfl, p, 8, n, rfl, hw, (by decide), (by decide), by omega, fun way n2 H1 b1 w1 l1 y0 y8 => ?_⟩
    obtain ⟨xs0, hx0⟩ := hw.lst
    have hF1 := hF.keep hx0 b1
    obtain ⟨dx, hh, wt, xs, ws, hp, _⟩ := id hF1
    refine ⟨_, rfl, q, dx, _, rfl, hp, no_next _ _ _ _ _ _, q, F, rfl, hF1, fun H2 e2 => ?_⟩
    refine ⟨by show 2 ≤ sizeLine; decide, fun t nt => ?_⟩
    have e3 := e2.trans (Evl.Ex.new (o := .tup [.int way, .int F.up]) nt)
    have w3 := w1.mono e3
    have b3 : Exb p H (upd H2 t (.tup [.int way, .int F.up])) := b1.trans (Exb.of e3)
    refine ⟨t, _, rfl, .of upd_same, rfl, _, _, rfl, _, _, rfl, rfl, ?_⟩
    generalize upd H2 t (.tup [.int way, .int F.up]) = H3 at w3 b3
    -- numbers
    refine ⟨_, rfl, p, 3, n2, rfl, w3, (by decide), (by decide), by omega, fun k0 n4 H4 b4 w4 l4 k00 k03 => ?_⟩
    have b04 := b3.trans b4
    obtain ⟨xs4, hx4⟩ := w4.lst
    refine ⟨_, _, rfl, rfl, _, rfl, by omega, by omega, fun D hD => ?_⟩
    have npD : p ≠ D := ne_of_none hx4 hD
    refine lc_it walk_range (fun i H' => ∃ (n' : Int) (ns : List Int), Exb p H4 H' ∧ WellAt H' p n' ∧ n' ≤ n4 + i ∧ H' D = some (.lst (ns.map V.int)) ∧ ns.length = i ∧ ∀ x ∈ ns, 1 ≤ x)
      ⟨n4, [], Exb.new (Exb.refl p H4) hD, w4.mono (Evl.Ex.new hD), by omega, upd_same, rfl, fun x hx => by cases hx⟩ (fun _ _ _ _ => True.intro) ?_ ?_
    · rintro i x H5 H5' hi ⟨n5, ns, b5, w5, l5, hD5, len5, ge5⟩ ⟨eH, rfl⟩
      subst eH
      refine ⟨rfl, ?_⟩
      refine ⟨_, rfl, _, rfl, p, F.up, n5, rfl, w5, up1, up2, by omega, fun z n6 H6 b6 w6 l6 z0 z1 => ?_⟩
      have hD6 := b6 _ _ npD.symm hD5
      refine ⟨_, _, rfl, rfl, _, hD6, by rw [List.length_map]; exact Evl.sz_lt (by omega), n6, ns ++ [1 + z], ?_, ?_, by omega, ?_, by rw [List.length_append, len5]; rfl, ?_⟩
      · exact fun b o nb hb => by rw [upd_ne (ne_of_none hb hD)]; exact b6 b o nb (b5 b o nb hb)
      · obtain ⟨a1, a2, a3, a4⟩ := w6
        exact ⟨a1, a2, (upd_ne npD).trans a3, a4⟩
      · rw [upd_same, List.map_append]
        rfl
      · intro y hy
        rcases List.mem_append.mp hy with h | h
        · exact ge5 y h
        · rw [List.mem_singleton.mp h]
          omega
    · rintro H5 ⟨n5, ns, b5, w5, l5, hD5, len5, ge5⟩
      refine ⟨D, _, rfl, .inl ⟨.of hD5, fun tn ntn => ?_⟩⟩
      have e6 := Evl.Ex.new (o := .tup (ns.map V.int)) ntn
      have w6 := w5.mono e6
      have b06 : Exb p H (upd H5 tn (.tup (ns.map V.int))) := (b04.trans b5).trans (Exb.of e6)
      have hn6 : NumsAt (upd H5 tn (.tup (ns.map V.int))) tn ns := ⟨upd_same, ge5, by omega⟩
      have l6 : n5 ≤ n + 5 := by omega
      generalize upd H5 tn (.tup (ns.map V.int)) = H6 at w6 b06 hn6
      obtain ⟨xs6, hx6⟩ := w6.lst
      -- if way < 3 or top == 1
      refine ⟨_, rfl, _, _, rfl, rfl, _, rfl, or_cut (d := decide (V.int F.up = V.int 1)) (fun Q q => ⟨_, rfl, rfl, _, rfl, q⟩) ?_⟩
      refine ite2 (fun _ => ?_) (fun _ => ?_)
      · refine ⟨_, rfl, p, 4, n5, rfl, w6, (by decide), (by decide), by omega, fun bd n7 H7 b7 w7 l7 bd0 _ => ?_⟩
        refine ⟨_, rfl, p, n7, rfl, w7, by omega, fun g sg n8 H8 b8 w8 l8 hg ok => ?_⟩
        refine ⟨by show 3 ≤ sizeLine; decide, fun r nr => ?_⟩
        have e9 := Evl.Ex.new (o := .tup [.str "append", .int bd, .ref g]) nr
        exact k (.ref r) n8 _ ((b06.trans (b7.trans b8)).trans (Exb.of e9)) (w8.mono e9) (by omega) (.app upd_same bd0 (e9 _ _ hg) ok)
      refine ⟨_, rfl, rfl, _, rfl, ite2 (fun _ => ?_) (fun _ => ?_)⟩
      · refine ⟨_, rfl, by show 2 ≤ sizeLine; decide, fun r nr => ?_⟩
        have e9 := Evl.Ex.new (o := .tup [.str "remove", .ref tn]) nr
        exact k (.ref r) n5 _ (b06.trans (Exb.of e9)) (w6.mono e9) (by omega) (.rem upd_same (hn6.mono e9))
      refine ⟨_, rfl, rfl, _, rfl, ite2 (fun _ => ?_) (fun _ => ?_)⟩
      · refine ⟨_, rfl, _, rfl, p, n5, rfl, w6, by omega, fun g sg n8 H8 b8 w8 l8 hg ok => ?_⟩
        refine ⟨by show 3 ≤ sizeLine; decide, fun r nr => ?_⟩
        have e9 := Evl.Ex.new (o := .tup [.str "set", .ref tn, .ref g]) nr
        exact k (.ref r) n8 _ ((b06.trans b8).trans (Exb.of e9)) (w8.mono e9) (by omega) (.set upd_same ((hn6.keep hx6 b8).mono e9) (e9 _ _ hg) ok)
      · refine ⟨_, rfl, by show 2 ≤ sizeLine; decide, fun l7 nl7 => ?_⟩
        have e7 := Evl.Ex.new (o := .lst [.str "add", .str "take"]) nl7
        refine ⟨p, l7, n5, _, rfl, w6.mono e7, by omega, upd_same, (ne_of_none hx6 nl7).symm, (by show 1 ≤ 2; decide), (by show 2 ≤ 1000; decide), fun x n8 H8 b8 w8 l8 hm => ?_⟩
        have hn8 := (hn6.mono e7).keep (e7 _ _ hx6) b8
        obtain ⟨xs8, hx8⟩ := w8.lst
        refine ⟨_, rfl, _, rfl, by show 3 ≤ sizeLine; decide, fun l9 nl9 => ?_⟩
        have e9 := Evl.Ex.new (o := .lst [.str "a", .str "b", .str "seen"]) nl9
        refine ⟨p, l9, n8, _, rfl, w8.mono e9, by omega, upd_same, (ne_of_none hx8 nl9).symm, (by show 1 ≤ 3; decide), (by show 3 ≤ 1000; decide), fun z n10 H10 b10 w10 l10 hz => ?_⟩
        have hn10 := (hn8.mono e9).keep (e9 _ _ hx8) b10
        refine ⟨by show 3 ≤ sizeLine; decide, fun r nr => ?_⟩
        have e11 := Evl.Ex.new (o := .tup [x, .ref tn, z]) nr
        refine k (.ref r) n10 _ ((((b06.trans (Exb.of e7)).trans b8).trans ((Exb.of e9).trans b10)).trans (Exb.of e11)) (w10.mono e11) (by omega) ?_
        obtain ⟨zz, rfl, okz⟩ : ∃ zz, z = V.str zz ∧ SignOk zz := by
          simp only [List.mem_cons, List.not_mem_nil, or_false] at hz
          rcases hz with e | e | e
          · exact ⟨_, e, ok_a⟩
          · exact ⟨_, e, ok_b⟩
          · exact ⟨_, e, ok_seen⟩
        simp only [List.mem_cons, List.not_mem_nil, or_false] at hm
        rcases hm with e | e <;> subst e
        · exact .add upd_same (hn10.mono e11) okz
        · exact .take upd_same (hn10.mono e11) okz
def spFolder (C : Addr) : Sp := fun vs H Q _ => ∃ (p : Addr) (n : Int), vs = [.ref p, .int 12] ∧ WellAt H p n ∧ n ≤ 1000 ∧
  ∀ q F n' H', Exb p H H' → WellAt H' p n' → n' ≤ n + 400 → FolAt C H' q F → FB F 12 → Q (.ref q) H'
theorem scFolder : FnScope ["_law_well_here", "_law_most", "_law_folder_here", "_law_k"] ["_law_well_here", "_law_most"] (C8.fnScope sFolder) := ⟨rfl, rfl, rfl, by decide +kernel, rfl, by decide +kernel, by decide +kernel⟩
theorem ok_folder {f : Addr} {fd : FuncData} (F : C8.Def K mg "_law_folder" sFolder f fd) (b : Binds K fd ["_law_well_here", "_law_most"] []) (T : Txt K mg C) (c_law_draw : C8.Cal P w K mg base 1 "_law_draw" spDraw []) (c_init : C8.Mak P w K mg base 3 "Folder" C (spInit C) [])
    (c_law_deed : C8.Cal P w K mg base 4 "_law_deed" (spDeed C) []) (c_played : C8.Cal P w K mg base 9 "played" (spPlayed C) []) : C8.Cal P w K mg base 10 "_law_folder" (spFolder C) [] := by
  refine C8.cal0 F b .nil scFolder (fun vs H Q E h => ?_) (fun cdv A outer s H vs Q E hr h => ?_)
  · obtain ⟨_, _, rfl, _⟩ := h
    rfl
  · obtain ⟨p, n, rfl, hw, n1, k⟩ := h
    refine ⟨_, (pss_cons (ps_set (i := 2) scFolder.nd rfl (Or.inl rfl) (C8.pe_mk c_init hr (by decide) (by rfl) (pa_cons (pe_op op_add pe_int (C8.pe_c c_law_draw hr (by decide) (by rfl) (pa_cons (pv 0) (pa_cons pe_int pa_nil)))) pa_nil)))
        (pss_cons (ps_for PassesOwn.never rfl (pi_range1 (by rfl) T.range (pa_cons (C8.pe_c c_law_draw hr (by decide) (by rfl) (pa_cons (pv 0) (pa_cons (pv 1) pa_nil))) pa_nil)) (pg_name (i := 3) scFolder.nd rfl (Or.inl rfl))
        (pss_one (ps_set (i := 2) scFolder.nd rfl (Or.inl rfl) (C8.pe_c c_played hr (by decide) (by rfl) (pa_cons (pv 2) (pa_cons (pe_lst (pa_cons (C8.pe_c c_law_deed hr (by decide) (by rfl) (pa_cons (pv 0) (pa_cons (pv 2) pa_nil))) pa_nil)) pa_nil))))))
        (pss_one (ps_ret (pv 2))))), ?_⟩
    refine ⟨_, rfl, p, 9, n, rfl, hw, (by decide), (by decide), by omega, fun a n2 H1 b1 w1 l1 a0 _ => ⟨_, _, rfl, rfl, fun x dx nx nd nxd => ?_⟩⟩
    refine ⟨x, dx, 1 + a, rfl, upd_same, by omega, fun H2 h2 wt2 b2 hx2 hh2 hw2 => ⟨rfl, ?_⟩⟩
    have e2 : Ex H1 H2 := fun c o e => b2 c o (ne_of_none e nx) (by rw [upd_ne (ne_of_none e nx), upd_ne (ne_of_none e nd)]; exact e)
    have w2 := w1.mono e2
    have hF2 : FolAt C H2 x ⟨1 + a, [], 1, 0⟩ := ⟨dx, h2, wt2, [], [], hx2, hh2, .nil, hw2, by show (0 : Int) ≤ 0; decide⟩
    refine ⟨_, rfl, _, rfl, p, 12, n2, rfl, w2, (by decide), (by decide), by omega, fun m n3 H3 b3 w3 l3 m0 m12 => ?_⟩
    obtain ⟨xs2, hx2'⟩ := w2.lst
    have b03 : Exb p H H3 := (b1.trans (Exb.of e2)).trans b3
    refine ⟨m, rfl, by omega, by omega, for_it walk_range (fun i σ H' => ∃ (q : Addr) (F : Fol) (n' : Int) (v : Option V), σ = [some (.ref p), some (.int 12), some (.ref q), v] ∧ Exb p H H' ∧ WellAt H' p n' ∧ n' ≤ n3 + 20 * i ∧ FolAt C H' q F ∧ FB F i)
      ⟨x, _, n3, none, rfl, b03, w3, by omega, hF2.keep hx2' b3, inv0 (by omega), Nat.le_refl _, by show (1 : Int) ≤ 1 + 0; decide, by show (0 : Int) ≤ 200 * 0; decide⟩ (fun _ _ _ _ _ => True.intro) ?_ ?_⟩
    · rintro i y σ H5 H5' hi ⟨q, F, n5, v, rfl, b5, w5, l5, hF5, fb⟩ ⟨eH, rfl⟩
      subst eH
      have hi12 : i < 12 := by omega
      have u1 := fb.up
      obtain ⟨xs5, hx5⟩ := w5.lst
      refine ⟨_, rfl, _, rfl, _, rfl, p, q, n5, F, rfl, w5, by omega, hF5, fb.inv.up, by omega, fun dv n6 H6 b6 w6 l6 hd => ?_⟩
      have hF6 := hF5.keep hx5 b6
      refine ⟨by show 1 ≤ sizeLine; decide, fun l nl => ?_⟩
      have e7 := Evl.Ex.new (o := .lst [dv]) nl
      refine ⟨q, l, dv, F, rfl, hF6.mono e7, fb.fine (by omega), upd_same, hd.mono e7, fun q2 G H8 e8 hG st => ?_⟩
      have e78 := e7.trans e8
      exact ⟨q2, G, n6, _, rfl, (b5.trans b6).trans (Exb.of e78), w6.mono e78, by omega, hG, fb.step (by omega) st⟩
    · rintro σ H5 ⟨q, F, n5, v, rfl, b5, w5, l5, hF5, fb⟩
      exact ⟨_, rfl, k q F n5 H5 b5 w5 (by omega) hF5 (fb.mono (by omega))⟩
def sgtOf (F : Fol) : Sgt := ⟨F.age, F.ls.length, F.up, F.lat⟩
def spSight (C : Addr) : Sp := fun vs H Q _ => ∃ (p : Addr) (F : Fol), vs = [.ref p] ∧ FolAt C H p F ∧ ∀ t H', Ex H H' → SgtAt H' t (sgtOf F) → Q (.ref t) H'
theorem scSight : FnScope ["_law_folder_here"] ["_law_folder_here"] (C8.fnScope sSight) := ⟨rfl, rfl, rfl, by decide +kernel, rfl, by decide +kernel, by decide +kernel⟩
theorem ok_sight {f : Addr} {fd : FuncData} (F : C8.Def K mg "_law_sight" sSight f fd) (b : Binds K fd ["_law_folder_here"] []) (T : Txt K mg C) (c_age : C8.Met P w K mg base 1 C "age" (spAge C) []) (c_letters : C8.Met P w K mg base 1 C "letters" (spLetters C) [])
    (c_next_number : C8.Met P w K mg base 1 C "next_number" (spNext C) []) (c_mark : C8.Met P w K mg base 1 C "mark" (spMark C) []) : C8.Cal P w K mg base 2 "_law_sight" (spSight C) [] := by
  refine C8.cal0 F b .nil scSight (fun vs H Q E h => ?_) (fun cdv A outer s H vs Q E hr h => ?_)
  · obtain ⟨_, _, rfl, _⟩ := h
    rfl
  · obtain ⟨p, F, rfl, hF, k⟩ := h
    refine ⟨_, (pss_one (ps_ret (pe_tup (pa_cons (C8.pe_mt0 c_age hr (by decide) (pv 0)) (pa_cons (pe_callB call_len_seq (by rfl) T.len (by decide +kernel) (pa_cons (C8.pe_mt0 c_letters hr (by decide) (pv 0)) pa_nil)) (pa_cons (C8.pe_mt0 c_next_number hr (by decide) (pv 0)) (pa_cons (C8.pe_mt0 c_mark hr (by decide) (pv 0)) pa_nil))))))), ?_⟩
    obtain ⟨dx, hh, wt, xs, ws, hp, _⟩ := id hF
    refine ⟨_, rfl, p, dx, _, rfl, hp, no_age _ _ _ _ _ _, p, F, rfl, hF, fun H1 e1 => ?_⟩
    refine ⟨_, rfl, p, dx, _, rfl, e1 _ _ hp, no_letters _ _ _ _ _ _, p, F, rfl, hF.mono e1, fun q ys H2 e2 nq hq hy => ⟨q, _, rfl, .inl (.of hq), ?_⟩⟩
    have e12 := e1.trans e2
    refine ⟨_, rfl, p, dx, _, rfl, e12 _ _ hp, no_next _ _ _ _ _ _, p, F, rfl, hF.mono e12, fun H3 e3 => ?_⟩
    have e13 := e12.trans e3
    refine ⟨_, rfl, p, dx, _, rfl, e13 _ _ hp, no_mark _ _ _ _ _ _, p, F, rfl, hF.mono e13, fun H4 e4 => ?_⟩
    have e14 := e13.trans e4
    refine ⟨by show 4 ≤ sizeLine; decide, fun t nt => k t _ (e14.trans (Evl.Ex.new nt)) ?_⟩
    unfold SgtAt sgtOf
    rw [upd_same, hy.length]
def spFits : Sp := fun vs H Q _ => ∃ (x : Str) (i j : Int), vs = [.str x, .int i, .int j] ∧ Fits x i j ∧ ∀ H', Ex H H' → Q (.bl true) H'
theorem scFits : FnScope ["_law_word", "_law_some", "_law_whole"] ["_law_word", "_law_some", "_law_whole"] (C8.fnScope sFits) := ⟨rfl, rfl, rfl, by decide +kernel, rfl, by decide +kernel, by decide +kernel⟩
theorem ok_fits {f : Addr} {fd : FuncData} (F : C8.Def K mg "_law_fits" sFits f fd) (b : Binds K fd ["_law_word", "_law_some", "_law_whole"] []) (T : Txt K mg C) : C8.Cal P w K mg base 1 "_law_fits" spFits [] := by
  refine C8.cal0 F b .nil scFits (fun vs H Q E h => ?_) (fun cdv A outer s H vs Q E hr h => ?_)
  · obtain ⟨_, _, _, rfl, _⟩ := h
    rfl
  · obtain ⟨x, i, j, rfl, hf, k⟩ := h
    refine ⟨_, (pss_cons (ps_if (pt_cmpR op_eq (pv 0) pe_str (nomark _)) (pss_one (ps_ret (pe_cmpR op_eq (pv 1) (pv 2) (nomark _)))) pss_nil)
        (pss_cons (ps_if (pt_cmpR op_eq (pv 0) pe_str (nomark _)) (pss_one (ps_ret (pe_cmpR op_eq (pv 1) pe_int (nomark _)))) pss_nil)
        (pss_one (ps_ret (pe_or (pe_cmpR op_eq (pv 0) pe_str (nomark _)) (pe_one (pe_chain op_lt op_lt pe_int (pv 1) (pv 2)))))))), ?_⟩
    have k := k H (Evl.Ex.refl H)
    unfold Fits at hf
    refine ⟨_, rfl, rfl, _, rfl, ite2 (fun c => ?_) (fun c => ?_)⟩
    · have c : x = "all" := V.str.inj (of_decide_eq_true c)
      rw [if_pos c] at hf
      exact ⟨_, rfl, _, rfl, rfl, by rw [hf, decide_eq_true rfl]; exact k⟩
    have c : ¬ x = "all" := fun z => c (decide_eq_true (by rw [z]))
    rw [if_neg c] at hf
    refine ⟨_, rfl, rfl, _, rfl, ite2 (fun c2 => ?_) (fun c2 => ?_)⟩
    · have c2 : x = "none" := V.str.inj (of_decide_eq_true c2)
      rw [if_pos c2] at hf
      exact ⟨_, rfl, rfl, by rw [hf, decide_eq_true rfl]; exact k⟩
    have c2 : ¬ x = "none" := fun z => c2 (decide_eq_true (by rw [z]))
    rw [if_neg c2] at hf
    refine ⟨_, rfl, rfl, _, rfl, ite2 (fun c3 => k) (fun c3 => ?_)⟩
    rcases hf with h | ⟨h1, h2⟩
    · exact absurd (decide_eq_true (by rw [h])) c3
    · exact ⟨_, rfl, _, _, rfl, rfl, _, rfl, iteY h1 ⟨_, rfl, _, _, rfl, rfl, by show Q (V.bl (decide (i < j))) H; rw [decide_eq_true h2]; exact k⟩⟩
end
end K59
/-! K59R: the law's inner loop. -/
namespace K59
open PySem PySem.Spec PyProof.Rows L2 K59S
open Evl (Ex Ev EvT)
/-! ### rules with their written part named -/
theorem neDK {X : Cx} {K : PySem.W.Frag} (hu : X.A.units + 64 < cLine) (e : X.K = K := by rfl) : OpR X (compareOp .NotEq) (rNeD K) := by
  subst e
  exact op_neD hu
def rDictP (K : PySem.W.Frag) : List V → Hp → VK → Prop := fun xs H Q => ∃ (a : Addr) (ps : List Addr) (kvs : List (Key × V)), xs = [.ref a] ∧ SqL K H a (ps.map V.ref) ∧ Paired (fun p kv => SqT K H p [kV kv.1, kv.2]) ps kvs ∧ ∀ p, H p = none → Q (.ref p) (upd H p (.dK (mergeK [] kvs)))
theorem cr_dictP {X : Cx} (hc : X.calm = true) : CallR X (.type "dict") (rDictP X.K) := call_dictP hc
/-! ### the dicts: number to signs -/
def KvsAt (H : Hp) : List (Key × V) → List Ltr → Prop := Paired fun (kv : Key × V) (l : Ltr) => kv.1 = Sum.inl l.num ∧ ∃ g, kv.2 = .ref g ∧ H g = some (.tup (l.sg.map V.str))
theorem KvsAt.mono {H H' : Hp} {kvs : List (Key × V)} {ls : List Ltr} (e : ∀ g zs, H g = some (.tup zs) → H' g = some (.tup zs)) (h : KvsAt H kvs ls) : KvsAt H' kvs ls :=
  paired_imp (fun a b ⟨h1, g, h2, h3⟩ => ⟨h1, g, h2, e g _ h3⟩) h
theorem KvsAt.keys {H : Hp} : ∀ {kvs : List (Key × V)} {ls : List Ltr}, KvsAt H kvs ls → kvs.map (·.1) = (ls.map Ltr.num).map Sum.inl
  | _, _, .nil => rfl
  | _, _, .cons a b => by rw [List.map_cons, List.map_cons, List.map_cons, a.1, KvsAt.keys b]
theorem KvsAt.vals {H : Hp} : ∀ {kvs : List (Key × V)} {ls : List Ltr}, KvsAt H kvs ls → kvs.map (fun kv => kV kv.1) = (ls.map Ltr.num).map V.int
  | _, _, .nil => rfl
  | _, _, .cons a b => by
    rw [List.map_cons, List.map_cons, List.map_cons, a.1, KvsAt.vals b]
    rfl
theorem KvsAt.find {H : Hp} (n : Int) : ∀ {kvs : List (Key × V)} {ls : List Ltr}, KvsAt H kvs ls →
    (ls.find? (fun x => decide (x.num = n)) = none ∧ valV kvs (Sum.inl n) = none) ∨ ∃ l g, ls.find? (fun x => decide (x.num = n)) = some l ∧ valV kvs (Sum.inl n) = some (.ref g) ∧ H g = some (.tup (l.sg.map V.str))
  | _, _, .nil => .inl ⟨rfl, rfl⟩
  | kv :: _, l :: _, .cons a b => by
    by_cases h : l.num = n
    · obtain ⟨h1, g, h2, h3⟩ := a
      refine .inr ⟨l, g, ?_, ?_, h3⟩
      · rw [List.find?_cons_of_pos (by simp [h])]
      · rw [valV_pos (by rw [h1, h]), h2]
    · have hk : ¬ kv.1 = Sum.inl n := fun e => h (Sum.inl.inj (a.1.symm.trans e))
      rw [List.find?_cons_of_neg (by simp [h]), valV_neg hk]
      exact KvsAt.find n b
theorem merge_nd : ∀ (more acc : List (Key × V)), (more.map (·.1)).Nodup → (∀ k ∈ more.map (·.1), valV acc k = none) → mergeK acc more = acc ++ more
  | [], acc, _, _ => (List.append_nil acc).symm
  | p :: r, acc, nd, h => by
    have nd : (p.1 :: r.map (·.1)).Nodup := nd
    obtain ⟨h1, h2⟩ := List.nodup_cons.mp nd
    have hp : valV acc p.1 = none := h p.1 List.mem_cons_self
    show mergeK (putK acc p.1 p.2) r = _
    rw [putK_new _ hp, merge_nd r (acc ++ [(p.1, p.2)]) h2 fun k hk => ?_, List.append_assoc]
    · rfl
    · rw [valV_snoc _ _ _ _ hp, if_neg (fun (e : k = p.1) => h1 (e ▸ hk))]
      exact h k (List.mem_cons_of_mem _ hk)
theorem KvsAt.merge {H : Hp} {kvs : List (Key × V)} {ls : List Ltr} (h : KvsAt H kvs ls) (nd : (ls.map Ltr.num).Nodup) : mergeK [] kvs = kvs := by
  refine merge_nd kvs [] ?_ fun _ _ => rfl
  rw [h.keys]
  exact List.Pairwise.map _ (fun a b hne e => hne (Sum.inl.inj e)) nd
theorem KvsAt.length {H : Hp} {kvs : List (Key × V)} {ls : List Ltr} (h : KvsAt H kvs ls) : kvs.length = ls.length := Paired.length h
/-! ### what the two comprehensions over a dict keep -/
def intOf : V → Int
  | .int n => n
  | _ => 0
def chgN (F G : Fol) (n : Int) : Bool := match F.ls.find? (fun x => decide (x.num = n)), G.ls.find? (fun x => decide (x.num = n)) with
  | some l, some m => !decide (m.sg = l.sg)
  | _, _ => false
theorem gone_keys (F G : Fol) : ((nums F).map V.int).filter (fun x => !decide (intOf x ∈ nums G)) = (goneL F G).map V.int := by
  rw [List.filter_map]
  rfl
theorem new_keys {F G : Fol} (nd : (nums F).Nodup) : ((nums F).map V.int).filter (fun x => chgN F G (intOf x)) = (newL F G).map V.int := by
  rw [List.filter_map]
  congr 1
  unfold newL nums
  rw [List.filter_map]
  congr 1
  refine List.filter_congr fun l hl => ?_
  show chgN F G l.num = chgd G l
  unfold chgN chgd
  rw [find_num nd hl]
  cases G.ls.find? (fun x => decide (x.num = l.num)) with
  | none => rfl
  | some m => rfl
theorem find_mem {G : Fol} {n : Int} : (G.ls.find? (fun x => decide (x.num = n))).isSome = decide (n ∈ nums G) := by
  by_cases h : n ∈ nums G
  · rw [decide_eq_true h]
    obtain ⟨l, hl, e⟩ := List.mem_map.mp h
    rw [List.find?_isSome]
    exact ⟨l, hl, by simp [e]⟩
  · rw [decide_eq_false h, find_none h]
    rfl
/-! ### two expressions of the law -/
section
variable {K : PySem.W.Frag} {C : Addr} {σ : L2.St} {H : Hp} {q : Addr} {F : Fol}
abbrev tLetters (K : PySem.W.Frag) (C : Addr) : TI := iList K (tMeth C "letters" (spLetters C) [] C8.E0 (tVar 3) tNil)
theorem ltr_num {Hb H' : Hp} {x : V} {l : Ltr} {vs : List Nat} {Q : VK} (hv : (List.set (wipe σ vs) 20 (some x))[20]? = some (some x)) (hl : LtrAt H' x l) (k : Q (.int l.num) H') : tOp (rIxT K) (tVar 20) (tC (.int 0)) (List.set (wipe σ vs) 20 (some x)) H' Q := by
  obtain ⟨t, g, rfl, h1, h2⟩ := hl
  exact ⟨_, hv, t, _, _, _, rfl, rfl, .of h1, at_of (j := 0) rfl rfl, k⟩
theorem ltr_sg {H' : Hp} {x : V} {l : Ltr} {vs : List Nat} {Q : VK} (hv : (List.set (wipe σ vs) 20 (some x))[20]? = some (some x)) (hl : LtrAt H' x l) (k : ∀ g, H' g = some (.tup (l.sg.map V.str)) → Q (.ref g) H') : tOp (rIxT K) (tVar 20) (tC (.int 2)) (List.set (wipe σ vs) 20 (some x)) H' Q := by
  obtain ⟨t, g, rfl, h1, h2⟩ := hl
  exact ⟨_, hv, t, _, _, _, rfl, rfl, .of h1, at_of (j := 2) rfl rfl, k g h2⟩
/-- [letter[0] for letter in folder.letters()] -/
theorem ev_nums (hs : σ[3]? = some (some (.ref q))) (hF : FolAt C H q F) (few : F.ls.length ≤ 1000) (hw : ∀ x, wipe (List.set (wipe σ [20]) 20 (some x)) [20] = wipe σ [20]) (hv : ∀ x, (List.set (wipe σ [20]) 20 (some x))[20]? = some (some x)) :
    EvR (tLc (tLetters K C) (gName 20) tYes (tOp (rIxT K) (tVar 20) (tC (.int 0))) [20]) σ H (fun v H' => ∃ D, v = .ref D ∧ H D = none ∧ H' D = some (.lst ((nums F).map V.int))) := fun H1 e1 Q k => by
  have hF1 := hF.mono e1
  obtain ⟨dx, hh, wt, xs0, ws, hp, _⟩ := id hF1
  refine ⟨_, hs, q, dx, _, rfl, hp, no_letters _ _ _ _ _ _, q, F, rfl, hF1, fun ql xs H2 e2 nq hq hx => ⟨ql, rfl, ⟨xs, .of hq⟩, fun D hD => ?_⟩⟩
  refine lc_gen walk_list rfl (by rw [hx.length]; omega) hD (fun H' e => .of (e _ _ hq)) (fun _ => true) (fun x y _ => y = .int (numAt H2 x)) (fun _ _ _ _ _ _ _ e => e) hw (fun _ _ => ev_yes)
    (fun x hxm _ H3 e3 Q3 k3 => ?_) fun ys H3 e3 hL pr => ?_
  · obtain ⟨l, _, hl⟩ := hx.mem hxm
    exact ltr_num (Hb := H2) (hv x) (hl.mono e3) (k3 _ H3 (Evl.Ex.refl H3) (by rw [numAt_of hl]))
  · have ey := paired_fn (f := fun x => V.int (numAt H2 x)) pr
    rw [filter_true] at ey
    have es : xs.map (fun x => V.int (numAt H2 x)) = (nums F).map V.int := by
      have go : ∀ {xs : List V} {ls : List Ltr}, LtrsAt H2 xs ls → xs.map (fun x => V.int (numAt H2 x)) = (ls.map Ltr.num).map V.int := by
        intro xs ls h
        induction h with
        | nil => rfl
        | cons a b ih => rw [List.map_cons, List.map_cons, List.map_cons, ih, numAt_of a]
      exact go hx
    rw [ey, es] at hL
    exact k _ H3 (e2.trans e3) ⟨D, rfl, free (e1.trans e2) hD, hL⟩
/-- dict([(letter[0], letter[2]) for letter in folder.letters()]) -/
theorem ev_dict (hs : σ[3]? = some (some (.ref q))) (hF : FolAt C H q F) (nd : (nums F).Nodup) (few : F.ls.length ≤ 1000) (hw : ∀ x, wipe (List.set (wipe σ [20]) 20 (some x)) [20] = wipe σ [20]) (hv : ∀ x, (List.set (wipe σ [20]) 20 (some x))[20]? = some (some x)) :
    EvR (tCB (rDictP K) (tCons (tLc (tLetters K C) (gName 20) tYes (tTup (tCons (tOp (rIxT K) (tVar 20) (tC (.int 0))) (tCons (tOp (rIxT K) (tVar 20) (tC (.int 2))) tNil))) [20]) tNil)) σ H
      (fun v H' => ∃ d kvs, v = .ref d ∧ H d = none ∧ H' d = some (.dK kvs) ∧ KvsAt H' kvs F.ls) := fun H1 e1 Q k => by
  have hF1 := hF.mono e1
  obtain ⟨dx, hh, wt, xs0, ws, hp, _⟩ := id hF1
  refine ⟨_, hs, q, dx, _, rfl, hp, no_letters _ _ _ _ _ _, q, F, rfl, hF1, fun ql xs H2 e2 nq hq hx => ⟨ql, rfl, ⟨xs, .of hq⟩, fun D hD => ?_⟩⟩
  refine lc_gen walk_list rfl (by rw [hx.length]; omega) hD (fun H' e => .of (e _ _ hq)) (fun _ => true)
    (fun x y H' => ∃ l t g, LtrAt H2 x l ∧ y = .ref t ∧ H' t = some (.tup [.int l.num, .ref g]) ∧ H' g = some (.tup (l.sg.map V.str)))
    (fun _ _ _ _ _ hD' eb ⟨l, t, g, a1, a2, a3, a4⟩ => ⟨l, t, g, a1, a2, eb.keep hD' a3 (fun z => nomatch z), eb.keep hD' a4 (fun z => nomatch z)⟩) hw (fun _ _ => ev_yes)
    (fun x hxm _ H3 e3 Q3 k3 => ?_) fun ys H3 e3 hL pr => ?_
  · obtain ⟨l, _, hl⟩ := hx.mem hxm
    have hl3 := hl.mono e3
    refine ltr_num (Hb := H2) (hv x) hl3 (ltr_sg (hv x) hl3 fun g hg => ⟨by show 2 ≤ sizeLine; decide, fun t nt => ?_⟩)
    exact k3 _ _ (Evl.Ex.new nt) ⟨l, t, g, hl, rfl, upd_same, Evl.Ex.new nt _ _ hg⟩
  · rw [filter_true] at pr
    have go : ∀ {xs ys : List V} {ls : List Ltr}, LtrsAt H2 xs ls → Paired (fun x y => ∃ l t g, LtrAt H2 x l ∧ y = .ref t ∧ H3 t = some (.tup [.int l.num, .ref g]) ∧ H3 g = some (.tup (l.sg.map V.str))) xs ys →
        ∃ (ps : List Addr) (kvs : List (Key × V)), ys = ps.map V.ref ∧ Paired (fun p kv => SqT K H3 p [kV kv.1, kv.2]) ps kvs ∧ KvsAt H3 kvs ls := by
      intro xs ys ls h
      induction h generalizing ys with
      | nil =>
        intro p
        cases p
        exact ⟨[], [], rfl, .nil, .nil⟩
      | cons a b ih =>
        intro p
        cases p with
        | cons c d =>
          obtain ⟨ps, kvs, h1, h2, h3⟩ := ih d
          obtain ⟨l, t, g, a1, a2, a3, a4⟩ := c
          have e := a.inj a1
          subst e
          refine ⟨t :: ps, (Sum.inl _, .ref g) :: kvs, by rw [List.map_cons, a2, h1], .cons (.of a3) h2, .cons ⟨rfl, g, rfl, a4⟩ h3⟩
    obtain ⟨ps, kvs, h1, h2, h3⟩ := go hx pr
    subst h1
    refine ⟨D, ps, kvs, rfl, .of hL, h2, fun p np => ?_⟩
    have e4 := Evl.Ex.new (o := .dK (mergeK [] kvs)) np
    refine k _ _ ((e2.trans e3).trans e4) ⟨p, kvs, rfl, free ((e1.trans e2).trans e3) np, ?_, KvsAt.mono (fun g zs hg => e4 _ _ hg) h3⟩
    rw [upd_same, h3.merge nd]
end
theorem scLaw : FnScope ["_law_script", "_law_cell", "_law_well_here", "_law_folder_here", "_law_one_here", "_law_known", "_law_counts", "_law_went", "_law_changed", "_law_touched", "_law_k", "_law_deed_here", "_law_ahead", "_law_after", "_law_new", "_law_other", "_law_now", "_law_words", "_law_still", "_law_same", "_law_letter", "_law_number"] ["_law_script"] (C8.fnScope sLaw) := ⟨rfl, rfl, rfl, by decide +kernel, rfl, by decide +kernel, by decide +kernel⟩
end K59
/-! K59T: one turn of the law's inner loop. -/
namespace K59
open PySem PySem.Spec PyProof.Rows L2 K59S
open Evl (Ex Ev EvT)
abbrev nLaw : List Str := ["_law_script", "_law_cell", "_law_well_here", "_law_folder_here", "_law_one_here", "_law_known", "_law_counts", "_law_went", "_law_changed", "_law_touched", "_law_k", "_law_deed_here", "_law_ahead", "_law_after", "_law_new", "_law_other", "_law_now", "_law_words", "_law_still", "_law_same", "_law_letter", "_law_number"]
def forBody : Stmt → List Stmt
  | .For _ _ b _ _ => b
  | _ => []
def nthS (l : List Stmt) (i : Nat) : Stmt := match l[i]? with
  | some s => s
  | none => .Pass default
def outerB : List Stmt := forBody (nthS (C8.fnBody sLaw) 0)
def turnB : List Stmt := forBody (nthS outerB 5)
/-- all but p and q is as it was -/
def Exc (p q : Addr) (H H' : Hp) : Prop := ∀ b o, b ≠ p → b ≠ q → H b = some o → H' b = some o
theorem Exc.refl (p q : Addr) (H : Hp) : Exc p q H H := fun _ _ _ _ h => h
theorem Exc.trans {p q : Addr} {H H1 H2 : Hp} (a : Exc p q H H1) (b : Exc p q H1 H2) : Exc p q H H2 := fun x o n m h => b x o n m (a x o n m h)
theorem Exc.of {p q : Addr} {H H' : Hp} (e : Ex H H') : Exc p q H H' := fun b o _ _ h => e b o h
theorem Exc.ofb {p q : Addr} {H H' : Hp} (e : Exb p H H') : Exc p q H H' := fun b o n _ h => e b o n h
theorem Exc.put {p q : Addr} {H : Hp} {o : HO} : Exc p q H (upd H q o) := fun b u _ n h => by
  rw [upd_ne n]
  exact h
theorem lock_ex {d : Addr} {H H' : Hp} {u v : HO} (h : H d = some u) (e : Ex (upd H d v) H') : Ex H (upd H' d u) := fun b o hb => by
  by_cases c : b = d
  · subst c
    rw [upd_same, ← h, hb]
  · rw [upd_ne c]
    exact e b o (by rw [upd_ne c]; exact hb)
structure TurnAt (C p cl : Addr) (F0 : Fol) (v0 v1 v4 v5 : Option V) (Hs : Hp) (n0 : Int) (i : Nat) (σ : L2.St) (H : Hp) : Prop where
  ex : ∃ (q tl : Addr) (F : Fol) (n' went changed : Int) (touched counts : List Int) (a b c d e f g h j k l m : Option V),
    σ = [v0, v1, some (.ref p), some (.ref q), v4, v5, some (.ref cl), some (.int went), some (.int changed), some (.ref tl), a, b, c, d, e, f, g, h, j, k, l, m] ∧
    Exc p cl Hs H ∧ WellAt H p n' ∧ n' ≤ n0 + 20 * i ∧ H cl = some (.lst (counts.map V.int)) ∧ cl ≠ p ∧ tl ≠ p ∧ tl ≠ cl ∧ H tl = some (.lst (touched.map V.int)) ∧ FolAt C H q F ∧ FB F (12 + i) ∧ Cnt F0 F went changed touched counts ∧ counts.length ≤ i + 1
theorem Exb.ne {p b : Addr} {H H' : Hp} {o : HO} (e : Exb p H H') (n : b ≠ p) (h : H b = some o) : H' b = some o := e b o n h
section
variable {P : Program} {w : World} {K : PySem.W.Frag} {mg : Str → Option Value} {base : Heap} {C d : Addr} {es : Array DictEntry} {n : Nat}
theorem turn_ok {f : Addr} {cdv : Value} {A : Around} {outer : List Env} {s : Shared} {H0 : Hp} {E : XK}
    (hr : Room 10 (A.deeper (envOfC "law" (C8.fnScope sLaw) s.heap.objs.size f cdv))) (T : Txt K mg C)
    (c_law_deed : C8.Cal P w K mg base 4 "_law_deed" (spDeed C) []) (c_played : C8.Cal P w K mg base 9 "played" (spPlayed C) []) (c_letters : C8.Met P w K mg base 1 C "letters" (spLetters C) []) :
    ∃ tb, PSs (cxOf C8.CX0 P w K mg base nLaw "law" (C8.fnScope sLaw) f cdv A outer s H0 E).nox turnB tb ∧
      ∀ (D : Ends) (p cl : Addr) (F0 : Fol) (v0 v1 v4 v5 : Option V) (Hs : Hp) (n0 : Int) (i : Nat) (σ : L2.St) (H : Hp), Inv F0 → n0 ≤ 2000 → i < 41 → TurnAt C p cl F0 v0 v1 v4 v5 Hs n0 i σ H →
        (∀ σ' H', TurnAt C p cl F0 v0 v1 v4 v5 Hs n0 (i + 1) σ' H' → D.nx σ' H') → tb D σ H := by
  have hu := hu_of hr
  refine ⟨_, (pss_cons (ps_set (i := 11) scLaw.nd rfl (Or.inl rfl) (C8.pe_c c_law_deed hr (by decide) (by rfl) (pa_cons (pv 2) (pa_cons (pv 3) pa_nil))))
        (pss_cons (ps_set (i := 12) scLaw.nd rfl (Or.inr rfl) (pe_callTy (cr_dictP rfl) (by rfl) T.dict (by decide +kernel) (pa_cons (pe_lc (own := [("_law_letter", 20)]) (g := gName 20) (tt := tYes) rfl scLaw.nd (pi_list (C8.pe_mt0 c_letters hr (by decide) (pv 3))) (blkOk_by (N := ["_law_script", "_law_cell", "_law_well_here", "_law_folder_here", "_law_one_here", "_law_known", "_law_counts", "_law_went", "_law_changed", "_law_touched", "_law_k", "_law_deed_here", "_law_ahead", "_law_after", "_law_new", "_law_other", "_law_now", "_law_words", "_law_still", "_law_same", "_law_letter", "_law_number"]) (sc := C8.fnScope sLaw) (by decide +kernel)) (fun _ _ _ _ _ => pg_name (i := 20) scLaw.nd rfl (Or.inl rfl)) (fun _ _ _ _ _ => pts_nil) (fun _ _ _ _ _ => (pe_tup (pa_cons (pe_ix (ixT (K := K)) (pv 20) pe_int (fun _ _ => rfl)) (pa_cons (pe_ix (ixT (K := K)) (pv 20) pe_int (fun _ _ => rfl)) pa_nil))))) pa_nil)))
        (pss_cons (ps_set (i := 3) scLaw.nd rfl (Or.inl rfl) (C8.pe_c c_played hr (by decide) (by rfl) (pa_cons (pv 3) (pa_cons (pe_lst (pa_cons (pv 11) pa_nil)) pa_nil))))
        (pss_cons (ps_set (i := 13) scLaw.nd rfl (Or.inr rfl) (pe_callTy (cr_dictP rfl) (by rfl) T.dict (by decide +kernel) (pa_cons (pe_lc (own := [("_law_letter", 20)]) (g := gName 20) (tt := tYes) rfl scLaw.nd (pi_list (C8.pe_mt0 c_letters hr (by decide) (pv 3))) (blkOk_by (N := ["_law_script", "_law_cell", "_law_well_here", "_law_folder_here", "_law_one_here", "_law_known", "_law_counts", "_law_went", "_law_changed", "_law_touched", "_law_k", "_law_deed_here", "_law_ahead", "_law_after", "_law_new", "_law_other", "_law_now", "_law_words", "_law_still", "_law_same", "_law_letter", "_law_number"]) (sc := C8.fnScope sLaw) (by decide +kernel)) (fun _ _ _ _ _ => pg_name (i := 20) scLaw.nd rfl (Or.inl rfl)) (fun _ _ _ _ _ => pts_nil) (fun _ _ _ _ _ => (pe_tup (pa_cons (pe_ix (ixT (K := K)) (pv 20) pe_int (fun _ _ => rfl)) (pa_cons (pe_ix (ixT (K := K)) (pv 20) pe_int (fun _ _ => rfl)) pa_nil))))) pa_nil)))
        (pss_cons (ps_set (i := 7) scLaw.nd rfl (Or.inl rfl) (pe_op op_add (pv 7) (pe_callB call_len_seq (by rfl) T.len (by decide +kernel) (pa_cons (pe_lock (pe_lc (own := [("_law_number", 21)]) (g := gName 21) rfl scLaw.nd (pi_keys (pv 12)) (blkOk_by (N := ["_law_script", "_law_cell", "_law_well_here", "_law_folder_here", "_law_one_here", "_law_known", "_law_counts", "_law_went", "_law_changed", "_law_touched", "_law_k", "_law_deed_here", "_law_ahead", "_law_after", "_law_new", "_law_other", "_law_now", "_law_words", "_law_still", "_law_same", "_law_letter", "_law_number"]) (sc := C8.fnScope sLaw) (by decide +kernel)) (fun _ _ _ _ _ => pg_name (i := 21) scLaw.nd rfl (Or.inl rfl)) (fun _ _ _ _ _ => (pts_one (pt_cmp (pc_dnotin hu (pv 21) (pv 13))))) (fun _ _ _ _ _ => (pv 21)))) pa_nil))))
        (pss_cons (ps_lock (ps_setLc (i := 14) (own := [("_law_number", 21)]) (g := gName 21) rfl scLaw.nd rfl rfl (sw_true rfl rfl rfl (by decide +kernel)) (pi_keys (pv 12)) (blkOk_by (N := ["_law_script", "_law_cell", "_law_well_here", "_law_folder_here", "_law_one_here", "_law_known", "_law_counts", "_law_went", "_law_changed", "_law_touched", "_law_k", "_law_deed_here", "_law_ahead", "_law_after", "_law_new", "_law_other", "_law_now", "_law_words", "_law_still", "_law_same", "_law_letter", "_law_number"]) (sc := C8.fnScope sLaw) (by decide +kernel)) (fun _ _ _ _ _ => pg_name (i := 21) scLaw.nd rfl (Or.inl rfl)) (fun _ _ _ _ _ => (pts_one (pt_cmpR (neDK (K := K) hr.units) (pe_dget2 hu (pv 13) (pv 21) (pe_dget hu (pv 12) (pv 21) (fun _ _ => rfl)) ⟨rfl, rfl, rfl, rfl⟩) (pe_dget hu (pv 12) (pv 21) (fun _ _ => rfl)) (nomark _)))) (fun _ _ _ _ _ => (pv 21))))
        (pss_cons (ps_asg (pe_tup (pa_cons (pe_op op_add (pv 8) (pe_callB call_len_seq (by rfl) T.len (by decide +kernel) (pa_cons (pv 14) pa_nil))) (pa_cons (pe_op op_cat (pv 9) (pv 14)) pa_nil))) (pg_tup (by rfl) (pgs_cons (pg_name (i := 8) scLaw.nd rfl (Or.inl rfl)) (pgs_cons (pg_name (i := 9) scLaw.nd rfl (Or.inr rfl)) pgs_nil))))
        (pss_one (ps_expr (pe_bm PySem.F.plainAttrs_list PySem.F.slot_list_append PySem.F.type_list_append mt_append (pv 6) (pa_cons (pe_callB call_lenD (by rfl) T.len (by decide +kernel) (pa_cons (pv 13) pa_nil)) pa_nil))))))))))), ?_⟩
  rintro D p cl F0 v0 v1 v4 v5 Hs n0 i σ H I0 hn0 hi ⟨q, tl, F, n', went, changed, touched, counts, xa, xb, xc, xd, xe, xf, xg, xh, xj, xk, xl, xm, rfl, ex, hw, hn, hcl, clp, tlp, tlc, htl, hF, fb, cn, cle⟩ kk
  have u1 := fb.up
  obtain ⟨xs5, hx5⟩ := hw.lst
  refine ⟨_, rfl, _, rfl, p, q, n', F, rfl, hw, by omega, hF, fb.inv.up, by omega, fun dv n6 H6 b6 w6 l6 hd => ?_⟩
  have hF6 := hF.keep hx5 b6
  have hcl6 := b6.ne clp hcl
  have htl6 := b6.ne tlp htl
  have ex6 := ex.trans (Exc.ofb b6)
  refine ev_dict (σ := _) rfl hF6 fb.inv.nd (by have := fb.len; omega) (fun _ => rfl) (fun _ => rfl) _ (Evl.Ex.refl _) _ fun v H7 e7 ⟨d1, kvs1, hv, f1, h1, k1⟩ => ?_
  subst hv
  have hd7 := hd.mono e7
  refine ⟨_, rfl, _, rfl, by show 1 ≤ sizeLine; decide, fun l nl => ?_⟩
  have e8 := Evl.Ex.new (o := .lst [dv]) nl
  refine ⟨q, l, dv, F, rfl, (hF6.mono e7).mono e8, fb.fine (by omega), upd_same, hd7.mono e8, fun q2 G H9 e9 hG st => ?_⟩
  have e79 := e8.trans e9
  have e69 := e7.trans e79
  have fbG := fb.step (by omega) st
  have k19 : KvsAt H9 kvs1 F.ls := k1.mono fun g zs hg => e79 _ _ hg
  have h19 := e79 _ _ h1
  refine ev_dict (σ := _) rfl hG fbG.inv.nd (by have := fbG.len; omega) (fun _ => rfl) (fun _ => rfl) _ (Evl.Ex.refl _) _ fun v H10 e10 ⟨d2, kvs2, hv, f2, h2, k2⟩ => ?_
  subst hv
  have k110 : KvsAt H10 kvs1 F.ls := k19.mono fun g zs hg => e10 _ _ hg
  have h110 := e10 _ _ h19
  have ne21 : d2 ≠ d1 := fun e => by rw [e, h19] at f2; cases f2
  have xs1 : kvs1.map (fun kv => kV kv.1) = (nums F).map V.int := k110.vals
  have few1 : (kvs1.map (fun kv => kV kv.1)).length ≤ 100000 := by rw [List.length_map, k110.length]; have := fb.len; omega
  -- went
  refine ⟨_, rfl, d1, _, h110, trivial, fun od => ⟨_, rfl, d1, od, rfl, .inl ⟨kvs1, upd_same, fun D1 fD1 => ?_⟩⟩⟩
  refine lc_gen (xs := kvs1.map (fun kv => kV kv.1)) (walk_keys.mono (fun _ h => h) fun i H x H' hi _ y => ⟨y.1, by obtain ⟨_, k, v, h1, h2⟩ := y; rw [List.getElem?_map, h1, h2]; rfl⟩) (List.length_map _).symm few1 fD1 (fun H' e => e _ _ upd_same)
    (fun x => !decide (intOf x ∈ nums G)) (fun x y _ => y = x) (fun _ _ _ _ _ _ _ e => e) (fun _ => rfl) (fun x hx => ?_) (fun x hx _ => ?_) fun ys H11 e11 hL pr => ?_
  · rw [xs1] at hx
    obtain ⟨y, hy, rfl⟩ := List.mem_map.mp hx
    refine fun H' e' Q k => ⟨_, rfl, _, rfl, d2, _, rfl, .inl ⟨kvs2, Sum.inl y, .inl (e' _ _ (by rw [upd_ne ne21]; exact h2)), rfl, rfl⟩, _, rfl, ?_⟩
    have e : (!(valV kvs2 (Sum.inl y)).isSome) = !decide (intOf (V.int y) ∈ nums G) := by
      have fm := find_mem (G := G) (n := y)
      show _ = !decide (y ∈ nums G)
      rcases k2.find y with ⟨a1, a2⟩ | ⟨l, g, a1, a2, _⟩
      · rw [← fm, a1, a2]
        rfl
      · rw [← fm, a1, a2]
        rfl
    rw [e]
    exact k H' (Evl.Ex.refl H')
  · exact fun H' e' Q k => ⟨_, rfl, k _ H' (Evl.Ex.refl H') rfl⟩
  rw [xs1] at pr
  have pr := paired_fn (f := fun x => x) pr
  rw [gone_keys, List.map_id'] at pr
  subst pr
  have ne11 : D1 ≠ d1 := fun e => by rw [e, upd_same] at fD1; cases fD1
  have eL := lock_ex h110 e11
  refine ⟨e11 _ _ upd_same, D1, _, rfl, .inl (.of (by rw [upd_ne ne11]; exact hL)), _, _, rfl, rfl, ?_⟩
  rw [List.length_map]
  have h111 := eL _ _ h110
  have h211 := eL _ _ h2
  have k111 : KvsAt _ kvs1 F.ls := k110.mono fun g zs hg => eL _ _ hg
  have k211 : KvsAt _ kvs2 G.ls := k2.mono fun g zs hg => eL _ _ hg
  have e611 := e69.trans (e10.trans eL)
  generalize upd H11 d1 (HO.dK kvs1) = H12 at eL h111 h211 k111 k211 e611
  -- new
  refine ⟨d1, _, h111, trivial, fun od => ⟨_, rfl, d1, od, rfl, .inl ⟨kvs1, upd_same, fun D2 fD2 => ?_⟩⟩⟩
  refine lc_gen (xs := kvs1.map (fun kv => kV kv.1)) (walk_keys.mono (fun _ h => h) fun i H x H' hi _ y => ⟨y.1, by obtain ⟨_, k, v, h1, h2⟩ := y; rw [List.getElem?_map, h1, h2]; rfl⟩) (List.length_map _).symm few1 fD2 (fun H' e => e _ _ upd_same)
    (fun x => chgN F G (intOf x)) (fun x y _ => y = x) (fun _ _ _ _ _ _ _ e => e) (fun _ => rfl) (fun x hx => ?_) (fun x hx _ => ?_) fun ys H13 e13 hL2 pr => ?_
  · rw [xs1] at hx
    obtain ⟨y, hy, rfl⟩ := List.mem_map.mp hx
    refine fun H' e' Q k => ?_
    have h1' := e' _ _ upd_same
    have h2' := e' _ _ (show upd H12 d1 (.frz od (.dK kvs1)) d2 = some (.dK kvs2) by rw [upd_ne ne21]; exact h211)
    have el' := lock_ex h111 e'
    obtain ⟨l, g, a1, a2, a3⟩ : ∃ l g, F.ls.find? (fun x => decide (x.num = y)) = some l ∧ valV kvs1 (Sum.inl y) = some (.ref g) ∧ H' g = some (.tup (l.sg.map V.str)) := by
      rcases k111.find y with ⟨b1, _⟩ | ⟨l, g, b1, b2, b3⟩
      · have fm := find_mem (G := F) (n := y)
        rw [b1, decide_eq_true hy] at fm
        cases fm
      · exact ⟨l, g, b1, b2, e' _ _ (by rw [upd_ne (ne_of b3 h111 (fun z => nomatch z))]; exact b3)⟩
    have okl : SeqAt.shaped (txD l.sg) = true := tx_shaped (fb.inv.sgb l (List.mem_of_find?_eq_some a1)).2
    refine ⟨_, rfl, d2, rfl, .inl ⟨kvs2, .inl h2'⟩, _, rfl, _, rfl, _, rfl, d1, _, rfl, .inl ⟨kvs1, Sum.inl y, .inr ⟨od, h1'⟩, rfl, a2.symm⟩, _, .inl ⟨kvs2, Sum.inl y, .inl h2', rfl, rfl⟩, ?_⟩
    refine ⟨_, rfl, _, rfl, d1, _, rfl, .inl ⟨kvs1, Sum.inl y, .inr ⟨od, h1'⟩, rfl, a2.symm⟩, ?_⟩
    have ec : chgN F G y = match G.ls.find? (fun x => decide (x.num = y)) with | some m => !decide (m.sg = l.sg) | none => false := by
      unfold chgN
      rw [a1]
      cases G.ls.find? (fun x => decide (x.num = y)) <;> rfl
    rcases k211.find y with ⟨b1, b2⟩ | ⟨m, gm, b1, b2, b3⟩
    · rw [b1] at ec
      rw [b2]
      refine ⟨_, _, dp_tx a3, dp_tx a3, okl, okl, ?_⟩
      rw [tx_eq, decide_eq_true rfl]
      have k := k H' (Evl.Ex.refl H')
      rw [show chgN F G (intOf (V.int y)) = false from ec] at k
      exact ⟨_, rfl, k⟩
    · rw [b1] at ec
      rw [b2]
      have b3' := e' _ _ (show upd H12 d1 (.frz od (.dK kvs1)) gm = some (.tup (m.sg.map V.str)) by rw [upd_ne (ne_of b3 h111 (fun z => nomatch z))]; exact b3)
      refine ⟨_, _, dp_tx b3', dp_tx a3, tx_shaped (fbG.inv.sgb m (List.mem_of_find?_eq_some b1)).2, okl, ?_⟩
      rw [tx_eq]
      have k := k H' (Evl.Ex.refl H')
      rw [show chgN F G (intOf (V.int y)) = !decide (m.sg = l.sg) from ec] at k
      exact ⟨_, rfl, k⟩
  · exact fun H' e' Q k => ⟨_, rfl, k _ H' (Evl.Ex.refl H') rfl⟩
  rw [xs1] at pr
  have pr := paired_fn (f := fun x => x) pr
  rw [new_keys fb.inv.nd, List.map_id'] at pr
  subst pr
  have ne12 : D2 ≠ d1 := fun e => by rw [e, upd_same] at fD2; cases fD2
  have fD2' : H12 D2 = none := by rw [upd_ne ne12] at fD2; exact fD2
  have eL2 := lock_ex h111 e13
  refine ⟨e13 _ _ upd_same, ?_⟩
  have hD2 : (upd H13 d1 (HO.dK kvs1)) D2 = some (.lst ((newL F G).map V.int)) := by rw [upd_ne ne12]; exact hL2
  have h213 := eL2 _ _ h211
  have e613 := e611.trans eL2
  generalize upd H13 d1 (HO.dK kvs1) = H14 at eL2 h213 e613 hD2
  have htl14 := e613 _ _ htl6
  have hcl14 := e613 _ _ hcl6
  have gl := goneL_le F G
  have nl2 := newL_le F G
  refine ⟨_, rfl, _, rfl, D2, _, rfl, .inl (.of hD2), _, _, rfl, rfl, ?_⟩
  refine ⟨_, rfl, _, rfl, tl, D2, _, _, rfl, rfl, htl14, hD2, ?_, fun np nnp => ⟨by show 2 ≤ sizeLine; decide, fun t nt => ⟨t, _, rfl, .of upd_same, rfl, _, _, rfl, _, _, rfl, rfl, ?_⟩⟩⟩
  · have tb := cn.lat
    have tt := cn.tou
    have t3 := cn.w0
    have t4 := cn.up
    have t5 := fb.lat
    have t6 := I0.lat0
    have t7 := fb.len
    rw [List.length_map, List.length_map]
    show touched.length + (newL F G).length ≤ sizeLine
    have : touched.length + (newL F G).length ≤ 100000 := by omega
    exact Nat.le_trans this (by decide)
  have e15 := Evl.Ex.new (o := .lst (touched.map V.int ++ (newL F G).map V.int)) nnp
  have e16 := Evl.Ex.new (o := .tup [V.int (changed + (((newL F G).map V.int).length : Int)), V.ref np]) nt
  have e616 := e613.trans (e15.trans e16)
  have hcl16 := (e15.trans e16) _ _ hcl14
  have h216 := (e15.trans e16) _ _ h213
  have hnp16 := e16 np (.lst ((touched ++ newL F G).map V.int)) (by rw [List.map_append]; exact upd_same)
  have npcl : np ≠ cl := fun e => by rw [e, hcl14] at nnp; cases nnp
  have npp : np ≠ p := fun e => by
    obtain ⟨xs, hx⟩ := w6.lst
    rw [e, e613 _ _ hx] at nnp
    cases nnp
  have w16 := w6.mono e616
  have hG16 := hG.mono (e10.trans (eL.trans (eL2.trans (e15.trans e16))))
  rw [List.length_map] at *
  generalize upd (upd H14 np _) t _ = H16 at e616 hcl16 h216 hnp16 w16 hG16
  refine ⟨_, rfl, .inl ⟨rfl, _, .of hcl16⟩, _, rfl, d2, kvs2, rfl, h216, cl, _, _, rfl, rfl, hcl16, ?_, ?_⟩
  · rw [List.length_map]
    have : counts.length ≤ 100000 := by omega
    exact Nat.lt_of_le_of_lt this (by decide)
  rw [k2.length]
  obtain ⟨xs16, hx16⟩ := w16.lst
  refine kk _ _ ⟨q2, np, G, n6, went + ((goneL F G).length : Int), changed + ((newL F G).length : Int), touched ++ newL F G, counts ++ [(G.ls.length : Int)], _, _, _, _, _, _, _, _, _, _, _, _, rfl, ?_, ?_, by omega, ?_, clp, npp, npcl, ?_, ?_, fbG, cn.more I0.nd st, by rw [List.length_append]; show counts.length + 1 ≤ _; omega⟩
  · exact (ex6.trans (Exc.of e616)).trans Exc.put
  · obtain ⟨a1, a2, a3, a4⟩ := w16
    exact ⟨a1, a2, by rw [upd_ne clp.symm]; exact a3, a4⟩
  · rw [upd_same, List.map_append]
    rfl
  · rw [upd_ne npcl]
    exact hnp16
  · exact hG16.keep hcl16 (Exb.put (Exb.refl _ _))
end
end K59
/-! K59U: what the law asks behind its inner loop. -/
namespace K59
open PySem PySem.Spec PyProof.Rows L2 K59S
open Evl (Ex Ev EvT)
def tailB : List Stmt := outerB.drop 6
theorem cr_minQ {X : Cx} {K : PySem.W.Frag} (hc : X.calm = true) (e : X.K = K := by rfl) : CallR X (.builtin "min") (rMin K) := by
  subst e
  exact cr_min hc
theorem cr_maxQ {X : Cx} {K : PySem.W.Frag} (hc : X.calm = true) (e : X.K = K := by rfl) : CallR X (.builtin "max") (rMax K) := by
  subst e
  exact cr_max hc
theorem inSeqK {X : Cx} {K : PySem.W.Frag} (e : X.K = K := by rfl) : OpR X (compareOp .In) (rIn K false) := by
  subst e
  exact op_in_seq
theorem notInSeqK {X : Cx} {K : PySem.W.Frag} (e : X.K = K := by rfl) : OpR X (compareOp .NotIn) (rIn K true) := by
  subst e
  exact op_notIn_seq
theorem in_ints (z : Int) : ∀ zs : List Int, inV (.int z) (zs.map V.int) = decide (z ∈ zs)
  | [] => rfl
  | y :: zs => by
    have ih := in_ints z zs
    show (eqV (.int y) (.int z) || inV (.int z) (zs.map V.int)) = _
    rw [ih]
    show ((y == z) || decide (z ∈ zs)) = _
    by_cases e : y = z
    · simp [e]
    · have e2 : ¬ z = y := fun q => e q.symm
      simp [e, e2]
theorem flat_ints : ∀ zs : List Int, (zs.map V.int).all flatV = true
  | [] => rfl
  | z :: zs => by
    show (true && (zs.map V.int).all flatV) = true
    rw [flat_ints zs]
    rfl
theorem keep_ints (p : Int → Bool) (zs : List Int) : ((zs.map V.int).filter fun x => p (intOf x)) = (zs.filter p).map V.int := by
  rw [List.filter_map]
  rfl
theorem sgt_ok {F : Fol} (I : Inv F) : SgtOk (sgtOf F) := by
  have h1 := I.len
  have h2 := I.lat
  exact ⟨I.age, by show (0 : Int) ≤ (F.ls.length : Int); omega, by show (F.ls.length : Int) < F.up; omega, I.lat0, I.lat, I.none⟩
theorem cnt_btw {F0 F : Fol} {went changed : Int} {touched counts : List Int} (c : Cnt F0 F went changed touched counts) : Btw (sgtOf F0) (sgtOf F) (F.up - F0.up) went changed := by
  have h1 := c.len
  have h2 := c.lat
  have h3 := c.up
  refine ⟨c.age.symm, rfl, ?_, ?_, by omega, c.w0, c.chg0, fun h => c.some h⟩
  · show (F0.ls.length : Int) + (F.up - F0.up) - (F.ls.length : Int) = went
    omega
  · show F.lat - F0.lat - (F.up - F0.up) - went = changed
    omega
def d3 (a b c : Int) : PyData := .tuple [.int a, .int b, .int c]
theorem d3_eq (a b c : Int) : PyData.eqv (d3 a b c) (d3 a b c) = true := by
  unfold d3
  simp [PyData.eqv, PyData.eqvAll]
theorem d3_ok (a b c : Int) : SeqAt.shaped (d3 a b c) = true := by
  unfold d3
  refine shaped_of ?_ ?_
  · simp [PyData.canLay0, PyData.canLayAll0]
  · simp [PyData.depth, PyData.depthAll]
theorem d3_at {K : PySem.W.Frag} {H : Hp} {p : Addr} {a b c : Int} (h : H p = some (.tup [.int a, .int b, .int c])) : Dp K H (.ref p) (d3 a b c) := .tup (.of h) (.cons (.int _) (.cons (.int _) (.cons (.int _) .nil)))
structure TailAt (C p cl : Addr) (so kl : Addr) (F0 : Fol) (v0 v1 : Option V) (σ : L2.St) (H : Hp) : Prop where
  ex : ∃ (q tl : Addr) (F : Fol) (went changed : Int) (touched counts : List Int) (a b c d e f g h j k l m : Option V),
    σ = [v0, v1, some (.ref p), some (.ref q), some (.ref so), some (.ref kl), some (.ref cl), some (.int went), some (.int changed), some (.ref tl), a, b, c, d, e, f, g, h, j, k, l, m] ∧
    SgtAt H so (sgtOf F0) ∧ H kl = some (.lst ((nums F0).map V.int)) ∧ H cl = some (.lst (counts.map V.int)) ∧ H tl = some (.lst (touched.map V.int)) ∧ FolAt C H q F ∧ FB F 60 ∧ Cnt F0 F went changed touched counts
section
variable {P : Program} {w : World} {K : PySem.W.Frag} {mg : Str → Option Value} {base : Heap} {C d : Addr} {es : Array DictEntry} {n : Nat}
theorem tail_ok {f : Addr} {cdv : Value} {A : Around} {outer : List Env} {s : Shared} {H0 : Hp} {E : XK}
    (hr : Room 10 (A.deeper (envOfC "law" (C8.fnScope sLaw) s.heap.objs.size f cdv))) (T : Txt K mg C)
    (c_law_sight : C8.Cal P w K mg base 2 "_law_sight" (spSight C) []) (c_letters : C8.Met P w K mg base 1 C "letters" (spLetters C) []) (c_between : C8.Cal P w K mg base 5 "between" spBetween [])
    (c_most_at_once : C8.Cal P w K mg base 6 "most_at_once" spMost []) (c_fewest_at_once : C8.Cal P w K mg base 6 "fewest_at_once" spFewest []) (c_surely : C8.Cal P w K mg base 6 "surely" spSurely []) (c_law_fits : C8.Cal P w K mg base 1 "_law_fits" spFits []) :
    ∃ tb, PSs (cxOf C8.CX0 P w K mg base nLaw "law" (C8.fnScope sLaw) f cdv A outer s H0 E).nox tailB tb ∧
      ∀ (D : Ends) (p cl so kl : Addr) (F0 : Fol) (v0 v1 : Option V) (σ : L2.St) (H : Hp), Inv F0 → F0.ls.length ≤ 100 → TailAt C p cl so kl F0 v0 v1 σ H →
        (∀ σ' H', Ex H H' → (∃ a1 a2 a3 a4 a5 a6 a7 a8 a9 a b c d e f g h j k l m, σ' = [v0, a1, a2, a3, a4, a5, a6, a7, a8, a9, a, b, c, d, e, f, g, h, j, k, l, m]) → D.nx σ' H') → tb D σ H := by
  have hu := hu_of hr
  refine ⟨_, (pss_cons (ps_asg (pe_tup (pa_cons (C8.pe_c c_law_sight hr (by decide) (by rfl) (pa_cons (pv 3) pa_nil)) (pa_cons (pe_lc (own := [("_law_letter", 20)]) (g := gName 20) (tt := tYes) rfl scLaw.nd (pi_list (C8.pe_mt0 c_letters hr (by decide) (pv 3))) (blkOk_by (N := ["_law_script", "_law_cell", "_law_well_here", "_law_folder_here", "_law_one_here", "_law_known", "_law_counts", "_law_went", "_law_changed", "_law_touched", "_law_k", "_law_deed_here", "_law_ahead", "_law_after", "_law_new", "_law_other", "_law_now", "_law_words", "_law_still", "_law_same", "_law_letter", "_law_number"]) (sc := C8.fnScope sLaw) (by decide +kernel)) (fun _ _ _ _ _ => pg_name (i := 20) scLaw.nd rfl (Or.inl rfl)) (fun _ _ _ _ _ => pts_nil) (fun _ _ _ _ _ => (pe_ix (ixT (K := K)) (pv 20) pe_int (fun _ _ => rfl)))) pa_nil))) (pg_tup (by rfl) (pgs_cons (pg_name (i := 15) scLaw.nd rfl (Or.inl rfl)) (pgs_cons (pg_name (i := 16) scLaw.nd rfl (Or.inr rfl)) pgs_nil))))
        (pss_cons (ps_if (pt_cmpR (neDK (K := K) hr.units) (C8.pe_c c_between hr (by decide) (by rfl) (pa_cons (pv 4) (pa_cons (pv 15) pa_nil))) (pe_tup (pa_cons (pe_op op_sub (pe_ix (ixT (K := K)) (pv 15) pe_int (fun _ _ => rfl)) (pe_ix (ixT (K := K)) (pv 4) pe_int (fun _ _ => rfl))) (pa_cons (pv 7) (pa_cons (pv 8) pa_nil)))) (nomark _)) (pss_one (ps_ret pe_bl)) pss_nil)
        (pss_cons (ps_if (PW.pt (pw_or (pt_not (pt_cmpR op_le (C8.pe_c c_fewest_at_once hr (by decide) (by rfl) (pa_cons (pv 4) (pa_cons (pv 15) pa_nil))) (pe_callB (cr_minQ (K := K) rfl) (by rfl) T.min (by decide +kernel) (pa_cons (pv 6) pa_nil)) (nomark _))) (pw_or1 (pt_not (pt_cmpR op_le (pe_callB (cr_maxQ (K := K) rfl) (by rfl) T.max (by decide +kernel) (pa_cons (pv 6) pa_nil)) (C8.pe_c c_most_at_once hr (by decide) (by rfl) (pa_cons (pv 4) (pa_cons (pv 15) pa_nil))) (nomark _)))))) (pss_one (ps_ret pe_bl)) pss_nil)
        (pss_cons (ps_set (i := 17) scLaw.nd rfl (Or.inl rfl) (C8.pe_c c_surely hr (by decide) (by rfl) (pa_cons (pv 4) (pa_cons (pv 15) pa_nil))))
        (pss_cons (ps_set (i := 18) scLaw.nd rfl (Or.inl rfl) (pe_callB call_len_seq (by rfl) T.len (by decide +kernel) (pa_cons (pe_lc (own := [("_law_number", 21)]) (g := gName 21) rfl scLaw.nd (pi_list (pv 5)) (blkOk_by (N := ["_law_script", "_law_cell", "_law_well_here", "_law_folder_here", "_law_one_here", "_law_known", "_law_counts", "_law_went", "_law_changed", "_law_touched", "_law_k", "_law_deed_here", "_law_ahead", "_law_after", "_law_new", "_law_other", "_law_now", "_law_words", "_law_still", "_law_same", "_law_letter", "_law_number"]) (sc := C8.fnScope sLaw) (by decide +kernel)) (fun _ _ _ _ _ => pg_name (i := 21) scLaw.nd rfl (Or.inl rfl)) (fun _ _ _ _ _ => (pts_one (pt_cmpR (inSeqK (K := K)) (pv 21) (pv 16) rfl))) (fun _ _ _ _ _ => (pv 21))) pa_nil)))
        (pss_cons (ps_set (i := 19) scLaw.nd rfl (Or.inl rfl) (pe_callB call_len_seq (by rfl) T.len (by decide +kernel) (pa_cons (pe_lc (own := [("_law_number", 21)]) (g := gName 21) rfl scLaw.nd (pi_list (pv 5)) (blkOk_by (N := ["_law_script", "_law_cell", "_law_well_here", "_law_folder_here", "_law_one_here", "_law_known", "_law_counts", "_law_went", "_law_changed", "_law_touched", "_law_k", "_law_deed_here", "_law_ahead", "_law_after", "_law_new", "_law_other", "_law_now", "_law_words", "_law_still", "_law_same", "_law_letter", "_law_number"]) (sc := C8.fnScope sLaw) (by decide +kernel)) (fun _ _ _ _ _ => pg_name (i := 21) scLaw.nd rfl (Or.inl rfl)) (fun _ _ _ _ _ => (pts_one (pt_cmpR (notInSeqK (K := K)) (pv 21) (pv 9) rfl))) (fun _ _ _ _ _ => (pv 21))) pa_nil)))
        (pss_cons (ps_if (PW.pt (pw_or (pt_not (pt_val (C8.pe_c c_law_fits hr (by decide) (by rfl) (pa_cons (pe_ix (ixT (K := K)) (pv 17) pe_int (fun _ _ => rfl)) (pa_cons (pv 18) (pa_cons (pe_callB call_len_seq (by rfl) T.len (by decide +kernel) (pa_cons (pv 5) pa_nil)) pa_nil)))))) (pw_or1 (pt_not (pt_val (C8.pe_c c_law_fits hr (by decide) (by rfl) (pa_cons (pe_ix (ixT (K := K)) (pv 17) pe_int (fun _ _ => rfl)) (pa_cons (pv 19) (pa_cons (pe_callB call_len_seq (by rfl) T.len (by decide +kernel) (pa_cons (pv 5) pa_nil)) pa_nil))))))))) (pss_one (ps_ret pe_bl)) pss_nil)
        (pss_one (ps_if (pt_not (pt_val (C8.pe_c c_law_fits hr (by decide) (by rfl) (pa_cons (pe_ix (ixT (K := K)) (pv 17) pe_int (fun _ _ => rfl)) (pa_cons (pe_op op_sub (pe_callB call_len_seq (by rfl) T.len (by decide +kernel) (pa_cons (pv 16) pa_nil)) (pv 18)) (pa_cons (pe_callB call_len_seq (by rfl) T.len (by decide +kernel) (pa_cons (pv 16) pa_nil)) pa_nil)))))) (pss_one (ps_ret pe_bl)) pss_nil))))))))), ?_⟩
  rintro D p cl so kl F0 v0 v1 σ H I0 few0 ⟨q, tl, F, went, changed, touched, counts, xa, xb, xc, xd, xe, xf, xg, xh, xj, xk, xl, xm, rfl, hso, hkl, hcl, htl, hF, fb, cn⟩ kk
  have ok0 := sgt_ok I0
  have ok1 := sgt_ok fb.inv
  have bt := cnt_btw cn
  refine ⟨_, rfl, q, F, rfl, hF, fun so2 H1 e1 hs2 => ev_nums (σ := _) rfl (hF.mono e1) (by have := fb.len; omega) (fun _ => rfl) (fun _ => rfl) _ (Evl.Ex.refl _) _ fun v H2 e2 ⟨nl, hv, fn, hnl⟩ => ?_⟩
  subst hv
  refine ⟨by show 2 ≤ sizeLine; decide, fun t nt => ⟨t, _, rfl, .of upd_same, rfl, _, _, rfl, _, _, rfl, rfl, ?_⟩⟩
  have e3 := (e1.trans e2).trans (Evl.Ex.new (o := .tup [V.ref so2, V.ref nl]) nt)
  have hs2 := (e2.trans (Evl.Ex.new (o := .tup [V.ref so2, V.ref nl]) nt)) _ _ hs2
  have hnl := (Evl.Ex.new (o := .tup [V.ref so2, V.ref nl]) nt) _ _ hnl
  generalize upd H2 t _ = H3 at e3 hs2 hnl
  have hso := e3 _ _ hso
  have hkl := e3 _ _ hkl
  have hcl := e3 _ _ hcl
  have htl := e3 _ _ htl
  -- between
  refine ⟨_, rfl, _, rfl, so, so2, sgtOf F0, sgtOf F, F.up - F0.up, went, changed, rfl, hso, hs2, ok0, ok1, bt, fun pb H4 e4 hb => ?_⟩
  have hso := e4 _ _ hso
  have hs2 := e4 _ _ hs2
  refine ⟨_, rfl, so2, _, _, _, rfl, rfl, .of hs2, at_of (j := 2) rfl rfl, _, rfl, so, _, _, _, rfl, rfl, .of hso, at_of (j := 2) rfl rfl, _, _, rfl, rfl, _, rfl, _, rfl, by show 3 ≤ sizeLine; decide, fun t2 nt2 => ?_⟩
  have e5 := Evl.Ex.new (o := .tup [V.int (F.up - F0.up), V.int went, V.int changed]) nt2
  refine ⟨d3 (F.up - F0.up) went changed, d3 (F.up - F0.up) went changed, d3_at (e5 _ _ hb), d3_at upd_same, d3_ok _ _ _, d3_ok _ _ _, _, rfl, ?_⟩
  rw [d3_eq]
  refine iteF ?_
  have e4u := e4.trans e5
  have hso := e5 _ _ hso
  have hs2 := e5 _ _ hs2
  have hkl := e4u _ _ hkl
  have hcl := e4u _ _ hcl
  have htl := e4u _ _ htl
  have hnl := e4u _ _ hnl
  have e3 := e3.trans e4u
  have cne : 0 < (counts.length) := List.length_pos_iff.mpr cn.cne
  have w0 := cn.w0
  have u0 := cn.up
  have l0 := cn.len
  -- the fewest, the most
  refine ⟨_, rfl, _, rfl, sgtOf F0, sgtOf F, F.up - F0.up, went, changed, ⟨so, so2, rfl, hso, hs2, ok0, ok1, bt⟩, fun H6 e6 => ?_⟩
  refine ⟨_, rfl, cl, counts, rfl, .of (e6 _ _ hcl), cne, fun m1 m1i _ => ?_⟩
  refine ⟨_, _, rfl, rfl, _, rfl, iteNS ?_ ?_⟩
  · have := cn.cin m1 m1i
    show mx 0 ((F0.ls.length : Int) - went) ≤ m1
    unfold mx
    split <;> omega
  refine ⟨_, rfl, cl, counts, rfl, .of (e6 _ _ hcl), cne, fun m2 m2i _ => ?_⟩
  refine ⟨_, rfl, _, rfl, sgtOf F0, sgtOf F, F.up - F0.up, went, changed, ⟨so, so2, rfl, e6 _ _ hso, e6 _ _ hs2, ok0, ok1, bt⟩, fun H7 e7 => ?_⟩
  refine ⟨_, _, rfl, rfl, _, rfl, iteNS ?_ ?_⟩
  · have := cn.cin m2 m2i
    show m2 ≤ (F0.ls.length : Int) + (F.up - F0.up)
    omega
  have e67 := e6.trans e7
  have hso := e67 _ _ hso
  have hs2 := e67 _ _ hs2
  have hkl := e67 _ _ hkl
  have htl := e67 _ _ htl
  have hnl := e67 _ _ hnl
  have e3 := e3.trans e67
  -- the words
  refine ⟨_, rfl, _, rfl, sgtOf F0, sgtOf F, F.up - F0.up, went, changed, ⟨so, so2, rfl, hso, hs2, ok0, ok1, bt⟩, fun pw H8 e8 hw3 => ?_⟩
  have hkl := e8 _ _ hkl
  have htl := e8 _ _ htl
  have hnl := e8 _ _ hnl
  have e3 := e3.trans e8
  have kfew : ((nums F0).map V.int).length ≤ 100000 := by rw [List.length_map, nums_len]; omega
  -- still
  refine ⟨_, rfl, kl, rfl, ⟨_, .of hkl⟩, fun D1 fD1 => ?_⟩
  refine lc_gen walk_list rfl kfew fD1 (fun H' e => .of (e _ _ hkl)) (fun x => decide (intOf x ∈ nums F)) (fun x y _ => y = x) (fun _ _ _ _ _ _ _ e => e) (fun _ => rfl) (fun x hx => ?_) (fun x hx _ => ?_) fun ys H9 e9 hL pr => ?_
  · obtain ⟨y, hy, rfl⟩ := List.mem_map.mp hx
    refine fun H' e' Q k => ⟨_, rfl, _, rfl, nl, _, rfl, .inl (.of (e' _ _ hnl)), rfl, flat_ints _, _, rfl, ?_⟩
    show Q (inV (.int y) ((nums F).map V.int)) H'
    rw [in_ints]
    exact k H' (Evl.Ex.refl H')
  · exact fun H' e' Q k => ⟨_, rfl, k _ H' (Evl.Ex.refl H') rfl⟩
  have pr := paired_fn (f := fun x => x) pr
  rw [keep_ints (fun n => decide (n ∈ nums F)), List.map_id'] at pr
  subst pr
  refine ⟨D1, _, rfl, .inl (.of hL), ?_⟩
  rw [List.length_map]
  have hkl := e9 _ _ hkl
  have htl := e9 _ _ htl
  have hnl := e9 _ _ hnl
  have hw3 := e9 _ _ hw3
  have e3 := e3.trans e9
  -- same
  refine ⟨_, rfl, kl, rfl, ⟨_, .of hkl⟩, fun D2 fD2 => ?_⟩
  refine lc_gen walk_list rfl kfew fD2 (fun H' e => .of (e _ _ hkl)) (fun x => !decide (intOf x ∈ touched)) (fun x y _ => y = x) (fun _ _ _ _ _ _ _ e => e) (fun _ => rfl) (fun x hx => ?_) (fun x hx _ => ?_) fun ys H10 e10 hL2 pr => ?_
  · obtain ⟨y, hy, rfl⟩ := List.mem_map.mp hx
    refine fun H' e' Q k => ⟨_, rfl, _, rfl, tl, _, rfl, .inl (.of (e' _ _ htl)), rfl, flat_ints _, _, rfl, ?_⟩
    show Q (!inV (.int y) (touched.map V.int)) H'
    rw [in_ints]
    exact k H' (Evl.Ex.refl H')
  · exact fun H' e' Q k => ⟨_, rfl, k _ H' (Evl.Ex.refl H') rfl⟩
  have pr := paired_fn (f := fun x => x) pr
  rw [keep_ints (fun n => !decide (n ∈ touched)), List.map_id'] at pr
  subst pr
  refine ⟨D2, _, rfl, .inl (.of hL2), ?_⟩
  rw [List.length_map]
  have hkl := e10 _ _ hkl
  have hnl := e10 _ _ hnl
  have hw3 := e10 _ _ hw3
  have e3 := e3.trans e10
  have stl := cn.still
  have stm := cn.still_most I0
  have sam := cn.same I0
  have chg := cn.chg0
  -- fits
  refine ⟨_, rfl, pw, _, _, _, rfl, rfl, .of hw3, at_of (j := 0) rfl rfl, _, rfl, _, rfl, kl, _, rfl, .inl (.of hkl), _, _, _, rfl, ?_, fun H11 e11 => ⟨_, rfl, iteF ?_⟩⟩
  · rw [List.length_map, nums_len]
    refine fits_word (most := mn (F0.ls.length : Int) (F.ls.length : Int)) ?_ ?_ ?_ ?_
    · show mx 0 ((F0.ls.length : Int) - went) ≤ _
      unfold mx
      split <;> omega
    · unfold mn
      split <;> omega
    · show mn (F0.ls.length : Int) (F.ls.length : Int) ≤ (F0.ls.length : Int)
      unfold mn
      split <;> omega
    · show 0 ≤ mx 0 ((F0.ls.length : Int) - went)
      unfold mx
      split <;> omega
  have hkl := e11 _ _ hkl
  have hnl := e11 _ _ hnl
  have hw3 := e11 _ _ hw3
  have e3 := e3.trans e11
  refine ⟨_, rfl, pw, _, _, _, rfl, rfl, .of hw3, at_of (j := 1) rfl rfl, _, rfl, _, rfl, kl, _, rfl, .inl (.of hkl), _, _, _, rfl, ?_, fun H12 e12 => ⟨_, rfl, iteF ?_⟩⟩
  · rw [List.length_map, nums_len]
    refine fits_word (most := (F0.ls.length : Int) - touchedOf (F.up - F0.up) changed) ?_ ?_ ?_ ?_
    · show mx 0 ((F0.ls.length : Int) - changed) ≤ _
      unfold mx
      split <;> omega
    · exact sam.2
    · show (F0.ls.length : Int) - touchedOf (F.up - F0.up) changed ≤ (F0.ls.length : Int)
      unfold touchedOf
      split <;> omega
    · show 0 ≤ mx 0 ((F0.ls.length : Int) - changed)
      unfold mx
      split <;> omega
  have hnl := e12 _ _ hnl
  have hw3 := e12 _ _ hw3
  have e3 := e3.trans e12
  refine ⟨_, rfl, pw, _, _, _, rfl, rfl, .of hw3, at_of (j := 2) rfl rfl, _, rfl, nl, _, rfl, .inl (.of hnl), _, rfl, _, _, rfl, rfl, _, rfl, nl, _, rfl, .inl (.of hnl), _, _, _, rfl, ?_, fun H13 e13 => ⟨_, rfl, iteF ?_⟩⟩
  · rw [List.length_map, nums_len]
    refine fits_word (most := (F.ls.length : Int) - mx 0 ((F0.ls.length : Int) - went)) ?_ ?_ ?_ ?_
    · show (F.ls.length : Int) - mn (F0.ls.length : Int) (F.ls.length : Int) ≤ _
      unfold mn
      split <;> omega
    · unfold mx
      split <;> omega
    · show (F.ls.length : Int) - mx 0 ((F0.ls.length : Int) - went) ≤ (F.ls.length : Int)
      unfold mx
      split <;> omega
    · show 0 ≤ (F.ls.length : Int) - mn (F0.ls.length : Int) (F.ls.length : Int)
      unfold mn
      split <;> omega
  exact kk _ _ (e3.trans e13) ⟨_, _, _, _, _, _, _, _, _, _, _, _, _, _, _, _, _, _, _, _, _, rfl⟩
end
end K59
/-! K59V: the law. -/
namespace K59
open PySem PySem.Spec PyProof.Rows L2 K59S
open Evl (Ex Ev EvT)
theorem sq_ex {K : PySem.W.Frag} {H H' : Hp} {a : Addr} {xs : List V} (e : Ex H H') (h : SqL K H a xs) : SqL K H' a xs := by
  rcases h with h | h
  · rcases h with h | ⟨o, h⟩
    · exact .inl (.inl (e _ _ h))
    · exact .inl (.inr ⟨o, e _ _ h⟩)
  · exact .inr h
theorem cut_ints {ns : List Int} {lo hi : Option Int} : ∀ x ∈ cutV (ns.map V.int) lo hi, ∃ z, x = V.int z := fun x hx => by
  unfold cutV at hx
  obtain ⟨z, _, e⟩ := List.mem_map.mp (List.mem_of_mem_drop (List.mem_of_mem_take hx))
  exact ⟨z, e.symm⟩
theorem gname_go {i : Nat} {v : V} {σ : L2.St} {H : Hp} {Q : L2.St → Hp → Prop} (h : Q (σ.set i (some v)) H) : gName i v σ H Q := h
theorem seq_go {a b : TS} {D : Ends} {σ : L2.St} {H : Hp} (h : a { D with nx := b D } σ H) : tSeq a b D σ H := h
theorem asg_go {te : TE} {g : TG} {D : Ends} {σ : L2.St} {H : Hp} (h : te σ H fun v H1 => g v σ H1 D.nx) : tAsg te g D σ H := h
section
variable {P : Program} {w : World} {K : PySem.W.Frag} {mg : Str → Option Value} {base : Heap} {C d : Addr} {es : Array DictEntry} {n : Nat}
def spLaw (K : PySem.W.Frag) : Sp := fun vs H Q _ => ∃ (a : Addr) (ns : List Int), vs = [.ref a] ∧ SqL K H a (ns.map V.int) ∧ ns.length ≤ 63 ∧ ∀ H', Q (.bl true) H'
theorem ok_law {f : Addr} {fd : FuncData} (F : C8.Def K mg "law" sLaw f fd) (T : Txt K mg C)
    (c_law_cell_at : C8.Cal P w K mg base 1 "_law_cell_at" (spCellAt K) []) (c_law_well : C8.Cal P w K mg base 1 "_law_well" spWell []) (c_law_draw : C8.Cal P w K mg base 1 "_law_draw" spDraw []) (c_law_folder : C8.Cal P w K mg base 10 "_law_folder" (spFolder C) [])
    (c_law_deed : C8.Cal P w K mg base 4 "_law_deed" (spDeed C) []) (c_played : C8.Cal P w K mg base 9 "played" (spPlayed C) [])
    (c_law_sight : C8.Cal P w K mg base 2 "_law_sight" (spSight C) []) (c_letters : C8.Met P w K mg base 1 C "letters" (spLetters C) []) (c_between : C8.Cal P w K mg base 5 "between" spBetween [])
    (c_most_at_once : C8.Cal P w K mg base 6 "most_at_once" spMost []) (c_fewest_at_once : C8.Cal P w K mg base 6 "fewest_at_once" spFewest []) (c_surely : C8.Cal P w K mg base 6 "surely" spSurely []) (c_law_fits : C8.Cal P w K mg base 1 "_law_fits" spFits []) :
    FnOk P w K mg base C8.CX0 11 f fd ["_law_script"] (spLaw K) := by
  refine C8.fn0 F.fn scLaw (fun vs H Q E h => ?_) (fun cdv A outer s H vs Q E hr h => ?_)
  · obtain ⟨_, _, rfl, _⟩ := h
    rfl
  · obtain ⟨a, ns, rfl, ha, few, k⟩ := h
    obtain ⟨tT, pT, turn⟩ := turn_ok (f := f) (cdv := cdv) (outer := outer) (s := s) (H0 := H) (E := E) hr T c_law_deed c_played c_letters
    obtain ⟨tL, pL, tail⟩ := tail_ok (f := f) (cdv := cdv) (outer := outer) (s := s) (H0 := H) (E := E) hr T c_law_sight c_letters c_between c_most_at_once c_fewest_at_once c_surely c_law_fits
    refine ⟨_, (pss_cons (ps_for PassesOwn.never rfl (pi_list (pe_op op_cat (pe_lst (pa_cons (C8.pe_c c_law_cell_at hr (by decide) (by rfl) (pa_cons (pv 0) (pa_cons pe_int pa_nil))) pa_nil)) (pe_slice sl_list (pv 0) (po_some pe_int) (po_some pe_int)))) (pg_name (i := 1) scLaw.nd rfl (Or.inl rfl)) (pss_cons (ps_set (i := 2) scLaw.nd rfl (Or.inl rfl) (C8.pe_c c_law_well hr (by decide) (by rfl) (pa_cons (pv 1) pa_nil))) (pss_cons (ps_set (i := 3) scLaw.nd rfl (Or.inl rfl) (C8.pe_c c_law_folder hr (by decide) (by rfl) (pa_cons (pv 2) (pa_cons pe_int pa_nil)))) (pss_cons (ps_set (i := 4) scLaw.nd rfl (Or.inl rfl) (C8.pe_c c_law_sight hr (by decide) (by rfl) (pa_cons (pv 3) pa_nil))) (pss_cons (ps_setLc (i := 5) (own := [("_law_letter", 20)]) (g := gName 20) (tt := tYes) rfl scLaw.nd rfl rfl (sw_true rfl rfl rfl (by decide +kernel)) (pi_list (C8.pe_mt0 c_letters hr (by decide) (pv 3))) (blkOk_by (N := ["_law_script", "_law_cell", "_law_well_here", "_law_folder_here", "_law_one_here", "_law_known", "_law_counts", "_law_went", "_law_changed", "_law_touched", "_law_k", "_law_deed_here", "_law_ahead", "_law_after", "_law_new", "_law_other", "_law_now", "_law_words", "_law_still", "_law_same", "_law_letter", "_law_number"]) (sc := C8.fnScope sLaw) (by decide +kernel)) (fun _ _ _ _ _ => pg_name (i := 20) scLaw.nd rfl (Or.inl rfl)) (fun _ _ _ _ _ => pts_nil) (fun _ _ _ _ _ => (pe_ix (ixT (K := K)) (pv 20) pe_int (fun _ _ => rfl)))) (pss_cons (ps_asg (pe_tup (pa_cons (pe_lst (pa_cons (pe_callB call_len_seq (by rfl) T.len (by decide +kernel) (pa_cons (pv 5) pa_nil)) pa_nil)) (pa_cons pe_int (pa_cons pe_int (pa_cons (pe_lst pa_nil) pa_nil))))) (pg_tup (by rfl) (pgs_cons (pg_name (i := 6) scLaw.nd rfl (Or.inl rfl)) (pgs_cons (pg_name (i := 7) scLaw.nd rfl (Or.inl rfl)) (pgs_cons (pg_name (i := 8) scLaw.nd rfl (Or.inl rfl)) (pgs_cons (pg_name (i := 9) scLaw.nd rfl (Or.inr rfl)) pgs_nil)))))) (pss_cons (ps_for PassesOwn.never rfl (pi_range1 (by rfl) T.range (pa_cons (C8.pe_c c_law_draw hr (by decide) (by rfl) (pa_cons (pv 2) (pa_cons pe_int pa_nil))) pa_nil)) (pg_name (i := 10) scLaw.nd rfl (Or.inl rfl)) pT) pL))))))) (pss_one (ps_ret pe_bl))), ?_⟩
    refine ⟨_, rfl, a, ns, rfl, ha, fun z H1 e1 => ⟨by show 1 ≤ sizeLine; decide, fun l1 n1 => ?_⟩⟩
    have e2 := e1.trans (Evl.Ex.new (o := .lst [V.int z]) n1)
    refine ⟨_, rfl, _, rfl, _, rfl, a, _, rfl, sq_ex e2 ha, fun l2 n2 => ?_⟩
    have e3 := Evl.Ex.new (o := .lst (cutV (ns.map V.int) (some 1) (some 3))) n2
    have hl1 := e3 l1 (.lst [V.int z]) upd_same
    refine ⟨l1, l2, _, _, rfl, rfl, hl1, upd_same, ?_, fun l3 n3 => ?_⟩
    · have := cutV_length (ns.map V.int) (some 1) (some 3)
      rw [List.length_map] at this
      show 1 + (cutV (ns.map V.int) (some 1) (some 3)).length ≤ sizeLine
      have : 1 + (cutV (ns.map V.int) (some 1) (some 3)).length ≤ 100 := by omega
      exact Nat.le_trans this (by decide)
    have allI : ∀ x ∈ ([V.int z] ++ cutV (ns.map V.int) (some 1) (some 3)), ∃ c, x = V.int c := fun x hx => by
      rcases List.mem_append.mp hx with h | h
      · exact ⟨z, List.mem_singleton.mp h⟩
      · exact cut_ints x h
    generalize hL : [V.int z] ++ cutV (ns.map V.int) (some 1) (some 3) = L at allI
    have hl3 : (upd (upd (upd H1 l1 (.lst [V.int z])) l2 (.lst (cutV (ns.map V.int) (some 1) (some 3)))) l3 (.lst L)) l3 = some (.lst L) := upd_same
    generalize upd (upd (upd H1 l1 _) l2 _) l3 _ = Hs at hl3
    refine ⟨l3, rfl, ⟨_, .of hl3⟩, for_it walk_list (fun i σ H' => Ex Hs H' ∧ ∃ a1 a2 a3 a4 a5 a6 a7 a8 a9 xa b c d e f g h j k l m, σ = [some (.ref a), a1, a2, a3, a4, a5, a6, a7, a8, a9, xa, b, c, d, e, f, g, h, j, k, l, m])
      ⟨Evl.Ex.refl Hs, none, none, none, none, none, none, none, none, none, none, none, none, none, none, none, none, none, none, none, none, none, rfl⟩ (fun i σ H' _ h => .of (h.1 _ _ hl3)) ?_ ?_⟩
    · rintro i x σ H5 H5' hi ⟨e5, a1, a2, a3, a4, a5, a6, a7, a8, a9, xa, xb, xc, xd, xe, xf, xg, xh, xj, xk, xl, xm, rfl⟩ ⟨eH, hx⟩
      subst eH
      obtain ⟨c, rfl⟩ := allI x (List.mem_of_getElem? hx)
      refine ⟨_, rfl, c, rfl, fun p H6 e6 np hw => ?_⟩
      refine ⟨_, rfl, p, 0, rfl, hw, by decide, fun q F0 n7 H7 b7 w7 l7 hF7 fb => ?_⟩
      obtain ⟨xsp, hxp⟩ := w7.lst
      refine ⟨_, rfl, q, F0, rfl, hF7, fun so H8 e8 hso => ?_⟩
      have few0 := fb.len
      refine gname_go ?_
      dsimp only
      refine seq_go (asg_go ?_)
      refine ev_nums (K := K) (σ := [some (.ref a), some (.int c), some (.ref p), some (.ref q), some (.ref so), a5, a6, a7, a8, a9, xa, xb, xc, xd, xe, xf, xg, xh, xj, xk, xl, xm]) rfl (hF7.mono e8) (by omega) (fun _ => rfl) (fun _ => rfl) _ (Evl.Ex.refl _) _ fun v H9 e9 ⟨kl, hv, fkl, hkl⟩ => ?_
      subst hv
      refine ⟨_, rfl, kl, _, rfl, .inl (.of hkl), by show 1 ≤ sizeLine; decide, fun cl ncl => ⟨Nat.zero_le _, fun tl ntl => ⟨by show 4 ≤ sizeLine; decide, fun t nt => ⟨t, _, rfl, .of upd_same, rfl, _, _, rfl, _, _, rfl, _, _, rfl, _, _, rfl, rfl, ?_⟩⟩⟩⟩
      have en1 := Evl.Ex.new (o := .lst [V.int ((((nums F0).map V.int).length : Nat) : Int)]) ncl
      have en2 := Evl.Ex.new (o := .lst []) ntl
      have en3 := Evl.Ex.new (o := .tup [V.ref cl, V.int 0, V.int 0, V.ref tl]) nt
      have e89 := e8.trans e9
      have e9t := en1.trans (en2.trans en3)
      have w9 := w7.mono e89
      have hcl := (en2.trans en3) cl _ upd_same
      have htl := en3 tl _ upd_same
      have clp : cl ≠ p := fun e => by
        obtain ⟨ys, hy⟩ := w9.lst
        rw [e, hy] at ncl
        cases ncl
      have tlp : tl ≠ p := fun e => by
        obtain ⟨ys, hy⟩ := (w9.mono en1).lst
        rw [e, hy] at ntl
        cases ntl
      have tlc : tl ≠ cl := fun e => by
        rw [e, upd_same] at ntl
        cases ntl
      have hso := e9t _ _ (e9 _ _ hso)
      have klp : kl ≠ p := fun e => by
        obtain ⟨ys, hy⟩ := (w7.mono e8).lst
        rw [e, hy] at fkl
        cases fkl
      have klc : kl ≠ cl := ne_of_none hkl ncl
      have hkl := e9t _ _ hkl
      have w9 := w9.mono e9t
      have hF9 := (hF7.mono e89).mono e9t
      have b5 := ((Exb.of e6).trans b7).trans (Exb.of (e89.trans e9t))
      have ncl5 : H5' cl = none := free e6 (by
        cases hc : H6 cl with
        | none => rfl
        | some o =>
          have := e89 _ _ (b7 _ _ clp hc)
          rw [this] at ncl
          cases ncl)
      rw [List.length_map, nums_len] at *
      generalize upd (upd (upd H9 cl _) tl _) t _ = H12 at hcl htl hso hkl w9 hF9 b5
      refine ⟨_, rfl, p, 41, n7, rfl, w9, by decide, by decide, by omega, fun m n13 H13 b13 w13 l13 m0 m41 => ?_⟩
      obtain ⟨xs9, hx9⟩ := w9.lst
      have sop : so ≠ p := ne_of hso hx9 (fun z => nomatch z)
      have socl : so ≠ cl := ne_of hso hcl (fun z => nomatch z)
      have hso := b13.ne sop hso
      have hkl := b13.ne klp hkl
      have hcl := b13.ne clp hcl
      have htl := b13.ne tlp htl
      have hF13 := hF9.keep hx9 b13
      have b513 := b5.trans b13
      refine ⟨m, rfl, by omega, by omega, for_it walk_range (TurnAt C p cl F0 (some (.ref a)) (some (.int c)) (some (.ref so)) (some (.ref kl)) H13 n13)
        ⟨q, tl, F0, n13, 0, 0, [], [(F0.ls.length : Int)], xa, xb, xc, xd, xe, xf, xg, xh, xj, xk, xl, xm, rfl, Exc.refl p cl H13, w13, by omega, hcl, clp, tlp, tlc, htl, hF13, fb, Cnt.start fb.inv, Nat.le_refl _⟩ (fun _ _ _ _ _ => True.intro) ?_ ?_⟩
      · rintro j y σ H14 H14' hj ⟨q2, tl2, F2, n2, went, changed, touched, counts, ya, yb, yc, yd, ye, yf, yg, yh, yj, yk, yl, ym, rfl, rest⟩ ⟨eH, rfl⟩
        subst eH
        exact turn _ p cl F0 _ _ _ _ _ n13 j _ _ fb.inv (by omega) (by omega) ⟨q2, tl2, F2, n2, went, changed, touched, counts, some (.int (0 + (j : Int))), yb, yc, yd, ye, yf, yg, yh, yj, yk, yl, ym, rfl, rest⟩ fun σ' H' h => h
      · rintro σ H14 ⟨q2, tl2, F2, n2, went, changed, touched, counts, ya, yb, yc, yd, ye, yf, yg, yh, yj, yk, yl, ym, rfl, ex14, w14, l14, hcl14, _, tlp14, tlc14, htl14, hF14, fb14, cn14, _⟩
        refine tail _ p cl so kl F0 _ _ _ _ fb.inv (by omega) ⟨q2, tl2, F2, went, changed, touched, counts, ya, yb, yc, yd, ye, yf, yg, yh, yj, yk, yl, ym, rfl, ex14 _ _ sop socl hso, ex14 _ _ klp klc hkl, hcl14, htl14, hF14, fb14.mono (by omega), cn14⟩ fun σ' H15 e15 he => ?_
        refine ⟨e5.trans fun bb o hb => e15 _ _ (ex14 _ _ (ne_of_none hb np) (ne_of_none hb ncl5) (b513 _ _ (ne_of_none hb np) hb)), he⟩
    · rintro σ H5 ⟨_, a1, a2, a3, a4, a5, a6, a7, a8, a9, xa, xb, xc, xd, xe, xf, xg, xh, xj, xk, xl, xm, rfl⟩
      exact k H5
end
end K59
/-! K59W: what the top has written, the head. -/
namespace K59
open PySem PySem.Spec PyProof.Rows L2 K59S
theorem kit_self {K : PySem.W.Frag} {C : Addr} : PySem.W.kitOne K (.ref C) (.ref C) = some true := by
  unfold PySem.W.kitOne
  have e : (Value.ref C == Value.ref C) = true := beq_self_eq_true _
  rw [if_pos e]
theorem all_mk {l : PySem.W.OpenLaw} {w : World} {K : PySem.W.Frag} {h : Heap} {mg : Str → Option Value} {fa C d : Addr} {es : Array DictEntry} {n : Nat} (X : K.In h) (G : h.Ns mainGlobals mg) (hfa : mg "law" = some (.ref fa))
    {f1 f2 f3 f4 f5 f6 f7 f8 f9 f10 f11 f12 f13 f14 f15 f16 f17 f18 f19 f20 f21 f22 f23 f24 f25 f26 f27 f28 f29 f30 f31 f32 f33 f34 f35 f36 f37 f38 f39 f40 f41 f42 : Addr} {od1 od2 od3 od4 od5 od6 od7 od8 od9 od10 od11 od12 od13 od14 od15 od16 od17 od18 od19 od20 od21 od22 od23 od24 od25 od26 od27 od28 od29 od30 od31 od32 od33 od34 od35 od36 od37 od38 od39 od40 od41 od42 an1 an2 an3 an4 an5 an6 an7 an8 an9 an10 an11 an12 an13 an14 an15 an16 an17 an18 an19 an20 an21 an22 an23 an24 an25 an26 an27 an28 an29 an30 an31 an32 an33 an34 an35 an36 an37 an38 an39 an40 an41 an42 : Option Addr} {sl1 sl2 sl3 sl4 sl5 sl6 sl7 sl8 sl9 sl10 sl11 sl12 sl13 sl14 sl15 sl16 sl17 sl18 sl19 sl20 sl21 sl22 sl23 sl24 sl25 sl26 sl27 sl28 sl29 sl30 sl31 sl32 sl33 sl34 sl35 sl36 sl37 sl38 sl39 sl40 sl41 sl42 : Array (Option Value)} {oc1 oc2 oc3 oc4 oc5 oc6 oc7 oc8 oc9 oc10 oc11 oc12 oc13 oc14 oc15 oc16 oc17 oc18 oc19 oc20 oc21 oc22 oc23 oc24 oc25 oc26 oc27 oc28 oc29 oc30 oc31 oc32 oc33 oc34 oc35 oc36 oc37 oc38 oc39 oc40 oc41 oc42 kV1 kV2 kV3 kV4 kV5 kV6 kV7 kV8 kV9 kV10 kV11 kV12 kV13 kV14 kV15 kV16 kV17 kV18 kV19 kV20 kV21 kV22 kV23 kV24 kV25 kV26 kV27 kV28 kV29 kV30 kV31 kV32 kV33 kV34 kV35 kV36 kV37 kV38 kV39 kV40 kV41 kV42 dc1 dc2 dc3 dc4 dc5 dc6 dc7 dc8 dc9 dc10 dc11 dc12 dc13 dc14 dc15 dc16 dc17 dc18 dc19 dc20 dc21 dc22 dc23 dc24 dc25 dc26 dc27 dc28 dc29 dc30 dc31 dc32 dc33 dc34 dc35 dc36 dc37 dc38 dc39 dc40 dc41 dc42 pm1 pm2 pm3 pm4 pm5 pm6 pm7 pm8 pm9 pm10 pm11 pm12 pm13 pm14 pm15 pm16 pm17 pm18 pm19 pm20 pm21 pm22 pm23 pm24 pm25 pm26 pm27 pm28 pm29 pm30 pm31 pm32 pm33 pm34 pm35 pm36 pm37 pm38 pm39 pm40 pm41 pm42 cd1 cd2 cd3 cd4 cd5 cd6 cd7 cd8 cd9 cd10 cd11 cd12 cd13 cd14 cd15 cd16 cd17 cd18 cd19 cd20 cd21 cd22 cd23 cd24 cd25 cd26 cd27 cd28 cd29 cd30 cd31 cd32 cd33 cd34 cd35 cd36 cd37 cd38 cd39 cd40 cd41 cd42 ct1 ct2 ct3 ct4 ct5 ct6 ct7 ct8 ct9 ct10 ct11 ct12 ct13 ct14 ct15 ct16 ct17 ct18 ct19 ct20 ct21 ct22 ct23 ct24 ct25 ct26 ct27 ct28 ct29 ct30 ct31 ct32 ct33 ct34 ct35 ct36 ct37 ct38 ct39 ct40 ct41 ct42 : Value} {tv1 tv2 tv3 te0 te1 te2 te3 te4 : Tok}
    (aC : PySem.W.nsIn K mainGlobals "Folder" = some (some (.ref C)))
    (a1 : PySem.W.nsIn K mainGlobals "is_int" = some (some (.ref f1)))
    (l1 : K.lookup f1 = some ⟨oc1, od1, .func (PySem.W.fnOf "is_int" "is_int" (C8.fnArgs sIsInt) (C8.fnBody sIsInt) (C8.fnScope sIsInt) .none kV1 dc1 pm1 an1 cd1 ct1), sl1⟩)
    (c1 : PySem.W.codeIn K cd1 "is_int" = true)
    (k1 : PySem.W.keepIn K (.ref f1) = true)
    (a2 : PySem.W.nsIn K mainGlobals "is_least" = some (some (.ref f2)))
    (l2 : K.lookup f2 = some ⟨oc2, od2, .func (PySem.W.fnOf "is_least" "is_least" (C8.fnArgs sIsLeast) (C8.fnBody sIsLeast) (C8.fnScope sIsLeast) .none kV2 dc2 pm2 an2 cd2 ct2), sl2⟩)
    (c2 : PySem.W.codeIn K cd2 "is_least" = true)
    (k2 : PySem.W.keepIn K (.ref f2) = true)
    (a3 : PySem.W.nsIn K mainGlobals "is_sign" = some (some (.ref f3)))
    (l3 : K.lookup f3 = some ⟨oc3, od3, .func (PySem.W.fnOf "is_sign" "is_sign" (C8.fnArgs sIsSign) (C8.fnBody sIsSign) (C8.fnScope sIsSign) .none kV3 dc3 pm3 an3 cd3 ct3), sl3⟩)
    (c3 : PySem.W.codeIn K cd3 "is_sign" = true)
    (k3 : PySem.W.keepIn K (.ref f3) = true)
    (a4 : PySem.W.nsIn K mainGlobals "is_signs" = some (some (.ref f4)))
    (l4 : K.lookup f4 = some ⟨oc4, od4, .func (PySem.W.fnOf "is_signs" "is_signs" (C8.fnArgs sIsSigns) (C8.fnBody sIsSigns) (C8.fnScope sIsSigns) .none kV4 dc4 pm4 an4 cd4 ct4), sl4⟩)
    (c4 : PySem.W.codeIn K cd4 "is_signs" = true)
    (k4 : PySem.W.keepIn K (.ref f4) = true)
    (a5 : PySem.W.nsIn K mainGlobals "is_numbers" = some (some (.ref f5)))
    (l5 : K.lookup f5 = some ⟨oc5, od5, .func (PySem.W.fnOf "is_numbers" "is_numbers" (C8.fnArgs sIsNumbers) (C8.fnBody sIsNumbers) (C8.fnScope sIsNumbers) .none kV5 dc5 pm5 an5 cd5 ct5), sl5⟩)
    (c5 : PySem.W.codeIn K cd5 "is_numbers" = true)
    (k5 : PySem.W.keepIn K (.ref f5) = true)
    (a6 : PySem.W.nsIn K mainGlobals "is_sight" = some (some (.ref f6)))
    (l6 : K.lookup f6 = some ⟨oc6, od6, .func (PySem.W.fnOf "is_sight" "is_sight" (C8.fnArgs sIsSight) (C8.fnBody sIsSight) (C8.fnScope sIsSight) .none kV6 dc6 pm6 an6 cd6 ct6), sl6⟩)
    (c6 : PySem.W.codeIn K cd6 "is_sight" = true)
    (k6 : PySem.W.keepIn K (.ref f6) = true)
    (a7 : PySem.W.nsIn K mainGlobals "check_sights" = some (some (.ref f7)))
    (l7 : K.lookup f7 = some ⟨oc7, od7, .func (PySem.W.fnOf "check_sights" "check_sights" (C8.fnArgs sCheckSights) (C8.fnBody sCheckSights) (C8.fnScope sCheckSights) .none kV7 dc7 pm7 an7 cd7 ct7), sl7⟩)
    (c7 : PySem.W.codeIn K cd7 "check_sights" = true)
    (k7 : PySem.W.keepIn K (.ref f7) = true)
    (a8 : PySem.W.nsIn K mainGlobals "between" = some (some (.ref f8)))
    (l8 : K.lookup f8 = some ⟨oc8, od8, .func (PySem.W.fnOf "between" "between" (C8.fnArgs sBetween) (C8.fnBody sBetween) (C8.fnScope sBetween) .none kV8 dc8 pm8 an8 cd8 ct8), sl8⟩)
    (c8 : PySem.W.codeIn K cd8 "between" = true)
    (k8 : PySem.W.keepIn K (.ref f8) = true)
    (a9 : PySem.W.nsIn K mainGlobals "most_at_once" = some (some (.ref f9)))
    (l9 : K.lookup f9 = some ⟨oc9, od9, .func (PySem.W.fnOf "most_at_once" "most_at_once" (C8.fnArgs sMost) (C8.fnBody sMost) (C8.fnScope sMost) .none kV9 dc9 pm9 an9 cd9 ct9), sl9⟩)
    (c9 : PySem.W.codeIn K cd9 "most_at_once" = true)
    (k9 : PySem.W.keepIn K (.ref f9) = true)
    (a10 : PySem.W.nsIn K mainGlobals "fewest_at_once" = some (some (.ref f10)))
    (l10 : K.lookup f10 = some ⟨oc10, od10, .func (PySem.W.fnOf "fewest_at_once" "fewest_at_once" (C8.fnArgs sFewest) (C8.fnBody sFewest) (C8.fnScope sFewest) .none kV10 dc10 pm10 an10 cd10 ct10), sl10⟩)
    (c10 : PySem.W.codeIn K cd10 "fewest_at_once" = true)
    (k10 : PySem.W.keepIn K (.ref f10) = true)
    (a11 : PySem.W.nsIn K mainGlobals "word_of" = some (some (.ref f11)))
    (l11 : K.lookup f11 = some ⟨oc11, od11, .func (PySem.W.fnOf "word_of" "word_of" (C8.fnArgs sWordOf) (C8.fnBody sWordOf) (C8.fnScope sWordOf) .none kV11 dc11 pm11 an11 cd11 ct11), sl11⟩)
    (c11 : PySem.W.codeIn K cd11 "word_of" = true)
    (k11 : PySem.W.keepIn K (.ref f11) = true)
    (a12 : PySem.W.nsIn K mainGlobals "surely" = some (some (.ref f12)))
    (l12 : K.lookup f12 = some ⟨oc12, od12, .func (PySem.W.fnOf "surely" "surely" (C8.fnArgs sSurely) (C8.fnBody sSurely) (C8.fnScope sSurely) .none kV12 dc12 pm12 an12 cd12 ct12), sl12⟩)
    (c12 : PySem.W.codeIn K cd12 "surely" = true)
    (k12 : PySem.W.keepIn K (.ref f12) = true)
    (a13 : PySem.W.findIn K (.ref C) "__init__" = some (some (.ref f13)))
    (i13 : PySem.W.isFn K (.ref f13) = true)
    (l13 : K.lookup f13 = some ⟨oc13, od13, .func (PySem.W.fnOf "__init__" "Folder.__init__" (C8.fnArgs sInit) (C8.fnBody sInit) (C8.fnScope sInit) .none kV13 dc13 pm13 an13 cd13 ct13), sl13⟩)
    (c13 : PySem.W.codeIn K cd13 "Folder.__init__" = true)
    (k13 : PySem.W.keepIn K (.ref f13) = true)
    (a14 : PySem.W.nsIn K mainGlobals "twin" = some (some (.ref f14)))
    (l14 : K.lookup f14 = some ⟨oc14, od14, .func (PySem.W.fnOf "twin" "twin" (C8.fnArgs sTwin) (C8.fnBody sTwin) (C8.fnScope sTwin) .none kV14 dc14 pm14 an14 cd14 ct14), sl14⟩)
    (c14 : PySem.W.codeIn K cd14 "twin" = true)
    (k14 : PySem.W.keepIn K (.ref f14) = true)
    (a15 : PySem.W.nsIn K mainGlobals "check_numbers" = some (some (.ref f15)))
    (l15 : K.lookup f15 = some ⟨oc15, od15, .func (PySem.W.fnOf "check_numbers" "check_numbers" (C8.fnArgs sCheckNumbers) (C8.fnBody sCheckNumbers) (C8.fnScope sCheckNumbers) .none kV15 dc15 pm15 an15 cd15 ct15), sl15⟩)
    (c15 : PySem.W.codeIn K cd15 "check_numbers" = true)
    (k15 : PySem.W.keepIn K (.ref f15) = true)
    (a16 : PySem.W.nsIn K mainGlobals "check_folder" = some (some (.ref f16)))
    (l16 : K.lookup f16 = some ⟨oc16, od16, .func (PySem.W.fnOf "check_folder" "check_folder" (C8.fnArgs sCheckFolder) (C8.fnBody sCheckFolder) (C8.fnScope sCheckFolder) .none kV16 dc16 pm16 an16 cd16 ct16), sl16⟩)
    (c16 : PySem.W.codeIn K cd16 "check_folder" = true)
    (k16 : PySem.W.keepIn K (.ref f16) = true)
    (a17 : PySem.W.findIn K (.ref C) "age" = some (some (.ref f17)))
    (i17 : PySem.W.isFn K (.ref f17) = true)
    (l17 : K.lookup f17 = some ⟨oc17, od17, .func (PySem.W.fnOf "age" "Folder.age" (C8.fnArgs sAge) (C8.fnBody sAge) (C8.fnScope sAge) .none kV17 dc17 pm17 an17 cd17 ct17), sl17⟩)
    (c17 : PySem.W.codeIn K cd17 "Folder.age" = true)
    (k17 : PySem.W.keepIn K (.ref f17) = true)
    (a18 : PySem.W.findIn K (.ref C) "next_number" = some (some (.ref f18)))
    (i18 : PySem.W.isFn K (.ref f18) = true)
    (l18 : K.lookup f18 = some ⟨oc18, od18, .func (PySem.W.fnOf "next_number" "Folder.next_number" (C8.fnArgs sNext) (C8.fnBody sNext) (C8.fnScope sNext) .none kV18 dc18 pm18 an18 cd18 ct18), sl18⟩)
    (c18 : PySem.W.codeIn K cd18 "Folder.next_number" = true)
    (k18 : PySem.W.keepIn K (.ref f18) = true)
    (a19 : PySem.W.findIn K (.ref C) "mark" = some (some (.ref f19)))
    (i19 : PySem.W.isFn K (.ref f19) = true)
    (l19 : K.lookup f19 = some ⟨oc19, od19, .func (PySem.W.fnOf "mark" "Folder.mark" (C8.fnArgs sMark) (C8.fnBody sMark) (C8.fnScope sMark) .none kV19 dc19 pm19 an19 cd19 ct19), sl19⟩)
    (c19 : PySem.W.codeIn K cd19 "Folder.mark" = true)
    (k19 : PySem.W.keepIn K (.ref f19) = true)
    (a20 : PySem.W.findIn K (.ref C) "letters" = some (some (.ref f20)))
    (i20 : PySem.W.isFn K (.ref f20) = true)
    (l20 : K.lookup f20 = some ⟨oc20, od20, .func (PySem.W.fnOf "letters" "Folder.letters" (C8.fnArgs sLetters) (C8.fnBody sLetters) (C8.fnScope sLetters) .none kV20 dc20 pm20 an20 cd20 ct20), sl20⟩)
    (c20 : PySem.W.codeIn K cd20 "Folder.letters" = true)
    (k20 : PySem.W.keepIn K (.ref f20) = true)
    (a21 : PySem.W.nsIn K mainGlobals "among" = some (some (.ref f21)))
    (l21 : K.lookup f21 = some ⟨oc21, od21, .func (PySem.W.fnOf "among" "among" (C8.fnArgs sAmong) (C8.fnBody sAmong) (C8.fnScope sAmong) .none kV21 dc21 pm21 an21 cd21 ct21), sl21⟩)
    (c21 : PySem.W.codeIn K cd21 "among" = true)
    (k21 : PySem.W.keepIn K (.ref f21) = true)
    (a22 : PySem.W.nsIn K mainGlobals "with_letter" = some (some (.ref f22)))
    (l22 : K.lookup f22 = some ⟨oc22, od22, .func (PySem.W.fnOf "with_letter" "with_letter" (C8.fnArgs sWithLetter) (C8.fnBody sWithLetter) (C8.fnScope sWithLetter) .none kV22 dc22 pm22 an22 cd22 ct22), sl22⟩)
    (c22 : PySem.W.codeIn K cd22 "with_letter" = true)
    (k22 : PySem.W.keepIn K (.ref f22) = true)
    (a23 : PySem.W.nsIn K mainGlobals "resigned" = some (some (.ref f23)))
    (l23 : K.lookup f23 = some ⟨oc23, od23, .func (PySem.W.fnOf "resigned" "resigned" (C8.fnArgs sResigned) (C8.fnBody sResigned) (C8.fnScope sResigned) .none kV23 dc23 pm23 an23 cd23 ct23), sl23⟩)
    (c23 : PySem.W.codeIn K cd23 "resigned" = true)
    (k23 : PySem.W.keepIn K (.ref f23) = true)
    (a24 : PySem.W.nsIn K mainGlobals "without" = some (some (.ref f24)))
    (l24 : K.lookup f24 = some ⟨oc24, od24, .func (PySem.W.fnOf "without" "without" (C8.fnArgs sWithout) (C8.fnBody sWithout) (C8.fnScope sWithout) .none kV24 dc24 pm24 an24 cd24 ct24), sl24⟩)
    (c24 : PySem.W.codeIn K cd24 "without" = true)
    (k24 : PySem.W.keepIn K (.ref f24) = true)
    (a25 : PySem.W.findIn K (.ref C) "appended" = some (some (.ref f25)))
    (i25 : PySem.W.isFn K (.ref f25) = true)
    (l25 : K.lookup f25 = some ⟨oc25, od25, .func (PySem.W.fnOf "appended" "Folder.appended" (C8.fnArgs sAppended) (C8.fnBody sAppended) (C8.fnScope sAppended) .none kV25 dc25 pm25 an25 cd25 ct25), sl25⟩)
    (c25 : PySem.W.codeIn K cd25 "Folder.appended" = true)
    (k25 : PySem.W.keepIn K (.ref f25) = true)
    (a26 : PySem.W.findIn K (.ref C) "set_to" = some (some (.ref f26)))
    (i26 : PySem.W.isFn K (.ref f26) = true)
    (l26 : K.lookup f26 = some ⟨oc26, od26, .func (PySem.W.fnOf "set_to" "Folder.set_to" (C8.fnArgs sSetTo) (C8.fnBody sSetTo) (C8.fnScope sSetTo) .none kV26 dc26 pm26 an26 cd26 ct26), sl26⟩)
    (c26 : PySem.W.codeIn K cd26 "Folder.set_to" = true)
    (k26 : PySem.W.keepIn K (.ref f26) = true)
    (a27 : PySem.W.findIn K (.ref C) "removed" = some (some (.ref f27)))
    (i27 : PySem.W.isFn K (.ref f27) = true)
    (l27 : K.lookup f27 = some ⟨oc27, od27, .func (PySem.W.fnOf "removed" "Folder.removed" (C8.fnArgs sRemoved) (C8.fnBody sRemoved) (C8.fnScope sRemoved) .none kV27 dc27 pm27 an27 cd27 ct27), sl27⟩)
    (c27 : PySem.W.codeIn K cd27 "Folder.removed" = true)
    (k27 : PySem.W.keepIn K (.ref f27) = true)
    (a28 : PySem.W.findIn K (.ref C) "added" = some (some (.ref f28)))
    (i28 : PySem.W.isFn K (.ref f28) = true)
    (l28 : K.lookup f28 = some ⟨oc28, od28, .func (PySem.W.fnOf "added" "Folder.added" (C8.fnArgs sAdded) (C8.fnBody sAdded) (C8.fnScope sAdded) .none kV28 dc28 pm28 an28 cd28 ct28), sl28⟩)
    (c28 : PySem.W.codeIn K cd28 "Folder.added" = true)
    (k28 : PySem.W.keepIn K (.ref f28) = true)
    (a29 : PySem.W.findIn K (.ref C) "taken" = some (some (.ref f29)))
    (i29 : PySem.W.isFn K (.ref f29) = true)
    (l29 : K.lookup f29 = some ⟨oc29, od29, .func (PySem.W.fnOf "taken" "Folder.taken" (C8.fnArgs sTaken) (C8.fnBody sTaken) (C8.fnScope sTaken) .none kV29 dc29 pm29 an29 cd29 ct29), sl29⟩)
    (c29 : PySem.W.codeIn K cd29 "Folder.taken" = true)
    (k29 : PySem.W.keepIn K (.ref f29) = true)
    (a30 : PySem.W.nsIn K mainGlobals "done" = some (some (.ref f30)))
    (l30 : K.lookup f30 = some ⟨oc30, od30, .func (PySem.W.fnOf "done" "done" (C8.fnArgs sDone) (C8.fnBody sDone) (C8.fnScope sDone) .none kV30 dc30 pm30 an30 cd30 ct30), sl30⟩)
    (c30 : PySem.W.codeIn K cd30 "done" = true)
    (k30 : PySem.W.keepIn K (.ref f30) = true)
    (a31 : PySem.W.nsIn K mainGlobals "has_form" = some (some (.ref f31)))
    (l31 : K.lookup f31 = some ⟨oc31, od31, .func (PySem.W.fnOf "has_form" "has_form" (C8.fnArgs sHasForm) (C8.fnBody sHasForm) (C8.fnScope sHasForm) .none kV31 dc31 pm31 an31 cd31 ct31), sl31⟩)
    (c31 : PySem.W.codeIn K cd31 "has_form" = true)
    (k31 : PySem.W.keepIn K (.ref f31) = true)
    (a32 : PySem.W.nsIn K mainGlobals "played" = some (some (.ref f32)))
    (l32 : K.lookup f32 = some ⟨oc32, od32, .func (PySem.W.fnOf "played" "played" (C8.fnArgs sPlayed) (C8.fnBody sPlayed) (C8.fnScope sPlayed) .none kV32 dc32 pm32 an32 cd32 ct32), sl32⟩)
    (c32 : PySem.W.codeIn K cd32 "played" = true)
    (k32 : PySem.W.keepIn K (.ref f32) = true)
    (a33 : PySem.W.nsIn K mainGlobals "_law_cell_at" = some (some (.ref f33)))
    (l33 : K.lookup f33 = some ⟨oc33, od33, .func (PySem.W.fnOf "_law_cell_at" "_law_cell_at" (C8.fnArgs sCellAt) (C8.fnBody sCellAt) (C8.fnScope sCellAt) .none kV33 dc33 pm33 an33 cd33 ct33), sl33⟩)
    (c33 : PySem.W.codeIn K cd33 "_law_cell_at" = true)
    (k33 : PySem.W.keepIn K (.ref f33) = true)
    (a34 : PySem.W.nsIn K mainGlobals "_law_well" = some (some (.ref f34)))
    (l34 : K.lookup f34 = some ⟨oc34, od34, .func (PySem.W.fnOf "_law_well" "_law_well" (C8.fnArgs sWell) (C8.fnBody sWell) (C8.fnScope sWell) .none kV34 dc34 pm34 an34 cd34 ct34), sl34⟩)
    (c34 : PySem.W.codeIn K cd34 "_law_well" = true)
    (k34 : PySem.W.keepIn K (.ref f34) = true)
    (a35 : PySem.W.nsIn K mainGlobals "_law_draw" = some (some (.ref f35)))
    (l35 : K.lookup f35 = some ⟨oc35, od35, .func (PySem.W.fnOf "_law_draw" "_law_draw" (C8.fnArgs sDraw) (C8.fnBody sDraw) (C8.fnScope sDraw) .none kV35 dc35 pm35 an35 cd35 ct35), sl35⟩)
    (c35 : PySem.W.codeIn K cd35 "_law_draw" = true)
    (k35 : PySem.W.keepIn K (.ref f35) = true)
    (a36 : PySem.W.nsIn K mainGlobals "_law_one" = some (some (.ref f36)))
    (l36 : K.lookup f36 = some ⟨oc36, od36, .func (PySem.W.fnOf "_law_one" "_law_one" (C8.fnArgs sOne) (C8.fnBody sOne) (C8.fnScope sOne) .none kV36 dc36 pm36 an36 cd36 ct36), sl36⟩)
    (c36 : PySem.W.codeIn K cd36 "_law_one" = true)
    (k36 : PySem.W.keepIn K (.ref f36) = true)
    (a37 : PySem.W.nsIn K mainGlobals "_law_signs" = some (some (.ref f37)))
    (l37 : K.lookup f37 = some ⟨oc37, od37, .func (PySem.W.fnOf "_law_signs" "_law_signs" (C8.fnArgs sSigns) (C8.fnBody sSigns) (C8.fnScope sSigns) .none kV37 dc37 pm37 an37 cd37 ct37), sl37⟩)
    (c37 : PySem.W.codeIn K cd37 "_law_signs" = true)
    (k37 : PySem.W.keepIn K (.ref f37) = true)
    (a38 : PySem.W.nsIn K mainGlobals "_law_deed" = some (some (.ref f38)))
    (l38 : K.lookup f38 = some ⟨oc38, od38, .func (PySem.W.fnOf "_law_deed" "_law_deed" (C8.fnArgs sDeed) (C8.fnBody sDeed) (C8.fnScope sDeed) .none kV38 dc38 pm38 an38 cd38 ct38), sl38⟩)
    (c38 : PySem.W.codeIn K cd38 "_law_deed" = true)
    (k38 : PySem.W.keepIn K (.ref f38) = true)
    (a39 : PySem.W.nsIn K mainGlobals "_law_folder" = some (some (.ref f39)))
    (l39 : K.lookup f39 = some ⟨oc39, od39, .func (PySem.W.fnOf "_law_folder" "_law_folder" (C8.fnArgs sFolder) (C8.fnBody sFolder) (C8.fnScope sFolder) .none kV39 dc39 pm39 an39 cd39 ct39), sl39⟩)
    (c39 : PySem.W.codeIn K cd39 "_law_folder" = true)
    (k39 : PySem.W.keepIn K (.ref f39) = true)
    (a40 : PySem.W.nsIn K mainGlobals "_law_sight" = some (some (.ref f40)))
    (l40 : K.lookup f40 = some ⟨oc40, od40, .func (PySem.W.fnOf "_law_sight" "_law_sight" (C8.fnArgs sSight) (C8.fnBody sSight) (C8.fnScope sSight) .none kV40 dc40 pm40 an40 cd40 ct40), sl40⟩)
    (c40 : PySem.W.codeIn K cd40 "_law_sight" = true)
    (k40 : PySem.W.keepIn K (.ref f40) = true)
    (a41 : PySem.W.nsIn K mainGlobals "_law_fits" = some (some (.ref f41)))
    (l41 : K.lookup f41 = some ⟨oc41, od41, .func (PySem.W.fnOf "_law_fits" "_law_fits" (C8.fnArgs sFits) (C8.fnBody sFits) (C8.fnScope sFits) .none kV41 dc41 pm41 an41 cd41 ct41), sl41⟩)
    (c41 : PySem.W.codeIn K cd41 "_law_fits" = true)
    (k41 : PySem.W.keepIn K (.ref f41) = true)
    (a42 : PySem.W.nsIn K mainGlobals "law" = some (some (.ref f42)))
    (l42 : K.lookup f42 = some ⟨oc42, od42, .func (PySem.W.fnOf "law" "law" (C8.fnArgs sLaw) (C8.fnBody sLaw) (C8.fnScope sLaw) .none kV42 dc42 pm42 an42 cd42 ct42), sl42⟩)
    (c42 : PySem.W.codeIn K cd42 "law" = true)
    (k42 : PySem.W.keepIn K (.ref f42) = true)
    (pg : PySem.W.plainGet K C Str.empty = true)
    (hd : PySem.W.hasDictIn K C = true)
    (po : PySem.W.plainOver K C = true)
    (sa : PySem.W.findIn K (.ref C) "__setattr__" = some (some (.builtin "object.__setattr__")))
    (mk : PySem.W.makesIn K C = true)
    (kc : PySem.W.keepIn K (.ref C) = true)
    (q1 : PySem.W.findIn K (.ref C) "__class__" = some (some (.builtin "object.__class__")))
    (q2 : PySem.W.specialIn K (.builtin "object.__class__") "__get__" = some (some (.builtin "getset_descriptor.__get__")))
    (q3 : PySem.W.takesIn K (.builtin "object.__class__") = some true)
    (q4 : PySem.W.mroIn K C (.type "object") = some true)
    (n0 : PySem.W.findIn K (.ref C) "years" = some none)
    (n1 : PySem.W.findIn K (.ref C) "holding" = some none)
    (n2 : PySem.W.findIn K (.ref C) "upcoming" = some none)
    (n3 : PySem.W.findIn K (.ref C) "latest" = some none)
    (n4 : PySem.W.findIn K (.ref C) "went" = some none)
    (n5 : PySem.W.findIn K (.ref C) "low" = some none)
    (z0 : PySem.W.nsIn K mainGlobals "len" = some none)
    (z1 : PySem.W.nsIn K mainGlobals "isinstance" = some none)
    (z2 : PySem.W.nsIn K mainGlobals "int" = some none)
    (z3 : PySem.W.nsIn K mainGlobals "bool" = some none)
    (z4 : PySem.W.nsIn K mainGlobals "str" = some none)
    (z5 : PySem.W.nsIn K mainGlobals "all" = some none)
    (z6 : PySem.W.nsIn K mainGlobals "range" = some none)
    (z7 : PySem.W.nsIn K mainGlobals "list" = some none)
    (z8 : PySem.W.nsIn K mainGlobals "tuple" = some none)
    (z9 : PySem.W.nsIn K mainGlobals "min" = some none)
    (z10 : PySem.W.nsIn K mainGlobals "max" = some none)
    (z11 : PySem.W.nsIn K mainGlobals "set" = some none)
    (z12 : PySem.W.nsIn K mainGlobals "sorted" = some none)
    (z13 : PySem.W.nsIn K mainGlobals "enumerate" = some none)
    (z14 : PySem.W.nsIn K mainGlobals "dict" = some none)
    (v1 : PySem.W.nsIn K mainGlobals "LETTERS" = some (some (.str "abcdefghijklmnopqrstuvwxyz" tv1)))
    (v2 : PySem.W.nsIn K mainGlobals "MOST_LETTERS" = some (some (.int 8 tv2)))
    (v3 : PySem.W.nsIn K mainGlobals "MOST_SIGNS" = some (some (.int 6 tv3)))
    (aD : PySem.W.nsIn K mainGlobals "LENGTHS" = some (some (.ref d)))
    (lD : K.lookup d = some ⟨.type "dict", none, .dict es n, #[]⟩)
    (e0 : PySem.W.nsIn K d "append" = some (some (.int 3 te0)))
    (e1 : PySem.W.nsIn K d "add" = some (some (.int 3 te1)))
    (e2 : PySem.W.nsIn K d "take" = some (some (.int 3 te2)))
    (e3 : PySem.W.nsIn K d "set" = some (some (.int 3 te3)))
    (e4 : PySem.W.nsIn K d "remove" = some (some (.int 2 te4)))
    (kD : PySem.W.KeysLit w.params es.toList)
    (sD : (d == sysModules) = false)
    : ∃ fd : FuncData, (∀ (s : Shared) (v : Value), BindsTo s fd ⟨[v], []⟩ [("_law_script", v)]) ∧ ∀ base : Heap, K.In base → base.Ns mainGlobals mg → FnOk l.prog w K mg base C8.CX0 11 fa fd ["_law_script"] (spLaw K) := by
  have e := hfa.symm.trans (PySem.W.mg_of X G a42)
  cases e
  have cl : Cls K C := ⟨pg, hd, po, sa⟩
  have T : Txt K mg C := ⟨cl, n0, n1, n2, n3, n4, n5, ⟨cl, q1, q2, q3, q4, kit_self⟩, PySem.W.mg_of X G aC, PySem.W.mg_none_of X G z0, PySem.W.mg_none_of X G z1, PySem.W.mg_none_of X G z2, PySem.W.mg_none_of X G z3, PySem.W.mg_none_of X G z4, PySem.W.mg_none_of X G z5, PySem.W.mg_none_of X G z6, PySem.W.mg_none_of X G z7, PySem.W.mg_none_of X G z8, PySem.W.mg_none_of X G z9, PySem.W.mg_none_of X G z10, PySem.W.mg_none_of X G z11, PySem.W.mg_none_of X G z12, PySem.W.mg_none_of X G z13, PySem.W.mg_none_of X G z14, ⟨_, PySem.W.mg_of X G v1, _, rfl⟩, ⟨_, PySem.W.mg_of X G v2, _, rfl⟩, ⟨_, PySem.W.mg_of X G v3, _, rfl⟩⟩
  have L : Lens K w mg d es n := ⟨PySem.W.mg_of X G aD, ⟨lD, kD, sD⟩, ⟨_, e0⟩, ⟨_, e1⟩, ⟨_, e2⟩, ⟨_, e3⟩, ⟨_, e4⟩⟩
  have F1 : C8.Fun K "is_int" "is_int" sIsInt _ _ := ⟨_, _, _, _, _, _, _, _, _, _, rfl, l1, c1⟩
  have b1 := F1.binds rfl (ps := ["thing"]) fun _ _ _ _ _ _ us hl => match us, hl with | [_], _ => rfl
  have F2 : C8.Fun K "is_least" "is_least" sIsLeast _ _ := ⟨_, _, _, _, _, _, _, _, _, _, rfl, l2, c2⟩
  have b2 := F2.binds rfl (ps := ["thing", "least"]) fun _ _ _ _ _ _ us hl => match us, hl with | [_, _], _ => rfl
  have F3 : C8.Fun K "is_sign" "is_sign" sIsSign _ _ := ⟨_, _, _, _, _, _, _, _, _, _, rfl, l3, c3⟩
  have b3 := F3.binds rfl (ps := ["thing"]) fun _ _ _ _ _ _ us hl => match us, hl with | [_], _ => rfl
  have F4 : C8.Fun K "is_signs" "is_signs" sIsSigns _ _ := ⟨_, _, _, _, _, _, _, _, _, _, rfl, l4, c4⟩
  have b4 := F4.binds rfl (ps := ["thing"]) fun _ _ _ _ _ _ us hl => match us, hl with | [_], _ => rfl
  have F5 : C8.Fun K "is_numbers" "is_numbers" sIsNumbers _ _ := ⟨_, _, _, _, _, _, _, _, _, _, rfl, l5, c5⟩
  have b5 := F5.binds rfl (ps := ["thing"]) fun _ _ _ _ _ _ us hl => match us, hl with | [_], _ => rfl
  have F6 : C8.Fun K "is_sight" "is_sight" sIsSight _ _ := ⟨_, _, _, _, _, _, _, _, _, _, rfl, l6, c6⟩
  have b6 := F6.binds rfl (ps := ["thing"]) fun _ _ _ _ _ _ us hl => match us, hl with | [_], _ => rfl
  have F7 : C8.Fun K "check_sights" "check_sights" sCheckSights _ _ := ⟨_, _, _, _, _, _, _, _, _, _, rfl, l7, c7⟩
  have b7 := F7.binds rfl (ps := ["one", "other"]) fun _ _ _ _ _ _ us hl => match us, hl with | [_, _], _ => rfl
  have F8 : C8.Fun K "between" "between" sBetween _ _ := ⟨_, _, _, _, _, _, _, _, _, _, rfl, l8, c8⟩
  have b8 := F8.binds rfl (ps := ["one", "other"]) fun _ _ _ _ _ _ us hl => match us, hl with | [_, _], _ => rfl
  have F9 : C8.Fun K "most_at_once" "most_at_once" sMost _ _ := ⟨_, _, _, _, _, _, _, _, _, _, rfl, l9, c9⟩
  have b9 := F9.binds rfl (ps := ["one", "other"]) fun _ _ _ _ _ _ us hl => match us, hl with | [_, _], _ => rfl
  have F10 : C8.Fun K "fewest_at_once" "fewest_at_once" sFewest _ _ := ⟨_, _, _, _, _, _, _, _, _, _, rfl, l10, c10⟩
  have b10 := F10.binds rfl (ps := ["one", "other"]) fun _ _ _ _ _ _ us hl => match us, hl with | [_, _], _ => rfl
  have F11 : C8.Fun K "word_of" "word_of" sWordOf _ _ := ⟨_, _, _, _, _, _, _, _, _, _, rfl, l11, c11⟩
  have b11 := F11.binds rfl (ps := ["least", "most", "whole"]) fun _ _ _ _ _ _ us hl => match us, hl with | [_, _, _], _ => rfl
  have F12 : C8.Fun K "surely" "surely" sSurely _ _ := ⟨_, _, _, _, _, _, _, _, _, _, rfl, l12, c12⟩
  have b12 := F12.binds rfl (ps := ["one", "other"]) fun _ _ _ _ _ _ us hl => match us, hl with | [_, _], _ => rfl
  have F13 : C8.Fun K "__init__" "Folder.__init__" sInit _ _ := ⟨_, _, _, _, _, _, _, _, _, _, rfl, l13, c13⟩
  have b13 := F13.binds rfl (ps := ["self", "age"]) fun _ _ _ _ _ _ us hl => match us, hl with | [_, _], _ => rfl
  have F14 : C8.Fun K "twin" "twin" sTwin _ _ := ⟨_, _, _, _, _, _, _, _, _, _, rfl, l14, c14⟩
  have b14 := F14.binds rfl (ps := ["folder"]) fun _ _ _ _ _ _ us hl => match us, hl with | [_], _ => rfl
  have F15 : C8.Fun K "check_numbers" "check_numbers" sCheckNumbers _ _ := ⟨_, _, _, _, _, _, _, _, _, _, rfl, l15, c15⟩
  have b15 := F15.binds rfl (ps := ["numbers"]) fun _ _ _ _ _ _ us hl => match us, hl with | [_], _ => rfl
  have F16 : C8.Fun K "check_folder" "check_folder" sCheckFolder _ _ := ⟨_, _, _, _, _, _, _, _, _, _, rfl, l16, c16⟩
  have b16 := F16.binds rfl (ps := ["thing"]) fun _ _ _ _ _ _ us hl => match us, hl with | [_], _ => rfl
  have F17 : C8.Fun K "age" "Folder.age" sAge _ _ := ⟨_, _, _, _, _, _, _, _, _, _, rfl, l17, c17⟩
  have b17 := F17.binds rfl (ps := ["self"]) fun _ _ _ _ _ _ us hl => match us, hl with | [_], _ => rfl
  have F18 : C8.Fun K "next_number" "Folder.next_number" sNext _ _ := ⟨_, _, _, _, _, _, _, _, _, _, rfl, l18, c18⟩
  have b18 := F18.binds rfl (ps := ["self"]) fun _ _ _ _ _ _ us hl => match us, hl with | [_], _ => rfl
  have F19 : C8.Fun K "mark" "Folder.mark" sMark _ _ := ⟨_, _, _, _, _, _, _, _, _, _, rfl, l19, c19⟩
  have b19 := F19.binds rfl (ps := ["self"]) fun _ _ _ _ _ _ us hl => match us, hl with | [_], _ => rfl
  have F20 : C8.Fun K "letters" "Folder.letters" sLetters _ _ := ⟨_, _, _, _, _, _, _, _, _, _, rfl, l20, c20⟩
  have b20 := F20.binds rfl (ps := ["self"]) fun _ _ _ _ _ _ us hl => match us, hl with | [_], _ => rfl
  have F21 : C8.Fun K "among" "among" sAmong _ _ := ⟨_, _, _, _, _, _, _, _, _, _, rfl, l21, c21⟩
  have b21 := F21.binds rfl (ps := ["folder", "numbers"]) fun _ _ _ _ _ _ us hl => match us, hl with | [_, _], _ => rfl
  have F22 : C8.Fun K "with_letter" "with_letter" sWithLetter _ _ := ⟨_, _, _, _, _, _, _, _, _, _, rfl, l22, c22⟩
  have b22 := F22.binds rfl (ps := ["folder", "body", "signs"]) fun _ _ _ _ _ _ us hl => match us, hl with | [_, _, _], _ => rfl
  have F23 : C8.Fun K "resigned" "resigned" sResigned _ _ := ⟨_, _, _, _, _, _, _, _, _, _, rfl, l23, c23⟩
  have b23 := F23.binds rfl (ps := ["folder", "letter", "signs"]) fun _ _ _ _ _ _ us hl => match us, hl with | [_, _, _], _ => rfl
  have F24 : C8.Fun K "without" "without" sWithout _ _ := ⟨_, _, _, _, _, _, _, _, _, _, rfl, l24, c24⟩
  have b24 := F24.binds rfl (ps := ["folder", "number"]) fun _ _ _ _ _ _ us hl => match us, hl with | [_, _], _ => rfl
  have F25 : C8.Fun K "appended" "Folder.appended" sAppended _ _ := ⟨_, _, _, _, _, _, _, _, _, _, rfl, l25, c25⟩
  have b25 := F25.binds rfl (ps := ["self", "body", "signs"]) fun _ _ _ _ _ _ us hl => match us, hl with | [_, _, _], _ => rfl
  have F26 : C8.Fun K "set_to" "Folder.set_to" sSetTo _ _ := ⟨_, _, _, _, _, _, _, _, _, _, rfl, l26, c26⟩
  have b26 := F26.binds rfl (ps := ["self", "numbers", "signs"]) fun _ _ _ _ _ _ us hl => match us, hl with | [_, _, _], _ => rfl
  have F27 : C8.Fun K "removed" "Folder.removed" sRemoved _ _ := ⟨_, _, _, _, _, _, _, _, _, _, rfl, l27, c27⟩
  have b27 := F27.binds rfl (ps := ["self", "numbers"]) fun _ _ _ _ _ _ us hl => match us, hl with | [_, _], _ => rfl
  have F28 : C8.Fun K "added" "Folder.added" sAdded _ _ := ⟨_, _, _, _, _, _, _, _, _, _, rfl, l28, c28⟩
  have b28 := F28.binds rfl (ps := ["self", "numbers", "sign"]) fun _ _ _ _ _ _ us hl => match us, hl with | [_, _, _], _ => rfl
  have F29 : C8.Fun K "taken" "Folder.taken" sTaken _ _ := ⟨_, _, _, _, _, _, _, _, _, _, rfl, l29, c29⟩
  have b29 := F29.binds rfl (ps := ["self", "numbers", "sign"]) fun _ _ _ _ _ _ us hl => match us, hl with | [_, _, _], _ => rfl
  have F30 : C8.Fun K "done" "done" sDone _ _ := ⟨_, _, _, _, _, _, _, _, _, _, rfl, l30, c30⟩
  have b30 := F30.binds rfl (ps := ["folder", "deed"]) fun _ _ _ _ _ _ us hl => match us, hl with | [_, _], _ => rfl
  have F31 : C8.Fun K "has_form" "has_form" sHasForm _ _ := ⟨_, _, _, _, _, _, _, _, _, _, rfl, l31, c31⟩
  have b31 := F31.binds rfl (ps := ["deed"]) fun _ _ _ _ _ _ us hl => match us, hl with | [_], _ => rfl
  have F32 : C8.Fun K "played" "played" sPlayed _ _ := ⟨_, _, _, _, _, _, _, _, _, _, rfl, l32, c32⟩
  have b32 := F32.binds rfl (ps := ["folder", "history"]) fun _ _ _ _ _ _ us hl => match us, hl with | [_, _], _ => rfl
  have F33 : C8.Fun K "_law_cell_at" "_law_cell_at" sCellAt _ _ := ⟨_, _, _, _, _, _, _, _, _, _, rfl, l33, c33⟩
  have b33 := F33.binds rfl (ps := ["_law_script", "_law_k"]) fun _ _ _ _ _ _ us hl => match us, hl with | [_, _], _ => rfl
  have F34 : C8.Fun K "_law_well" "_law_well" sWell _ _ := ⟨_, _, _, _, _, _, _, _, _, _, rfl, l34, c34⟩
  have b34 := F34.binds rfl (ps := ["_law_cell"]) fun _ _ _ _ _ _ us hl => match us, hl with | [_], _ => rfl
  have F35 : C8.Fun K "_law_draw" "_law_draw" sDraw _ _ := ⟨_, _, _, _, _, _, _, _, _, _, rfl, l35, c35⟩
  have b35 := F35.binds rfl (ps := ["_law_well_here", "_law_many"]) fun _ _ _ _ _ _ us hl => match us, hl with | [_, _], _ => rfl
  have F36 : C8.Fun K "_law_one" "_law_one" sOne _ _ := ⟨_, _, _, _, _, _, _, _, _, _, rfl, l36, c36⟩
  have b36 := F36.binds rfl (ps := ["_law_well_here", "_law_some"]) fun _ _ _ _ _ _ us hl => match us, hl with | [_, _], _ => rfl
  have F37 : C8.Fun K "_law_signs" "_law_signs" sSigns _ _ := ⟨_, _, _, _, _, _, _, _, _, _, rfl, l37, c37⟩
  have b37 := F37.binds rfl (ps := ["_law_well_here"]) fun _ _ _ _ _ _ us hl => match us, hl with | [_], _ => rfl
  have F38 : C8.Fun K "_law_deed" "_law_deed" sDeed _ _ := ⟨_, _, _, _, _, _, _, _, _, _, rfl, l38, c38⟩
  have b38 := F38.binds rfl (ps := ["_law_well_here", "_law_folder_here"]) fun _ _ _ _ _ _ us hl => match us, hl with | [_, _], _ => rfl
  have F39 : C8.Fun K "_law_folder" "_law_folder" sFolder _ _ := ⟨_, _, _, _, _, _, _, _, _, _, rfl, l39, c39⟩
  have b39 := F39.binds rfl (ps := ["_law_well_here", "_law_most"]) fun _ _ _ _ _ _ us hl => match us, hl with | [_, _], _ => rfl
  have F40 : C8.Fun K "_law_sight" "_law_sight" sSight _ _ := ⟨_, _, _, _, _, _, _, _, _, _, rfl, l40, c40⟩
  have b40 := F40.binds rfl (ps := ["_law_folder_here"]) fun _ _ _ _ _ _ us hl => match us, hl with | [_], _ => rfl
  have F41 : C8.Fun K "_law_fits" "_law_fits" sFits _ _ := ⟨_, _, _, _, _, _, _, _, _, _, rfl, l41, c41⟩
  have b41 := F41.binds rfl (ps := ["_law_word", "_law_some", "_law_whole"]) fun _ _ _ _ _ _ us hl => match us, hl with | [_, _, _], _ => rfl
  have F42 : C8.Fun K "law" "law" sLaw _ _ := ⟨_, _, _, _, _, _, _, _, _, _, rfl, l42, c42⟩
  refine ⟨PySem.W.fnOf "law" "law" (C8.fnArgs sLaw) (C8.fnBody sLaw) (C8.fnScope sLaw) .none kV42 dc42 pm42 an42 cd42 ct42, fun s v => .of_eq rfl, fun base _ _ => ?_⟩
  have w_is_int := ok_isInt (P := l.prog) (w := w) (base := base) ⟨F1, PySem.W.mg_of X G a1, k1⟩ b1 T 
  have w_is_least := ok_isLeast (P := l.prog) (w := w) (base := base) ⟨F2, PySem.W.mg_of X G a2, k2⟩ b2 T w_is_int
  have w_is_sign := ok_isSign (P := l.prog) (w := w) (base := base) ⟨F3, PySem.W.mg_of X G a3, k3⟩ b3 T 
  have w_is_signs := ok_isSigns (P := l.prog) (w := w) (base := base) ⟨F4, PySem.W.mg_of X G a4, k4⟩ b4 T w_is_sign
  have w_is_numbers := ok_isNumbers (P := l.prog) (w := w) (base := base) ⟨F5, PySem.W.mg_of X G a5, k5⟩ b5 T w_is_least
  have w_is_sight := ok_isSight (P := l.prog) (w := w) (base := base) ⟨F6, PySem.W.mg_of X G a6, k6⟩ b6 T w_is_least
  have w_check_sights := ok_checkSights (P := l.prog) (w := w) (base := base) ⟨F7, PySem.W.mg_of X G a7, k7⟩ b7 T w_is_sight
  have w_between := ok_between (P := l.prog) (w := w) (base := base) ⟨F8, PySem.W.mg_of X G a8, k8⟩ b8 T w_check_sights
  have w_most_at_once := ok_most (P := l.prog) (w := w) (base := base) ⟨F9, PySem.W.mg_of X G a9, k9⟩ b9 T w_between
  have w_fewest_at_once := ok_fewest (P := l.prog) (w := w) (base := base) ⟨F10, PySem.W.mg_of X G a10, k10⟩ b10 T w_between
  have w_word_of := ok_wordOf (P := l.prog) (w := w) (base := base) ⟨F11, PySem.W.mg_of X G a11, k11⟩ b11 T 
  have w_surely := ok_surely (P := l.prog) (w := w) (base := base) ⟨F12, PySem.W.mg_of X G a12, k12⟩ b12 T w_between w_word_of
  have w_init := ok_init (P := l.prog) (w := w) (base := base) ⟨mk, a13, i13, kc⟩ F13 b13 T w_is_least
  have w_twin := ok_twin (P := l.prog) (w := w) (base := base) ⟨F14, PySem.W.mg_of X G a14, k14⟩ b14 T w_init
  have w_check_numbers := ok_checkNumbers (P := l.prog) (w := w) (base := base) ⟨F15, PySem.W.mg_of X G a15, k15⟩ b15 T w_is_numbers
  have w_check_folder := ok_checkFolder (P := l.prog) (w := w) (base := base) ⟨F16, PySem.W.mg_of X G a16, k16⟩ b16 T 
  have w_age := ok_age (P := l.prog) (w := w) (base := base) ⟨a17, i17, k17⟩ F17 b17 T 
  have w_next_number := ok_next (P := l.prog) (w := w) (base := base) ⟨a18, i18, k18⟩ F18 b18 T 
  have w_mark := ok_mark (P := l.prog) (w := w) (base := base) ⟨a19, i19, k19⟩ F19 b19 T 
  have w_letters := ok_letters (P := l.prog) (w := w) (base := base) ⟨a20, i20, k20⟩ F20 b20 T 
  have w_among := ok_among (P := l.prog) (w := w) (base := base) ⟨F21, PySem.W.mg_of X G a21, k21⟩ b21 T 
  have w_with_letter := ok_withLetter (P := l.prog) (w := w) (base := base) ⟨F22, PySem.W.mg_of X G a22, k22⟩ b22 T w_twin
  have w_resigned := ok_resigned (P := l.prog) (w := w) (base := base) ⟨F23, PySem.W.mg_of X G a23, k23⟩ b23 T w_twin
  have w_without := ok_without (P := l.prog) (w := w) (base := base) ⟨F24, PySem.W.mg_of X G a24, k24⟩ b24 T w_twin
  have w_appended := ok_appended (P := l.prog) (w := w) (base := base) ⟨a25, i25, k25⟩ F25 b25 T w_is_least w_is_signs w_with_letter
  have w_set_to := ok_setTo (P := l.prog) (w := w) (base := base) ⟨a26, i26, k26⟩ F26 b26 T w_check_numbers w_is_signs w_among w_resigned
  have w_removed := ok_removed (P := l.prog) (w := w) (base := base) ⟨a27, i27, k27⟩ F27 b27 T w_check_numbers w_among w_without
  have w_added := ok_added (P := l.prog) (w := w) (base := base) ⟨a28, i28, k28⟩ F28 b28 T w_check_numbers w_is_sign w_among w_resigned
  have w_taken := ok_taken (P := l.prog) (w := w) (base := base) ⟨a29, i29, k29⟩ F29 b29 T w_check_numbers w_is_sign w_among w_resigned
  have w_done := ok_done (P := l.prog) (w := w) (base := base) ⟨F30, PySem.W.mg_of X G a30, k30⟩ b30 T w_appended w_added w_taken w_set_to w_removed
  have w_has_form := ok_hasForm (P := l.prog) (w := w) (base := base) ⟨F31, PySem.W.mg_of X G a31, k31⟩ b31 T L
  have w_played := ok_played (P := l.prog) (w := w) (base := base) ⟨F32, PySem.W.mg_of X G a32, k32⟩ b32 T w_check_folder w_has_form w_done
  have w__law_cell_at := ok_cellAt (P := l.prog) (w := w) (base := base) ⟨F33, PySem.W.mg_of X G a33, k33⟩ b33 T 
  have w__law_well := ok_well (P := l.prog) (w := w) (base := base) ⟨F34, PySem.W.mg_of X G a34, k34⟩ b34 T 
  have w__law_draw := ok_draw (P := l.prog) (w := w) (base := base) ⟨F35, PySem.W.mg_of X G a35, k35⟩ b35 T 
  have w__law_one := ok_one (P := l.prog) (w := w) (base := base) ⟨F36, PySem.W.mg_of X G a36, k36⟩ b36 T w__law_draw
  have w__law_signs := ok_signs (P := l.prog) (w := w) (base := base) ⟨F37, PySem.W.mg_of X G a37, k37⟩ b37 T w__law_one
  have w__law_deed := ok_deed (P := l.prog) (w := w) (base := base) ⟨F38, PySem.W.mg_of X G a38, k38⟩ b38 T w__law_draw w__law_signs w__law_one w_next_number
  have w__law_folder := ok_folder (P := l.prog) (w := w) (base := base) ⟨F39, PySem.W.mg_of X G a39, k39⟩ b39 T w__law_draw w_init w__law_deed w_played
  have w__law_sight := ok_sight (P := l.prog) (w := w) (base := base) ⟨F40, PySem.W.mg_of X G a40, k40⟩ b40 T w_age w_letters w_next_number w_mark
  have w__law_fits := ok_fits (P := l.prog) (w := w) (base := base) ⟨F41, PySem.W.mg_of X G a41, k41⟩ b41 T 
  exact ok_law ⟨F42, PySem.W.mg_of X G a42, k42⟩ T w__law_cell_at w__law_well w__law_draw w__law_folder w__law_deed w_played w__law_sight w_letters w_between w_most_at_once w_fewest_at_once w_surely w__law_fits
theorem walk {l : PySem.W.OpenLaw} {q : Program} {loose : List Str} {XP : (Str → Option Value) → Heap → Prop} {YP : World → Heap → Prop} {d : DefRec} {K : Params → PySem.W.Frag} (hn : l.most = some 63) (hdf : d.params.defaults = [])
    (hY : ∀ (w : World) (h : Heap), YP w h → (K w.params).In h)
    (F : ∀ (w : World) (mg : Str → Option Value) (fa : Addr) (h : Heap), (K w.params).In h → h.Ns mainGlobals mg → mg d.name = some (.ref fa) →
      ∃ fd : FuncData, (∀ (s : Shared) (u : Value), BindsTo s fd ⟨[u], []⟩ [("_law_script", u)]) ∧ ∀ base : Heap, (K w.params).In base → base.Ns mainGlobals mg → FnOk l.prog w (K w.params) mg base C8.CX0 11 fa fd ["_law_script"] (spLaw (K w.params))) :
    PySem.W.WalkO q loose XP YP l.row.toRowW d [] (fun f vs => PySem.call f vs) :=
  L2.walk_of (n := 63) (k := 11) (x := "_law_script") (CX := fun _ => C8.CX0) (sp := fun w => spLaw (K w.params)) hn (by decide) hdf ⟨rfl, by decide, by decide⟩ hY F (fun _ _ a ns hl _ hS => ⟨a, ns, rfl, hS, hl, fun _ => rfl⟩) fun _ _ _ _ _ z => z
end K59
open PySem PySem.W PyProof.Rows in
set_option maxRecDepth 100000 in
set_option maxHeartbeats 0 in
theorem PySem.Challenge.cw_mailtide_k59_whole_sights_of_real_folder_holds : PySem.Challenge.rw_mailtide_k59_whole_sights_of_real_folder.Holds := by
  w_on; o_law; k_head; (case hw => w_witness2)
  k_fill
  refine K59.walk (l := PySem.Challenge.rw_mailtide_k59_whole_sights_of_real_folder) rfl rfl (fun w h Y => PySem.W.kIn_of Y) ?F
  case F =>
    intro w mg fa h KX G hmg
    refine' K59.all_mk KX G hmg ?aC ?a1 ?l1 ?c1 ?k1 ?a2 ?l2 ?c2 ?k2 ?a3 ?l3 ?c3 ?k3 ?a4 ?l4 ?c4 ?k4 ?a5 ?l5 ?c5 ?k5 ?a6 ?l6 ?c6 ?k6 ?a7 ?l7 ?c7 ?k7 ?a8 ?l8 ?c8 ?k8 ?a9 ?l9 ?c9 ?k9 ?a10 ?l10 ?c10 ?k10 ?a11 ?l11 ?c11 ?k11 ?a12 ?l12 ?c12 ?k12 ?a13 ?i13 ?l13 ?c13 ?k13 ?a14 ?l14 ?c14 ?k14 ?a15 ?l15 ?c15 ?k15 ?a16 ?l16 ?c16 ?k16 ?a17 ?i17 ?l17 ?c17 ?k17 ?a18 ?i18 ?l18 ?c18 ?k18 ?a19 ?i19 ?l19 ?c19 ?k19 ?a20 ?i20 ?l20 ?c20 ?k20 ?a21 ?l21 ?c21 ?k21 ?a22 ?l22 ?c22 ?k22 ?a23 ?l23 ?c23 ?k23 ?a24 ?l24 ?c24 ?k24 ?a25 ?i25 ?l25 ?c25 ?k25 ?a26 ?i26 ?l26 ?c26 ?k26 ?a27 ?i27 ?l27 ?c27 ?k27 ?a28 ?i28 ?l28 ?c28 ?k28 ?a29 ?i29 ?l29 ?c29 ?k29 ?a30 ?l30 ?c30 ?k30 ?a31 ?l31 ?c31 ?k31 ?a32 ?l32 ?c32 ?k32 ?a33 ?l33 ?c33 ?k33 ?a34 ?l34 ?c34 ?k34 ?a35 ?l35 ?c35 ?k35 ?a36 ?l36 ?c36 ?k36 ?a37 ?l37 ?c37 ?k37 ?a38 ?l38 ?c38 ?k38 ?a39 ?l39 ?c39 ?k39 ?a40 ?l40 ?c40 ?k40 ?a41 ?l41 ?c41 ?k41 ?a42 ?l42 ?c42 ?k42 ?pg ?hd ?po ?sa ?mk ?kc ?q1 ?q2 ?q3 ?q4 ?n0 ?n1 ?n2 ?n3 ?n4 ?n5 ?z0 ?z1 ?z2 ?z3 ?z4 ?z5 ?z6 ?z7 ?z8 ?z9 ?z10 ?z11 ?z12 ?z13 ?z14 ?v1 ?v2 ?v3 ?aD ?lD ?e0 ?e1 ?e2 ?e3 ?e4 ?kD ?sD
    (case aC => k_is)
    (case a1 => k_is)
    (case l1 => k_is)
    (case c1 => k_is)
    (case k1 => k_is)
    (case a2 => k_is)
    (case l2 => k_is)
    (case c2 => k_is)
    (case k2 => k_is)
    (case a3 => k_is)
    (case l3 => k_is)
    (case c3 => k_is)
    (case k3 => k_is)
    (case a4 => k_is)
    (case l4 => k_is)
    (case c4 => k_is)
    (case k4 => k_is)
    (case a5 => k_is)
    (case l5 => k_is)
    (case c5 => k_is)
    (case k5 => k_is)
    (case a6 => k_is)
    (case l6 => k_is)
    (case c6 => k_is)
    (case k6 => k_is)
    (case a7 => k_is)
    (case l7 => k_is)
    (case c7 => k_is)
    (case k7 => k_is)
    (case a8 => k_is)
    (case l8 => k_is)
    (case c8 => k_is)
    (case k8 => k_is)
    (case a9 => k_is)
    (case l9 => k_is)
    (case c9 => k_is)
    (case k9 => k_is)
    (case a10 => k_is)
    (case l10 => k_is)
    (case c10 => k_is)
    (case k10 => k_is)
    (case a11 => k_is)
    (case l11 => k_is)
    (case c11 => k_is)
    (case k11 => k_is)
    (case a12 => k_is)
    (case l12 => k_is)
    (case c12 => k_is)
    (case k12 => k_is)
    (case a13 => k_is)
    (case i13 => k_is)
    (case l13 => k_is)
    (case c13 => k_is)
    (case k13 => k_is)
    (case a14 => k_is)
    (case l14 => k_is)
    (case c14 => k_is)
    (case k14 => k_is)
    (case a15 => k_is)
    (case l15 => k_is)
    (case c15 => k_is)
    (case k15 => k_is)
    (case a16 => k_is)
    (case l16 => k_is)
    (case c16 => k_is)
    (case k16 => k_is)
    (case a17 => k_is)
    (case i17 => k_is)
    (case l17 => k_is)
    (case c17 => k_is)
    (case k17 => k_is)
    (case a18 => k_is)
    (case i18 => k_is)
    (case l18 => k_is)
    (case c18 => k_is)
    (case k18 => k_is)
    (case a19 => k_is)
    (case i19 => k_is)
    (case l19 => k_is)
    (case c19 => k_is)
    (case k19 => k_is)
    (case a20 => k_is)
    (case i20 => k_is)
    (case l20 => k_is)
    (case c20 => k_is)
    (case k20 => k_is)
    (case a21 => k_is)
    (case l21 => k_is)
    (case c21 => k_is)
    (case k21 => k_is)
    (case a22 => k_is)
    (case l22 => k_is)
    (case c22 => k_is)
    (case k22 => k_is)
    (case a23 => k_is)
    (case l23 => k_is)
    (case c23 => k_is)
    (case k23 => k_is)
    (case a24 => k_is)
    (case l24 => k_is)
    (case c24 => k_is)
    (case k24 => k_is)
    (case a25 => k_is)
    (case i25 => k_is)
    (case l25 => k_is)
    (case c25 => k_is)
    (case k25 => k_is)
    (case a26 => k_is)
    (case i26 => k_is)
    (case l26 => k_is)
    (case c26 => k_is)
    (case k26 => k_is)
    (case a27 => k_is)
    (case i27 => k_is)
    (case l27 => k_is)
    (case c27 => k_is)
    (case k27 => k_is)
    (case a28 => k_is)
    (case i28 => k_is)
    (case l28 => k_is)
    (case c28 => k_is)
    (case k28 => k_is)
    (case a29 => k_is)
    (case i29 => k_is)
    (case l29 => k_is)
    (case c29 => k_is)
    (case k29 => k_is)
    (case a30 => k_is)
    (case l30 => k_is)
    (case c30 => k_is)
    (case k30 => k_is)
    (case a31 => k_is)
    (case l31 => k_is)
    (case c31 => k_is)
    (case k31 => k_is)
    (case a32 => k_is)
    (case l32 => k_is)
    (case c32 => k_is)
    (case k32 => k_is)
    (case a33 => k_is)
    (case l33 => k_is)
    (case c33 => k_is)
    (case k33 => k_is)
    (case a34 => k_is)
    (case l34 => k_is)
    (case c34 => k_is)
    (case k34 => k_is)
    (case a35 => k_is)
    (case l35 => k_is)
    (case c35 => k_is)
    (case k35 => k_is)
    (case a36 => k_is)
    (case l36 => k_is)
    (case c36 => k_is)
    (case k36 => k_is)
    (case a37 => k_is)
    (case l37 => k_is)
    (case c37 => k_is)
    (case k37 => k_is)
    (case a38 => k_is)
    (case l38 => k_is)
    (case c38 => k_is)
    (case k38 => k_is)
    (case a39 => k_is)
    (case l39 => k_is)
    (case c39 => k_is)
    (case k39 => k_is)
    (case a40 => k_is)
    (case l40 => k_is)
    (case c40 => k_is)
    (case k40 => k_is)
    (case a41 => k_is)
    (case l41 => k_is)
    (case c41 => k_is)
    (case k41 => k_is)
    (case a42 => k_is)
    (case l42 => k_is)
    (case c42 => k_is)
    (case k42 => k_is)
    (case pg => k_is)
    (case hd => k_is)
    (case po => k_is)
    (case sa => k_is)
    (case mk => k_is)
    (case kc => k_is)
    (case q1 => k_is)
    (case q2 => k_is)
    (case q3 => k_is)
    (case q4 => k_is)
    (case n0 => k_is)
    (case n1 => k_is)
    (case n2 => k_is)
    (case n3 => k_is)
    (case n4 => k_is)
    (case n5 => k_is)
    (case z0 => k_is)
    (case z1 => k_is)
    (case z2 => k_is)
    (case z3 => k_is)
    (case z4 => k_is)
    (case z5 => k_is)
    (case z6 => k_is)
    (case z7 => k_is)
    (case z8 => k_is)
    (case z9 => k_is)
    (case z10 => k_is)
    (case z11 => k_is)
    (case z12 => k_is)
    (case z13 => k_is)
    (case z14 => k_is)
    (case v1 => k_is)
    (case v2 => k_is)
    (case v3 => k_is)
    (case aD => k_is)
    (case lD => k_is)
    (case e0 => k_is)
    (case e1 => k_is)
    (case e2 => k_is)
    (case e3 => k_is)
    (case e4 => k_is)
    (case kD => k_keys)
    (case sD => decide)
