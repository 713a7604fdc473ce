import PyProof.Rows.All
import Wide.All
import OpenK.AllK
import Wide.FinOn
import KE.KStateDown
import Lean
import HandS.ForMost
import HandS.Codes
import HandS.Exc
import HandS.WordsExc
import HandS.Defaults
import HandS.Evl
import HandS.Wide
import HandS.StrMore
import HandS.SetKeys
import HandS.DictComp
import HandS.DictTup
import HandS.Conv
import HandS.NoneIn
import HandS.Style
import HandS.Flow
import HandS.IsInst
import HandS.SortInts
import HandS.TupAny
import HandS.Small
import HandS.Head0
import HandS.Head1
import HandS.Head2
import HandS.HeadEnd
import HandS.HeadHook1
import HandS.HeadHook2
import PyProof.ListStr
import PySem.Challenge.RW_newsinorder_k35_whole_later_and_sooner
set_option Elab.async false
set_option linter.all false
set_option maxRecDepth 100000
set_option maxHeartbeats 0
/-! Total preorders of n things, as blocks from the lowest to the highest: how many there are, and that each stands among them. -/
namespace K35
/-- x put into such a row of blocks, in every way -/
def ins (x : Nat) : List (List Nat) → List (List (List Nat))
  | [] => [[[x]]]
  | b :: bs => ([x] :: b :: bs) :: ((x :: b) :: bs) :: (ins x bs).map (b :: ·)
/-- r more things put in, from s on -/
def runW : Nat → Nat → List (List Nat) → List (List (List Nat))
  | 0, _, bs => [bs]
  | r + 1, s, bs => (ins s bs).flatMap (runW r (s + 1))
def gW : Nat → Nat → Nat
  | 0, _ => 1
  | r + 1, m => m * gW r m + (m + 1) * gW r (m + 1)
theorem ins_sum (x : Nat) : ∀ (bs : List (List Nat)) (f : Nat → Nat), ((ins x bs).map fun c => f c.length).sum = bs.length * f bs.length + (bs.length + 1) * f (bs.length + 1)
  | [], f => by simp [ins]
  | b :: bs, f => by
    have ih := ins_sum x bs (fun k => f (k + 1))
    simp only [ins, List.map_cons, List.map_map, List.sum_cons, List.length_cons, Function.comp_def]
    rw [ih]
    generalize f (bs.length + 1) = u
    generalize f (bs.length + 1 + 1) = v
    generalize bs.length = m
    rw [Nat.add_mul m 1 u, Nat.add_mul (m + 1) 1 v]
    omega
theorem run_len : ∀ (r s : Nat) (bs : List (List Nat)), (runW r s bs).length = gW r bs.length
  | 0, _, _ => rfl
  | r + 1, s, bs => by
    show ((ins s bs).flatMap (runW r (s + 1))).length = _
    rw [List.length_flatMap]
    have e : (ins s bs).map (fun c => (runW r (s + 1) c).length) = (ins s bs).map fun c => gW r c.length := List.map_congr_left fun c _ => run_len r (s + 1) c
    rw [e, ins_sum s bs (gW r)]
    rfl
def enumW (n : Nat) : List (List (List Nat)) := runW n 0 []
theorem enum_len {n : Nat} (h : n ≤ 9) : (enumW n).length ≤ 7087261 := by
  unfold enumW
  rw [run_len]
  have : ∀ n : Fin 10, gW n.val ([] : List (List Nat)).length ≤ 7087261 := by decide +kernel
  exact this ⟨n, by omega⟩
/-- the place of a thing's block -/
def rkW : List (List Nat) → Nat → Nat
  | [], _ => 0
  | b :: bs, a => if a ∈ b then 0 else rkW bs a + 1
/-- the blocks lie as P says -/
def Srt (P : Nat → Nat → Prop) : List (List Nat) → Prop
  | [] => True
  | b :: bs => b ≠ [] ∧ (∀ u ∈ b, ∀ v ∈ b, P u v) ∧ (∀ u ∈ b, ∀ c ∈ bs, ∀ v ∈ c, P u v ∧ ¬ P v u) ∧ Srt P bs
theorem rk_iff {P : Nat → Nat → Prop} : ∀ {bs : List (List Nat)}, Srt P bs → ∀ a b : Nat, (∃ c ∈ bs, a ∈ c) → (∃ c ∈ bs, b ∈ c) → (P a b ↔ rkW bs a ≤ rkW bs b)
  | [], _, a, b, h, _ => by obtain ⟨c, hc, _⟩ := h; cases hc
  | c :: bs, ⟨h1, h2, h3, h4⟩, a, b, ha, hb => by
    by_cases ea : a ∈ c
    · by_cases eb : b ∈ c
      · simp [rkW, ea, eb, h2 a ea b eb]
      · obtain ⟨d, hd, hbd⟩ := hb
        rcases List.mem_cons.mp hd with rfl | hd
        · exact absurd hbd eb
        · simp [rkW, ea, (h3 a ea d hd b hbd).1]
    · obtain ⟨d, hd, had⟩ := ha
      rcases List.mem_cons.mp hd with rfl | hd
      · exact absurd had ea
      · by_cases eb : b ∈ c
        · simp [rkW, ea, eb, (h3 b eb d hd a had).2]
        · obtain ⟨e, he, hbe⟩ := hb
          rcases List.mem_cons.mp he with rfl | he
          · exact absurd hbe eb
          · simp only [rkW, ea, eb, if_false]
            rw [rk_iff h4 a b ⟨d, hd, had⟩ ⟨e, he, hbe⟩]
            omega
/-- total and transitive on the things below n -/
structure TotP (n : Nat) (P : Nat → Nat → Prop) : Prop where
  tot : ∀ a b, a < n → b < n → P a b ∨ P b a
  tr : ∀ a b c, a < n → b < n → c < n → P a b → P b c → P a c
theorem ins_ok {n : Nat} {P : Nat → Nat → Prop} (T : TotP n P) {x : Nat} (hx : x < n) : ∀ {bs : List (List Nat)}, Srt P bs → (∀ c ∈ bs, ∀ v ∈ c, v < n) →
    ∃ ds ∈ ins x bs, Srt P ds ∧ ∀ v, (∃ c ∈ ds, v ∈ c) ↔ (v = x ∨ ∃ c ∈ bs, v ∈ c)
  | [], _, _ => ⟨[[x]], by simp [ins], by
      refine ⟨by simp, fun u hu v hv => ?_, fun u _ c hc => (by cases hc), trivial⟩
      rw [List.mem_singleton] at hu hv
      subst hu; subst hv
      rcases T.tot _ _ hx hx with h | h <;> exact h, fun v => by simp⟩
  | b :: bs, ⟨h1, h2, h3, h4⟩, hn => by
    have hbn : ∀ v ∈ b, v < n := hn b List.mem_cons_self
    have hsn : ∀ c ∈ bs, ∀ v ∈ c, v < n := fun c hc => hn c (List.mem_cons_of_mem _ hc)
    have xx : P x x := by rcases T.tot _ _ hx hx with h | h <;> exact h
    obtain ⟨y, hy⟩ := List.exists_mem_of_ne_nil b h1
    by_cases p1 : P x y
    · by_cases p2 : P y x
      · -- within the block
        refine ⟨(x :: b) :: bs, by simp [ins], ⟨by simp, fun u hu v hv => ?_, fun u hu c hc v hv => ?_, h4⟩, fun v => ?_⟩
        · rcases List.mem_cons.mp hu with e1 | hu'
          · rcases List.mem_cons.mp hv with e2 | hv'
            · rw [e1, e2]; exact xx
            · rw [e1]; exact T.tr _ _ _ hx (hbn y hy) (hbn v hv') p1 (h2 y hy v hv')
          · rcases List.mem_cons.mp hv with e2 | hv'
            · rw [e2]; exact T.tr _ _ _ (hbn u hu') (hbn y hy) hx (h2 u hu' y hy) p2
            · exact h2 u hu' v hv'
        · rcases List.mem_cons.mp hu with rfl | hu
          · have q := h3 y hy c hc v hv
            exact ⟨T.tr _ _ _ hx (hbn y hy) (hsn c hc v hv) p1 q.1, fun z => q.2 (T.tr _ _ _ (hsn c hc v hv) hx (hbn y hy) z p1)⟩
          · exact h3 u hu c hc v hv
        · simp only [List.mem_cons, exists_eq_or_imp]
          constructor
          · rintro ((h | h) | h)
            · exact .inl h
            · exact .inr (.inl h)
            · exact .inr (.inr h)
          · rintro (h | h | h)
            · exact .inl (.inl h)
            · exact .inl (.inr h)
            · exact .inr h
      · -- ahead of the block
        have lt : ∀ c ∈ b :: bs, ∀ v ∈ c, P x v ∧ ¬ P v x := fun c hc v hv => by
          rcases List.mem_cons.mp hc with rfl | hc
          · exact ⟨T.tr _ _ _ hx (hbn y hy) (hbn v hv) p1 (h2 y hy v hv), fun z => p2 (T.tr _ _ _ (hbn y hy) (hbn v hv) hx (h2 y hy v hv) z)⟩
          · have q := h3 y hy c hc v hv
            exact ⟨T.tr _ _ _ hx (hbn y hy) (hsn c hc v hv) p1 q.1, fun z => p2 (T.tr _ _ _ (hbn y hy) (hsn c hc v hv) hx q.1 z)⟩
        refine ⟨[x] :: b :: bs, by simp [ins], ⟨by simp, fun u hu v hv => ?_, fun u hu c hc v hv => ?_, h1, h2, h3, h4⟩, fun v => ?_⟩
        · rw [List.mem_singleton] at hu hv
          subst hu; subst hv
          exact xx
        · rw [List.mem_singleton] at hu
          subst hu
          exact lt c hc v hv
        · simp only [List.mem_cons, exists_eq_or_imp, List.not_mem_nil, or_false]
    · -- behind the block
      have p2 : P y x := (T.tot _ _ hx (hbn y hy)).resolve_left p1
      obtain ⟨ds, hds, hS, hm⟩ := ins_ok T hx h4 hsn
      refine ⟨b :: ds, by simp [ins, hds], ⟨h1, h2, fun u hu c hc v hv => ?_, hS⟩, fun v => ?_⟩
      · rcases (hm v).mp ⟨c, hc, hv⟩ with rfl | ⟨d, hd, hvd⟩
        · exact ⟨T.tr _ _ _ (hbn u hu) (hbn y hy) hx (h2 u hu y hy) p2, fun z => p1 (T.tr _ _ _ hx (hbn u hu) (hbn y hy) z (h2 u hu y hy))⟩
        · exact h3 u hu d hd v hvd
      · simp only [List.mem_cons, exists_eq_or_imp]
        rw [hm v]
        constructor
        · rintro (h | h | h)
          · exact .inr (.inl h)
          · exact .inl h
          · exact .inr (.inr h)
        · rintro (h | h | h)
          · exact .inr (.inl h)
          · exact .inl h
          · exact .inr (.inr h)
theorem run_ok {n : Nat} {P : Nat → Nat → Prop} (T : TotP n P) : ∀ (r s : Nat) (bs : List (List Nat)), s + r = n → Srt P bs → (∀ v, (∃ c ∈ bs, v ∈ c) ↔ v < s) →
    ∃ ds ∈ runW r s bs, Srt P ds ∧ ∀ v, (∃ c ∈ ds, v ∈ c) ↔ v < n
  | 0, s, bs, e, h, hm => ⟨bs, by simp [runW], h, fun v => by rw [hm v, ← e, Nat.add_zero]⟩
  | r + 1, s, bs, e, h, hm => by
    obtain ⟨ds, hds, hS, hd⟩ := ins_ok T (x := s) (by omega) h fun c hc v hv => by
      have := (hm v).mp ⟨c, hc, hv⟩
      omega
    obtain ⟨es, hes, hE, he⟩ := run_ok T r (s + 1) ds (by omega) hS fun v => by
      rw [hd v, hm v]
      omega
    exact ⟨es, List.mem_flatMap.mpr ⟨ds, hds, hes⟩, hE, he⟩
/-- each total preorder stands among them -/
theorem enum_ok {n : Nat} {P : Nat → Nat → Prop} (T : TotP n P) : ∃ bs ∈ enumW n, ∀ a b, a < n → b < n → (P a b ↔ rkW bs a ≤ rkW bs b) := by
  obtain ⟨bs, hb, hS, hm⟩ := run_ok T n 0 [] (Nat.zero_add n) trivial fun v => by simp
  exact ⟨bs, hb, fun a b ha hb' => rk_iff hS a b ((hm a).mpr ha) ((hm b).mpr hb')⟩
end K35

/-! What is known of the order of values: rows of bits; steps that are sound, growing; how much is not known; the regions of a search. -/
namespace K35
abbrev R4 := Nat × Nat × Nat × Nat
/-- a joint: whether it is the later one; of two values; the value -/
abbrev J4 := Bool × Nat × Nat × Nat
def bt (l : List Nat) (i j : Nat) : Bool := (l.getD i 0).testBit j
structure GoodR (v : Nat → Int) (rs : List R4) (js : List J4) : Prop where
  rl : ∀ r ∈ rs, v r.1 ≤ v r.2.1 → v r.2.2.1 ≤ v r.2.2.2
  jt : ∀ q ∈ js, v q.2.2.2 = if q.1 = true then max (v q.2.1) (v q.2.2.1) else min (v q.2.1) (v q.2.2.1)
structure Sat (v : Nat → Int) (U B : List Nat) : Prop where
  u : ∀ i j, bt U i j = true → v i ≤ v j
  b : ∀ i j, bt B i j = true → v i < v j
structure Wf (n : Nat) (U B : List Nat) : Prop where
  lu : U.length = n
  lb : B.length = n
  bu : ∀ x ∈ U, x < 2 ^ n
  bb : ∀ x ∈ B, x < 2 ^ n
  sub : ∀ i j, bt B i j = true → bt U i j = true
  rf : ∀ i, i < n → bt U i i = true
theorem bt_row {n : Nat} {l : List Nat} (hl : l.length = n) {i j : Nat} (h : bt l i j = true) : i < n := by
  unfold bt at h
  by_cases q : i < l.length
  · omega
  · rw [List.getD_eq_getElem?_getD, List.getElem?_eq_none (by omega)] at h
    simp at h
theorem bt_col {n : Nat} {l : List Nat} (hb : ∀ x ∈ l, x < 2 ^ n) {i j : Nat} (h : bt l i j = true) : j < n := by
  unfold bt at h
  by_cases q : i < l.length
  · rw [List.getD_eq_getElem?_getD, List.getElem?_eq_getElem q] at h
    have h1 : l[i] < 2 ^ n := hb _ (List.getElem_mem q)
    by_cases c : j < n
    · exact c
    · have h2 : l[i] < 2 ^ j := Nat.lt_of_lt_of_le h1 (Nat.pow_le_pow_right (by decide) (by omega))
      have h3 := Nat.testBit_lt_two_pow h2
      simp only [Option.getD_some] at h
      rw [h3] at h
      cases h
  · rw [List.getD_eq_getElem?_getD, List.getElem?_eq_none (by omega)] at h
    simp at h
theorem bt_ext {l m : List Nat} (hl : l.length = m.length) (h : ∀ i j, bt l i j = bt m i j) : l = m := by
  refine List.ext_getElem hl fun i h1 h2 => Nat.eq_of_testBit_eq fun j => ?_
  have q := h i j
  unfold bt at q
  rw [List.getD_eq_getElem?_getD, List.getD_eq_getElem?_getD, List.getElem?_eq_getElem h1, List.getElem?_eq_getElem h2] at q
  exact q
/-- growing -/
structure Mono (U B U' B' : List Nat) : Prop where
  u : ∀ i j, bt U i j = true → bt U' i j = true
  b : ∀ i j, bt B i j = true → bt B' i j = true
theorem Mono.refl (U B : List Nat) : Mono U B U B := ⟨fun _ _ h => h, fun _ _ h => h⟩
theorem Mono.trans {U B U1 B1 U2 B2 : List Nat} (a : Mono U B U1 B1) (b : Mono U1 B1 U2 B2) : Mono U B U2 B2 := ⟨fun i j h => b.u i j (a.u i j h), fun i j h => b.b i j (a.b i j h)⟩
theorem bool_ext {a b : Bool} (h1 : a = true → b = true) (h2 : b = true → a = true) : a = b := by
  cases a <;> cases b
  · rfl
  · exact absurd (h2 rfl) (by decide)
  · exact absurd (h1 rfl) (by decide)
  · rfl
theorem Mono.anti {n : Nat} {U B U1 B1 : List Nat} (w : Wf n U B) (w1 : Wf n U1 B1) (a : Mono U B U1 B1) (b : Mono U1 B1 U B) : U1 = U ∧ B1 = B :=
  ⟨bt_ext (w1.lu.trans w.lu.symm) fun i j => bool_ext (b.u i j) (a.u i j), bt_ext (w1.lb.trans w.lb.symm) fun i j => bool_ext (b.b i j) (a.b i j)⟩
/-- from one state of knowledge to another: sound, growing; where nothing has changed, C holds -/
structure Prog (n : Nat) (rs : List R4) (js : List J4) (C : List Nat → List Nat → Prop) (U B U' B' : List Nat) : Prop where
  wf0 : Wf n U B
  wf : Wf n U' B'
  mono : Mono U B U' B'
  snd : ∀ v, GoodR v rs js → Sat v U B → Sat v U' B'
  cl : U' = U → B' = B → C U B
section
variable {n : Nat} {rs : List R4} {js : List J4} {C C1 C2 : List Nat → List Nat → Prop} {U B U1 B1 U2 B2 : List Nat}
theorem Prog.refl (w : Wf n U B) (h : C U B) : Prog n rs js C U B U B := ⟨w, w, .refl U B, fun _ _ h => h, fun _ _ => h⟩
theorem Prog.comp (a : Prog n rs js C1 U B U1 B1) (b : Prog n rs js C2 U1 B1 U2 B2) : Prog n rs js (fun U B => C1 U B ∧ C2 U B) U B U2 B2 :=
  ⟨a.wf0, b.wf, a.mono.trans b.mono, fun v g s => b.snd v g (a.snd v g s), fun e1 e2 => by
    have m : Mono U1 B1 U B := by
      have := b.mono
      rw [e1, e2] at this
      exact this
    obtain ⟨f1, f2⟩ := Mono.anti a.wf0 a.wf a.mono m
    refine ⟨a.cl f1 f2, ?_⟩
    have q := b.cl (e1.trans f1.symm) (e2.trans f2.symm)
    rw [f1, f2] at q
    exact q⟩
theorem Prog.imp (a : Prog n rs js C1 U B U1 B1) (h : C1 U B → C2 U B) : Prog n rs js C2 U B U1 B1 := ⟨a.wf0, a.wf, a.mono, a.snd, fun e1 e2 => h (a.cl e1 e2)⟩
end
/-! ### one bit put in -/
def putB (l : List Nat) (i j : Nat) : List Nat := l.set i (l.getD i 0 ||| 2 ^ j)
theorem putB_len (l : List Nat) (i j : Nat) : (putB l i j).length = l.length := by simp [putB]
theorem getD_set_same {l : List Nat} {i x : Nat} (h : i < l.length) : (l.set i x).getD i 0 = x := by
  rw [List.getD_eq_getElem?_getD, List.getElem?_set_self h]; rfl
theorem getD_set_ne {l : List Nat} {i k x : Nat} (h : i ≠ k) : (l.set i x).getD k 0 = l.getD k 0 := by
  rw [List.getD_eq_getElem?_getD, List.getElem?_set_ne h, List.getD_eq_getElem?_getD]
theorem bt_putB {l : List Nat} {i j : Nat} (h : i < l.length) (a b : Nat) : bt (putB l i j) a b = (bt l a b || (decide (a = i) && decide (b = j))) := by
  unfold bt putB
  by_cases e : a = i
  · subst e
    rw [getD_set_same h, Nat.testBit_or, Nat.testBit_two_pow]
    by_cases f : b = j
    · subst f; simp
    · simp [f, Ne.symm f]
  · rw [getD_set_ne (Ne.symm e)]
    simp [e]
theorem set_bound {n : Nat} {l : List Nat} {i x : Nat} (hb : ∀ y ∈ l, y < 2 ^ n) (hx : x < 2 ^ n) : ∀ y ∈ l.set i x, y < 2 ^ n := fun y hy => by
  rcases List.mem_or_eq_of_mem_set hy with h | h
  · exact hb y h
  · rw [h]; exact hx
theorem getD_bound {n : Nat} {l : List Nat} (hb : ∀ y ∈ l, y < 2 ^ n) (i : Nat) : l.getD i 0 < 2 ^ n := by
  rw [List.getD_eq_getElem?_getD]
  cases h : l[i]? with
  | none => exact Nat.two_pow_pos n
  | some y => exact hb y (List.mem_of_getElem? h)
/-- what put leaves: the bit in the first row, and (strict) in the second one -/
def putS (B : List Nat) (i j : Nat) (s : Bool) : List Nat := if s = true then putB B i j else B
section
variable {n : Nat} {rs : List R4} {js : List J4} {U B : List Nat}
theorem Wf.put (w : Wf n U B) {i j : Nat} (hi : i < n) (hj : j < n) (s : Bool) : Wf n (putB U i j) (putS B i j s) := by
  have hiU : i < U.length := by rw [w.lu]; exact hi
  have hiB : i < B.length := by rw [w.lb]; exact hi
  have h2 : 2 ^ j < 2 ^ n := Nat.pow_lt_pow_right (by decide) hj
  have bU : ∀ x ∈ putB U i j, x < 2 ^ n := set_bound w.bu (Nat.or_lt_two_pow (getD_bound w.bu i) h2)
  cases s with
  | false => exact ⟨by rw [putB_len, w.lu], w.lb, bU, w.bb, fun a b h => by rw [bt_putB hiU, w.sub a b h]; rfl, fun a ha => by rw [bt_putB hiU, w.rf a ha]; rfl⟩
  | true =>
    refine ⟨by rw [putB_len, w.lu], by show (putB B i j).length = n; rw [putB_len, w.lb], bU, set_bound w.bb (Nat.or_lt_two_pow (getD_bound w.bb i) h2), fun a b h => ?_, fun a ha => by rw [bt_putB hiU, w.rf a ha]; rfl⟩
    have h : bt (putB B i j) a b = true := h
    rw [bt_putB hiB, Bool.or_eq_true] at h
    rw [bt_putB hiU, Bool.or_eq_true]
    exact h.imp (w.sub a b) id
/-- one comparison put in, which follows from what is known -/
theorem Prog.put (w : Wf n U B) {i j : Nat} (hi : i < n) (hj : j < n) (s : Bool) (h : ∀ v, GoodR v rs js → Sat v U B → v i ≤ v j ∧ (s = true → v i < v j)) :
    Prog n rs js (fun U B => bt U i j = true ∧ (s = true → bt B i j = true)) U B (putB U i j) (putS B i j s) := by
  have hiU : i < U.length := by rw [w.lu]; exact hi
  have hiB : i < B.length := by rw [w.lb]; exact hi
  refine ⟨w, w.put hi hj s, ⟨fun a b q => by rw [bt_putB hiU, q]; rfl, fun a b q => ?_⟩, fun v g t => ⟨fun a b q => ?_, fun a b q => ?_⟩, fun e1 e2 => ⟨?_, fun hs => ?_⟩⟩
  · cases s with
    | false => exact q
    | true =>
      show bt (putB B i j) a b = true
      rw [bt_putB hiB, q]; rfl
  · rw [bt_putB hiU, Bool.or_eq_true, Bool.and_eq_true, decide_eq_true_eq, decide_eq_true_eq] at q
    rcases q with q | ⟨q1, q2⟩
    · exact t.u a b q
    · rw [q1, q2]; exact (h v g t).1
  · cases s with
    | false => exact t.b a b q
    | true =>
      have q : bt (putB B i j) a b = true := q
      rw [bt_putB hiB, Bool.or_eq_true, Bool.and_eq_true, decide_eq_true_eq, decide_eq_true_eq] at q
      rcases q with q | ⟨q1, q2⟩
      · exact t.b a b q
      · rw [q1, q2]; exact (h v g t).2 rfl
  · rw [← e1, bt_putB hiU]; simp
  · subst hs
    rw [← e2]
    show bt (putB B i j) i j = true
    rw [bt_putB hiB]; simp
end
end K35

/-! How much is not known; orders that go on; the regions of a search. -/
namespace K35
/-! ### counting -/
theorem countP_lt {α : Type} {p q : α → Bool} : ∀ {l : List α}, (∀ x ∈ l, p x = true → q x = true) → (∃ x ∈ l, q x = true ∧ p x = false) → l.countP p < l.countP q
  | [], _, h => by obtain ⟨x, hx, _⟩ := h; cases hx
  | a :: l, hm, h => by
    have hm' : ∀ x ∈ l, p x = true → q x = true := fun x hx => hm x (List.mem_cons_of_mem _ hx)
    have hle : l.countP p ≤ l.countP q := List.countP_mono_left hm'
    rw [List.countP_cons, List.countP_cons]
    by_cases pa : p a = true
    · have qa := hm a List.mem_cons_self pa
      obtain ⟨x, hx, q1, p1⟩ := h
      rcases List.mem_cons.mp hx with rfl | hx
      · rw [pa] at p1; cases p1
      · have := countP_lt hm' ⟨x, hx, q1, p1⟩
        simp only [pa, qa, if_true]
        omega
    · by_cases qa : q a = true
      · simp only [pa, qa, if_true]
        simp
        omega
      · obtain ⟨x, hx, q1, p1⟩ := h
        rcases List.mem_cons.mp hx with rfl | hx
        · exact absurd q1 qa
        · have := countP_lt hm' ⟨x, hx, q1, p1⟩
          simp only [pa, qa]
          simp
          omega
theorem countP_split {α : Type} (f g : α → Bool) : ∀ l : List α, l.countP (fun x => f x && g x) + l.countP (fun x => f x && !g x) = l.countP f
  | [] => rfl
  | a :: l => by
    have ih := countP_split f g l
    rw [List.countP_cons, List.countP_cons, List.countP_cons]
    cases f a <;> cases g a <;> simp <;> omega
def prs (n : Nat) : List (Nat × Nat) := (List.range n).flatMap fun i => (List.range n).map fun j => (i, j)
theorem mem_prs {n i j : Nat} (hi : i < n) (hj : j < n) : (i, j) ∈ prs n := List.mem_flatMap.mpr ⟨i, List.mem_range.mpr hi, List.mem_map.mpr ⟨j, List.mem_range.mpr hj, rfl⟩⟩
/-- how much is not known -/
def unk (n : Nat) (U B : List Nat) : Nat := (prs n).countP (fun p => !bt U p.1 p.2) + (prs n).countP (fun p => !bt B p.1 p.2)
theorem row_le {n : Nat} {U U' : List Nat} (h : ∀ i j, bt U i j = true → bt U' i j = true) : (prs n).countP (fun p => !bt U' p.1 p.2) ≤ (prs n).countP (fun p => !bt U p.1 p.2) :=
  List.countP_mono_left fun p _ q => by
    cases e : bt U p.1 p.2 with
    | false => rfl
    | true =>
      rw [h _ _ e] at q
      cases q
theorem row_lt {n : Nat} {U U' : List Nat} (h : ∀ i j, bt U i j = true → bt U' i j = true) {i j : Nat} (hi : i < n) (hj : j < n) (h0 : bt U i j = false) (h1 : bt U' i j = true) :
    (prs n).countP (fun p => !bt U' p.1 p.2) < (prs n).countP (fun p => !bt U p.1 p.2) :=
  countP_lt (fun p _ q => by
    cases e : bt U p.1 p.2 with
    | false => rfl
    | true =>
      rw [h _ _ e] at q
      cases q) ⟨(i, j), mem_prs hi hj, by simp [h0], by simp [h1]⟩
section
variable {n : Nat} {U B U' B' : List Nat}
theorem unk_le (m : Mono U B U' B') : unk n U' B' ≤ unk n U B := Nat.add_le_add (row_le m.u) (row_le m.b)
theorem unk_ltU (m : Mono U B U' B') {i j : Nat} (hi : i < n) (hj : j < n) (h0 : bt U i j = false) (h1 : bt U' i j = true) : unk n U' B' < unk n U B :=
  Nat.add_lt_add_of_lt_of_le (row_lt m.u hi hj h0 h1) (row_le m.b)
theorem unk_ltB (m : Mono U B U' B') {i j : Nat} (hi : i < n) (hj : j < n) (h0 : bt B i j = false) (h1 : bt B' i j = true) : unk n U' B' < unk n U B :=
  Nat.add_lt_add_of_le_of_lt (row_le m.u) (row_lt m.b hi hj h0 h1)
/-- where something has changed, more is known -/
theorem unk_ne (w : Wf n U B) (w' : Wf n U' B') (m : Mono U B U' B') (h : ¬ (U' = U ∧ B' = B)) : unk n U' B' < unk n U B := by
  refine Nat.lt_of_not_le fun hc => h ?_
  have nou : ∀ i j, bt U' i j = true → bt U i j = true := fun i j q => by
    cases e : bt U i j with
    | true => rfl
    | false => exact absurd (unk_ltU m (bt_row w'.lu q) (bt_col w'.bu q) e q) (by omega)
  have nob : ∀ i j, bt B' i j = true → bt B i j = true := fun i j q => by
    cases e : bt B i j with
    | true => rfl
    | false => exact absurd (unk_ltB m (bt_row w'.lb q) (bt_col w'.bb q) e q) (by omega)
  exact Mono.anti w w' m ⟨nou, nob⟩
end
/-! ### systems of comparisons that go on to a total one -/
structure Sys (n : Nat) (P S : Nat → Nat → Prop) : Prop where
  refl : ∀ i, i < n → P i i
  t1 : ∀ i k j, i < n → k < n → j < n → P i k → P k j → P i j
  t2 : ∀ i k j, i < n → k < n → j < n → S i k → P k j → S i j
  t3 : ∀ i k j, i < n → k < n → j < n → P i k → S k j → S i j
  sub : ∀ i j, i < n → j < n → S i j → P i j
  irr : ∀ i, i < n → ¬ S i i
theorem Sys.add {n : Nat} {P S : Nat → Nat → Prop} (s : Sys n P S) {i j : Nat} (hi : i < n) (hj : j < n) (h : ¬ S j i) :
    Sys n (fun a b => P a b ∨ (P a i ∧ P j b)) (fun a b => S a b ∨ (S a i ∧ P j b) ∨ (P a i ∧ S j b)) where
  refl := fun a ha => .inl (s.refl a ha)
  t1 := fun a b c ha hb hc p q => by
    rcases p with p | ⟨p1, p2⟩ <;> rcases q with q | ⟨q1, q2⟩
    · exact .inl (s.t1 _ _ _ ha hb hc p q)
    · exact .inr ⟨s.t1 _ _ _ ha hb hi p q1, q2⟩
    · exact .inr ⟨p1, s.t1 _ _ _ hj hb hc p2 q⟩
    · exact .inr ⟨p1, q2⟩
  t2 := fun a b c ha hb hc p q => by
    rcases p with p | ⟨p1, p2⟩ | ⟨p1, p2⟩ <;> rcases q with q | ⟨q1, q2⟩
    · exact .inl (s.t2 _ _ _ ha hb hc p q)
    · exact .inr (.inl ⟨s.t2 _ _ _ ha hb hi p q1, q2⟩)
    · exact .inr (.inl ⟨p1, s.t1 _ _ _ hj hb hc p2 q⟩)
    · exact .inr (.inl ⟨p1, q2⟩)
    · exact .inr (.inr ⟨p1, s.t2 _ _ _ hj hb hc p2 q⟩)
    · exact absurd (s.t2 _ _ _ hj hb hi p2 q1) h
  t3 := fun a b c ha hb hc p q => by
    rcases p with p | ⟨p1, p2⟩ <;> rcases q with q | ⟨q1, q2⟩ | ⟨q1, q2⟩
    · exact .inl (s.t3 _ _ _ ha hb hc p q)
    · exact .inr (.inl ⟨s.t3 _ _ _ ha hb hi p q1, q2⟩)
    · exact .inr (.inr ⟨s.t1 _ _ _ ha hb hi p q1, q2⟩)
    · exact .inr (.inr ⟨p1, s.t3 _ _ _ hj hb hc p2 q⟩)
    · exact absurd (s.t3 _ _ _ hj hb hi p2 q1) h
    · exact .inr (.inr ⟨p1, q2⟩)
  sub := fun a b ha hb p => by
    rcases p with p | ⟨p1, p2⟩ | ⟨p1, p2⟩
    · exact .inl (s.sub _ _ ha hb p)
    · exact .inr ⟨s.sub _ _ ha hi p1, p2⟩
    · exact .inr ⟨p1, s.sub _ _ hj hb p2⟩
  irr := fun a ha p => by
    rcases p with p | ⟨p1, p2⟩ | ⟨p1, p2⟩
    · exact s.irr a ha p
    · exact h (s.t3 _ _ _ hj ha hi p2 p1)
    · exact h (s.t2 _ _ _ hj ha hi p2 p1)
theorem Sys.addS {n : Nat} {P S : Nat → Nat → Prop} (s : Sys n P S) {i j : Nat} (hi : i < n) (hj : j < n) (h : ¬ P i j) :
    Sys n (fun a b => P a b ∨ (P a j ∧ P i b)) (fun a b => S a b ∨ (P a j ∧ P i b)) where
  refl := fun a ha => .inl (s.refl a ha)
  t1 := fun a b c ha hb hc p q => by
    rcases p with p | ⟨p1, p2⟩ <;> rcases q with q | ⟨q1, q2⟩
    · exact .inl (s.t1 _ _ _ ha hb hc p q)
    · exact .inr ⟨s.t1 _ _ _ ha hb hj p q1, q2⟩
    · exact .inr ⟨p1, s.t1 _ _ _ hi hb hc p2 q⟩
    · exact .inr ⟨p1, q2⟩
  t2 := fun a b c ha hb hc p q => by
    rcases p with p | ⟨p1, p2⟩ <;> rcases q with q | ⟨q1, q2⟩
    · exact .inl (s.t2 _ _ _ ha hb hc p q)
    · exact .inr ⟨s.t1 _ _ _ ha hb hj (s.sub _ _ ha hb p) q1, q2⟩
    · exact .inr ⟨p1, s.t1 _ _ _ hi hb hc p2 q⟩
    · exact .inr ⟨p1, q2⟩
  t3 := fun a b c ha hb hc p q => by
    rcases p with p | ⟨p1, p2⟩ <;> rcases q with q | ⟨q1, q2⟩
    · exact .inl (s.t3 _ _ _ ha hb hc p q)
    · exact .inr ⟨s.t1 _ _ _ ha hb hj p q1, q2⟩
    · exact .inr ⟨p1, s.t1 _ _ _ hi hb hc p2 (s.sub _ _ hb hc q)⟩
    · exact .inr ⟨p1, q2⟩
  sub := fun a b ha hb p => by
    rcases p with p | p
    · exact .inl (s.sub _ _ ha hb p)
    · exact .inr p
  irr := fun a ha p => by
    rcases p with p | ⟨p1, p2⟩
    · exact s.irr a ha p
    · exact h (s.t1 _ _ _ hi ha hj p2 p1)
open Classical in
noncomputable def opn (n : Nat) (P S : Nat → Nat → Prop) : Nat := (prs n).countP fun p => !decide (P p.1 p.2 ∨ S p.2 p.1)
theorem opn_lt {n : Nat} {P S P' S' : Nat → Nat → Prop} (h1 : ∀ a b, P a b → P' a b) (h2 : ∀ a b, S a b → S' a b) {i j : Nat} (hi : i < n) (hj : j < n) (h3 : ¬ P i j) (h4 : ¬ S j i) (h5 : P' i j) : opn n P' S' < opn n P S := by
  unfold opn
  refine countP_lt (fun p _ q => ?_) ⟨(i, j), mem_prs hi hj, ?_, ?_⟩
  · simp only [Bool.not_eq_true', decide_eq_false_iff_not] at q ⊢
    exact fun z => q (z.imp (h1 _ _) (h2 _ _))
  · simp [h3, h4]
  · simp [h5]
theorem Sys.total {n : Nat} : ∀ (m : Nat) {P S : Nat → Nat → Prop}, Sys n P S → opn n P S ≤ m →
    ∃ T, TotP n T ∧ (∀ a b, a < n → b < n → P a b → T a b) ∧ ∀ a b, a < n → b < n → S a b → ¬ T b a
  | m, P, S, s, hm => by
    by_cases hall : ∀ a b, a < n → b < n → P a b ∨ S b a
    · exact ⟨P, ⟨fun a b ha hb => (hall a b ha hb).imp id (s.sub b a hb ha), fun a b c ha hb hc => s.t1 a b c ha hb hc⟩, fun a b _ _ h => h, fun a b ha hb h q => s.irr a ha (s.t2 a b a ha hb ha h q)⟩
    · obtain ⟨i, h⟩ := Classical.not_forall.mp hall
      obtain ⟨j, h⟩ := Classical.not_forall.mp h
      have hi : i < n := Classical.byContradiction fun q => h fun a => absurd a q
      have hj : j < n := Classical.byContradiction fun q => h fun _ a => absurd a q
      have h1 : ¬ P i j := fun q => h fun _ _ => .inl q
      have h2 : ¬ S j i := fun q => h fun _ _ => .inr q
      have s' := s.add hi hj h2
      have lt := opn_lt (n := n) (P' := fun a b => P a b ∨ (P a i ∧ P j b)) (S' := fun a b => S a b ∨ (S a i ∧ P j b) ∨ (P a i ∧ S j b)) (fun a b q => .inl q) (fun a b q => .inl q) hi hj h1 h2 (.inr ⟨s.refl i hi, s.refl j hj⟩)
      cases m with
      | zero => omega
      | succ m =>
        obtain ⟨T, hT, k1, k2⟩ := Sys.total m s' (Nat.le_of_lt_succ (Nat.lt_of_lt_of_le lt hm))
        exact ⟨T, hT, fun a b ha hb q => k1 a b ha hb (.inl q), fun a b ha hb q => k2 a b ha hb (.inl q)⟩
/-! ### regions -/
/-- closed under what comes by values between -/
structure Tc (n : Nat) (U B : List Nat) : Prop where
  refl : ∀ i, i < n → bt U i i = true
  t1 : ∀ i k j, bt U i k = true → bt U k j = true → bt U i j = true
  t2 : ∀ i k j, bt B i k = true → bt U k j = true → bt B i j = true
  t3 : ∀ i k j, bt U i k = true → bt B k j = true → bt B i j = true
def Contrary (B : List Nat) : Prop := ∃ i, bt B i i = true
theorem Tc.sys {n : Nat} {U B : List Nat} (w : Wf n U B) (t : Tc n U B) (h : ¬ Contrary B) : Sys n (fun a b => bt U a b = true) (fun a b => bt B a b = true) :=
  ⟨t.refl, fun i k j _ _ _ => t.t1 i k j, fun i k j _ _ _ => t.t2 i k j, fun i k j _ _ _ => t.t3 i k j, fun i j _ _ => w.sub i j, fun i _ q => h ⟨i, q⟩⟩
def fits (n : Nat) (U B : List Nat) (bs : List (List Nat)) : Bool := (prs n).all fun p => (!bt U p.1 p.2 || decide (rkW bs p.1 ≤ rkW bs p.2)) && (!bt B p.1 p.2 || decide (rkW bs p.1 < rkW bs p.2))
theorem fits_iff {n : Nat} {U B : List Nat} {bs : List (List Nat)} : fits n U B bs = true ↔ ∀ i j, i < n → j < n → (bt U i j = true → rkW bs i ≤ rkW bs j) ∧ (bt B i j = true → rkW bs i < rkW bs j) := by
  unfold fits
  rw [List.all_eq_true]
  constructor
  · intro h i j hi hj
    have q := h (i, j) (mem_prs hi hj)
    simp only [Bool.and_eq_true, Bool.or_eq_true, Bool.not_eq_true', decide_eq_true_eq] at q
    exact ⟨fun e => q.1.resolve_left (by rw [e]; decide), fun e => q.2.resolve_left (by rw [e]; decide)⟩
  · intro h p hp
    obtain ⟨i, hi, hp⟩ := List.mem_flatMap.mp hp
    obtain ⟨j, hj, rfl⟩ := List.mem_map.mp hp
    have q := h i j (List.mem_range.mp hi) (List.mem_range.mp hj)
    simp only [Bool.and_eq_true, Bool.or_eq_true, Bool.not_eq_true', decide_eq_true_eq]
    refine ⟨?_, ?_⟩
    · cases e : bt U i j with
      | false => exact .inl rfl
      | true => exact .inr (q.1 e)
    · cases e : bt B i j with
      | false => exact .inl rfl
      | true => exact .inr (q.2 e)
/-- how many total orders a state of knowledge leaves -/
def wt (n : Nat) (U B : List Nat) : Nat := (enumW n).countP (fits n U B)
theorem wt_le (n : Nat) (U B : List Nat) : wt n U B ≤ (enumW n).length := List.countP_le_length
theorem wt_split {n : Nat} {U B : List Nat} (w : Wf n U B) (t : Tc n U B) (hn : ¬ Contrary B) {i j : Nat} (hi : i < n) (hj : j < n) (h1 : bt U i j = false) (h2 : bt B j i = false) :
    ∃ w1 w2, 1 ≤ w1 ∧ 1 ≤ w2 ∧ w1 + w2 ≤ wt n U B ∧ (∀ U' B', Mono U B U' B' → bt U' i j = true → wt n U' B' ≤ w1) ∧ ∀ U' B', Mono U B U' B' → bt B' j i = true → wt n U' B' ≤ w2 := by
  have s := t.sys w hn
  have le : ∀ {U' B' : List Nat} {bs : List (List Nat)}, Mono U B U' B' → fits n U' B' bs = true → fits n U B bs = true := fun {U' B' bs} m h => by
    rw [fits_iff] at h ⊢
    exact fun a b ha hb => ⟨fun e => (h a b ha hb).1 (m.u a b e), fun e => (h a b ha hb).2 (m.b a b e)⟩
  refine ⟨(enumW n).countP (fun bs => fits n U B bs && decide (rkW bs i ≤ rkW bs j)), (enumW n).countP (fun bs => fits n U B bs && !decide (rkW bs i ≤ rkW bs j)), ?_, ?_, ?_, fun U' B' m h => ?_, fun U' B' m h => ?_⟩
  · obtain ⟨T, hT, k1, k2⟩ := Sys.total _ (s.add hi hj (by rw [h2]; decide)) (Nat.le_refl _)
    obtain ⟨bs, hb, hr⟩ := enum_ok hT
    refine List.countP_pos_iff.mpr ⟨bs, hb, ?_⟩
    rw [Bool.and_eq_true, decide_eq_true_eq, fits_iff]
    refine ⟨fun a b ha hb => ⟨fun e => (hr a b ha hb).mp (k1 a b ha hb (.inl e)), fun e => ?_⟩, (hr i j hi hj).mp (k1 i j hi hj (.inr ⟨t.refl i hi, t.refl j hj⟩))⟩
    have q := k2 a b ha hb (.inl e)
    rw [hr b a hb ha] at q
    omega
  · obtain ⟨T, hT, k1, k2⟩ := Sys.total _ (s.addS hi hj (by rw [h1]; decide)) (Nat.le_refl _)
    obtain ⟨bs, hb, hr⟩ := enum_ok hT
    refine List.countP_pos_iff.mpr ⟨bs, hb, ?_⟩
    rw [Bool.and_eq_true, Bool.not_eq_true', decide_eq_false_iff_not, fits_iff]
    refine ⟨fun a b ha hb => ⟨fun e => (hr a b ha hb).mp (k1 a b ha hb (.inl e)), fun e => ?_⟩, fun z => k2 j i hj hi (.inr ⟨t.refl j hj, t.refl i hi⟩) ((hr i j hi hj).mpr z)⟩
    have q := k2 a b ha hb (.inl e)
    rw [hr b a hb ha] at q
    omega
  · exact Nat.le_of_eq (countP_split (fits n U B) (fun bs => decide (rkW bs i ≤ rkW bs j)) (enumW n))
  · refine List.countP_mono_left fun bs _ q => ?_
    rw [Bool.and_eq_true, decide_eq_true_eq]
    exact ⟨le m q, (fits_iff.mp q i j hi hj).1 h⟩
  · refine List.countP_mono_left fun bs _ q => ?_
    rw [Bool.and_eq_true, Bool.not_eq_true', decide_eq_false_iff_not]
    have z := (fits_iff.mp q j i hj hi).2 h
    exact ⟨le m q, by omega⟩
end K35

/-! Plans, links of all kinds, values: what a comparison of two plans means, and that orders of values show it. -/
namespace K35
/-! ### steps, plans, models -/
def okc (c : Nat) : Prop := (65 ≤ c ∧ c ≤ 68) ∨ (97 ≤ c ∧ c ≤ 100)
/-- the small letter -/
def lo (c : Nat) : Nat := if c < 97 then c + 32 else c
/-- a step forth -/
def isF (c : Nat) : Bool := decide (97 ≤ c)
inductive Pl where
  | row (r : List Nat)
  | thn (p q : Pl)
  | lat (p q : Pl)
  | son (p q : Pl)
/-- links of all kinds: forth and back; slow x y: x is never slower than y -/
structure Md (slow : Nat → Nat → Bool) where
  F : Nat → Int → Int
  B : Nat → Int → Int
  adj : ∀ x t s, F x t ≤ s ↔ t ≤ B x s
  infl : ∀ x t, t ≤ F x t
  slw : ∀ x y, slow x y = true → ∀ t, F x t ≤ F y t
section
variable {slow : Nat → Nat → Bool}
theorem Md.back (M : Md slow) (x : Nat) (s : Int) : M.F x (M.B x s) ≤ s := (M.adj x _ s).mpr (Int.le_refl _)
theorem Md.defl (M : Md slow) (x : Nat) (s : Int) : M.B x s ≤ s := Int.le_trans (M.infl x _) (M.back x s)
theorem Md.forth (M : Md slow) (x : Nat) (t : Int) : t ≤ M.B x (M.F x t) := (M.adj x t _).mp (Int.le_refl _)
theorem Md.monoF (M : Md slow) (x : Nat) {t u : Int} (h : t ≤ u) : M.F x t ≤ M.F x u := (M.adj x t _).mpr (Int.le_trans h (M.forth x u))
theorem Md.monoB (M : Md slow) (x : Nat) {t u : Int} (h : t ≤ u) : M.B x t ≤ M.B x u := (M.adj x _ u).mp (Int.le_trans (M.back x t) h)
theorem Md.slwB (M : Md slow) {x y : Nat} (h : slow x y = true) (s : Int) : M.B y s ≤ M.B x s := (M.adj x _ s).mp (Int.le_trans (M.slw x y h _) (M.back y s))
def stM (M : Md slow) (c : Nat) (t : Int) : Int := if isF c = true then M.F (lo c) t else M.B (lo c) t
theorem stM_mono (M : Md slow) (c : Nat) {t u : Int} (h : t ≤ u) : stM M c t ≤ stM M c u := by
  unfold stM
  split
  · exact M.monoF _ h
  · exact M.monoB _ h
def evr (M : Md slow) : List Nat → Int → Int
  | [], t => t
  | c :: r, t => evr M r (stM M c t)
def ev (M : Md slow) : Pl → Int → Int
  | .row r, t => evr M r t
  | .thn p q, t => ev M q (ev M p t)
  | .lat p q, t => max (ev M p t) (ev M q t)
  | .son p q, t => min (ev M p t) (ev M q t)
end
/-- plan one leads never to a later moment than plan two -/
def Nev (slow : Nat → Nat → Bool) (one two : Pl) : Prop := ∀ (M : Md slow) (t : Int), ev M one t ≤ ev M two t
section
variable {slow : Nat → Nat → Bool} {p q r : Pl}
theorem Nev.trans (h : Nev slow p q) (k : Nev slow q r) : Nev slow p r := fun M t => Int.le_trans (h M t) (k M t)
theorem nev_lat_l : Nev slow p (.lat p q) := fun M t => Int.le_max_left _ _
theorem nev_lat_r : Nev slow q (.lat p q) := fun M t => Int.le_max_right _ _
theorem nev_son_l : Nev slow (.son p q) p := fun M t => Int.min_le_left _ _
theorem nev_son_r : Nev slow (.son p q) q := fun M t => Int.min_le_right _ _
theorem nev_lat_iff : Nev slow (.lat p q) r ↔ Nev slow p r ∧ Nev slow q r :=
  ⟨fun h => ⟨nev_lat_l.trans h, nev_lat_r.trans h⟩, fun h M t => Int.max_le.mpr ⟨h.1 M t, h.2 M t⟩⟩
theorem nev_son_iff : Nev slow r (.son p q) ↔ Nev slow r p ∧ Nev slow r q :=
  ⟨fun h => ⟨h.trans nev_son_l, h.trans nev_son_r⟩, fun h M t => Int.le_min.mpr ⟨h.1 M t, h.2 M t⟩⟩
theorem nev_refl : Nev slow p p := fun _ _ => Int.le_refl _
end
/-! ### values -/
inductive Tl where
  | beg
  | st (c i : Nat)
  | lat (i j : Nat)
  | son (i j : Nat)
def okT (k : Nat) : Tl → Prop
  | .beg => k = 0
  | .st c i => okc c ∧ i < k
  | .lat i j => i < k ∧ j < k
  | .son i j => i < k ∧ j < k
structure WFL (L : List Tl) : Prop where
  b0 : L[0]? = some .beg
  ok : ∀ k t, L[k]? = some t → okT k t
def PlaR (L : List Tl) : List Nat → Nat → Nat → Prop
  | [], s, e => e = s
  | c :: r, s, e => ∃ k, L[k]? = some (.st c s) ∧ PlaR L r k e
/-- the plan's values lie in L, from s to e -/
def Pla (L : List Tl) : Pl → Nat → Nat → Prop
  | .row r, s, e => PlaR L r s e
  | .thn p q, s, e => ∃ m, Pla L p s m ∧ Pla L q m e
  | .lat p q, s, e => ∃ a b, Pla L p s a ∧ Pla L q s b ∧ L[e]? = some (.lat a b)
  | .son p q, s, e => ∃ a b, Pla L p s a ∧ Pla L q s b ∧ L[e]? = some (.son a b)
/-- the rule of two steps -/
def rul (c d i j k l : Nat) : R4 := if isF c = true then (if isF d = true then (i, j, k, l) else (i, l, k, j)) else (if isF d = true then (l, i, j, k) else (j, i, l, k))
structure GoodV (slow : Nat → Nat → Bool) (v : Nat → Int) (L : List Tl) : Prop where
  st : ∀ k c i, L[k]? = some (.st c i) → if isF c = true then v i ≤ v k else v k ≤ v i
  rl : ∀ k l c d i j, L[k]? = some (.st c i) → L[l]? = some (.st d j) → slow (lo c) (lo d) = true → v (rul c d i j k l).1 ≤ v (rul c d i j k l).2.1 → v (rul c d i j k l).2.2.1 ≤ v (rul c d i j k l).2.2.2
  lat : ∀ k i j, L[k]? = some (.lat i j) → v k = max (v i) (v j)
  son : ∀ k i j, L[k]? = some (.son i j) → v k = min (v i) (v j)
/-- the rules and joints of a list of values -/
structure Rls (slow : Nat → Nat → Bool) (L : List Tl) (rs : List R4) (js : List J4) : Prop where
  rsnd : ∀ r ∈ rs, ∃ k l c d i j, L[k]? = some (.st c i) ∧ L[l]? = some (.st d j) ∧ slow (lo c) (lo d) = true ∧ r = rul c d i j k l
  rcmp : ∀ k l c d i j, L[k]? = some (.st c i) → L[l]? = some (.st d j) → slow (lo c) (lo d) = true → rul c d i j k l ∈ rs ∨ ((rul c d i j k l).1 = (rul c d i j k l).2.2.1 ∧ (rul c d i j k l).2.1 = (rul c d i j k l).2.2.2)
  jl : ∀ i j k, (true, i, j, k) ∈ js ↔ L[k]? = some (.lat i j)
  js : ∀ i j k, (false, i, j, k) ∈ js ↔ L[k]? = some (.son i j)
theorem GoodV.good {slow : Nat → Nat → Bool} {v : Nat → Int} {L : List Tl} {rs : List R4} {js : List J4} (g : GoodV slow v L) (R : Rls slow L rs js) : GoodR v rs js where
  rl := fun r hr h => by
    obtain ⟨k, l, c, d, i, j, e1, e2, e3, rfl⟩ := R.rsnd r hr
    exact g.rl k l c d i j e1 e2 e3 h
  jt := fun q hq => by
    obtain ⟨b, i, j, k⟩ := q
    cases b with
    | true => exact g.lat k i j ((R.jl i j k).mp hq)
    | false => exact g.son k i j ((R.js i j k).mp hq)
/-- what is put in first -/
structure Ini (L : List Tl) (U : List Nat) : Prop where
  st : ∀ k c i, L[k]? = some (.st c i) → if isF c = true then bt U i k = true else bt U k i = true
  lat : ∀ k i j, L[k]? = some (.lat i j) → bt U i k = true ∧ bt U j k = true
  son : ∀ k i j, L[k]? = some (.son i j) → bt U k i = true ∧ bt U k j = true
/-- closed under all rules -/
structure Clo (n : Nat) (rs : List R4) (js : List J4) (U B : List Nat) : Prop where
  tc : Tc n U B
  rl : ∀ r ∈ rs, bt U r.1 r.2.1 = true → bt U r.2.2.1 r.2.2.2 = true
  rb : ∀ r ∈ rs, bt B r.2.2.2 r.2.2.1 = true → bt B r.2.1 r.1 = true
  jl : ∀ i j k h, (true, i, j, k) ∈ js → bt U i h = true → bt U j h = true → bt U k h = true ∧ (bt B i h = true → bt B j h = true → bt B k h = true)
  js : ∀ i j k h, (false, i, j, k) ∈ js → bt U h i = true → bt U h j = true → bt U h k = true ∧ (bt B h i = true → bt B h j = true → bt B h k = true)
/-! ### from links to values -/
section
variable {slow : Nat → Nat → Bool}
def nu (M : Md slow) (t : Int) (L : List Tl) (k : Nat) : Int := match L[k]? with
  | some (.st c i) => if h : i < k then stM M c (nu M t L i) else t
  | some (.lat i j) => if h : i < k ∧ j < k then max (nu M t L i) (nu M t L j) else t
  | some (.son i j) => if h : i < k ∧ j < k then min (nu M t L i) (nu M t L j) else t
  | _ => t
termination_by k
decreasing_by all_goals omega
structure Cons (M : Md slow) (v : Nat → Int) (L : List Tl) : Prop where
  st : ∀ k c i, L[k]? = some (.st c i) → v k = stM M c (v i)
  lat : ∀ k i j, L[k]? = some (.lat i j) → v k = max (v i) (v j)
  son : ∀ k i j, L[k]? = some (.son i j) → v k = min (v i) (v j)
theorem nu_cons (M : Md slow) (t : Int) {L : List Tl} (w : WFL L) : Cons M (nu M t L) L where
  st := fun k c i h => by
    have q : i < k := (w.ok k _ h).2
    rw [nu, h]
    simp only [q, dite_true]
  lat := fun k i j h => by
    have q : i < k ∧ j < k := w.ok k _ h
    rw [nu, h]
    simp only [q, and_self, dite_true]
  son := fun k i j h => by
    have q : i < k ∧ j < k := w.ok k _ h
    rw [nu, h]
    simp only [q, and_self, dite_true]
theorem nu_0 (M : Md slow) (t : Int) {L : List Tl} (w : WFL L) : nu M t L 0 = t := by rw [nu, w.b0]
theorem evr_pla {M : Md slow} {v : Nat → Int} {L : List Tl} (c : Cons M v L) : ∀ {r : List Nat} {s e : Nat}, PlaR L r s e → evr M r (v s) = v e
  | [], s, e, h => by
    have h : e = s := h
    rw [h]; rfl
  | a :: r, s, e, h => by
    obtain ⟨k, h1, h2⟩ := h
    show evr M r (stM M a (v s)) = v e
    rw [← c.st k a s h1]
    exact evr_pla c h2
theorem ev_pla {M : Md slow} {v : Nat → Int} {L : List Tl} (c : Cons M v L) : ∀ {p : Pl} {s e : Nat}, Pla L p s e → ev M p (v s) = v e
  | .row r, s, e, h => evr_pla c h
  | .thn p q, s, e, ⟨m, h1, h2⟩ => by
    show ev M q (ev M p (v s)) = v e
    rw [ev_pla c h1, ev_pla c h2]
  | .lat p q, s, e, ⟨a, b, h1, h2, h3⟩ => by
    show max (ev M p (v s)) (ev M q (v s)) = v e
    rw [ev_pla c h1, ev_pla c h2, c.lat e a b h3]
  | .son p q, s, e, ⟨a, b, h1, h2, h3⟩ => by
    show min (ev M p (v s)) (ev M q (v s)) = v e
    rw [ev_pla c h1, ev_pla c h2, c.son e a b h3]
theorem Cons.good {M : Md slow} {v : Nat → Int} {L : List Tl} (c : Cons M v L) : GoodV slow v L where
  st := fun k a i h => by
    rw [c.st k a i h]
    unfold stM
    split
    · exact M.infl _ _
    · exact M.defl _ _
  rl := fun k l a d i j h1 h2 h3 => by
    have e1 := c.st k a i h1
    have e2 := c.st l d j h2
    unfold stM at e1 e2
    unfold rul
    cases fa : isF a <;> cases fd : isF d <;> simp only [fa, fd, if_true, if_false, Bool.false_eq_true] at e1 e2 ⊢ <;> intro q
    · rw [e1, e2]
      exact Int.le_trans (M.slwB h3 _) (M.monoB _ q)
    · rw [e2] at q
      rw [e1]
      exact (M.adj _ _ _).mp (Int.le_trans (M.slw _ _ h3 _) q)
    · rw [e2] at q
      rw [e1]
      exact Int.le_trans (M.slw _ _ h3 _) ((M.adj _ _ _).mpr q)
    · rw [e1, e2]
      exact Int.le_trans (M.slw _ _ h3 _) (M.monoF _ q)
  lat := c.lat
  son := c.son
/-- no order of the values with the second end ahead of the first one: never -/
theorem nev_of {L : List Tl} (w : WFL L) {one two : Pl} {e1 e2 : Nat} (p1 : Pla L one 0 e1) (p2 : Pla L two 0 e2) (h : ∀ v, GoodV slow v L → v e1 ≤ v e2) : Nev slow one two := fun M t => by
  have c := nu_cons M t w
  have q := h _ c.good
  rw [← ev_pla c p1, ← ev_pla c p2, nu_0 M t w] at q
  exact q
/-! ### from values to links -/
def fmin (a : Int) (l : List Int) : Int := l.foldl min a
def fmax (a : Int) (l : List Int) : Int := l.foldl max a
theorem fmin_le {s : Int} : ∀ {l : List Int} {a : Int}, fmin a l ≤ s ↔ a ≤ s ∨ ∃ e ∈ l, e ≤ s
  | [], a => by simp [fmin]
  | b :: l, a => by
    show fmin (min a b) l ≤ s ↔ _
    rw [fmin_le]
    have e : min a b ≤ s ↔ a ≤ s ∨ b ≤ s := by omega
    rw [e]
    simp only [List.mem_cons, exists_eq_or_imp]
    exact or_assoc
theorem le_fmax {s : Int} : ∀ {l : List Int} {a : Int}, s ≤ fmax a l ↔ s ≤ a ∨ ∃ e ∈ l, s ≤ e
  | [], a => by simp [fmax]
  | b :: l, a => by
    show s ≤ fmax (max a b) l ↔ _
    rw [le_fmax]
    have e : s ≤ max a b ↔ s ≤ a ∨ s ≤ b := by omega
    rw [e]
    simp only [List.mem_cons, exists_eq_or_imp]
    exact or_assoc
/-- rides, and all rides of no length far out: the links that they make -/
def lkF (G : Int) (rd : List (Int × Int)) (t : Int) : Int := if t ≤ -G then t else fmin (max t G) ((rd.filter fun p => decide (t ≤ p.1)).map (·.2))
def lkB (G : Int) (rd : List (Int × Int)) (s : Int) : Int := if G ≤ s then s else fmax (min s (-G)) ((rd.filter fun p => decide (p.2 ≤ s)).map (·.1))
theorem lkF_le {G : Int} {rd : List (Int × Int)} {t s : Int} (h : ¬ t ≤ -G) : lkF G rd t ≤ s ↔ max t G ≤ s ∨ ∃ p ∈ rd, t ≤ p.1 ∧ p.2 ≤ s := by
  unfold lkF
  rw [if_neg h, fmin_le]
  simp only [List.mem_map, List.mem_filter, decide_eq_true_eq]
  constructor
  · rintro (q | ⟨e, ⟨p, ⟨hp, h1⟩, rfl⟩, h2⟩)
    · exact .inl q
    · exact .inr ⟨p, hp, h1, h2⟩
  · rintro (q | ⟨p, hp, h1, h2⟩)
    · exact .inl q
    · exact .inr ⟨p.2, ⟨p, ⟨hp, h1⟩, rfl⟩, h2⟩
theorem le_lkB {G : Int} {rd : List (Int × Int)} {t s : Int} (h : ¬ G ≤ s) : t ≤ lkB G rd s ↔ t ≤ min s (-G) ∨ ∃ p ∈ rd, p.2 ≤ s ∧ t ≤ p.1 := by
  unfold lkB
  rw [if_neg h, le_fmax]
  simp only [List.mem_map, List.mem_filter, decide_eq_true_eq]
  constructor
  · rintro (q | ⟨e, ⟨p, ⟨hp, h1⟩, rfl⟩, h2⟩)
    · exact .inl q
    · exact .inr ⟨p, hp, h1, h2⟩
  · rintro (q | ⟨p, hp, h1, h2⟩)
    · exact .inl q
    · exact .inr ⟨p.1, ⟨p, ⟨hp, h1⟩, rfl⟩, h2⟩
theorem lk_adj {G : Int} (hG : 0 < G) {rd : List (Int × Int)} (hr : ∀ p ∈ rd, -G < p.1 ∧ p.1 ≤ p.2 ∧ p.2 < G) (t s : Int) : lkF G rd t ≤ s ↔ t ≤ lkB G rd s := by
  by_cases h1 : t ≤ -G
  · have e : lkF G rd t = t := by unfold lkF; rw [if_pos h1]
    rw [e]
    by_cases h2 : G ≤ s
    · have e2 : lkB G rd s = s := by unfold lkB; rw [if_pos h2]
      rw [e2]
    · rw [le_lkB h2]
      constructor
      · intro q
        exact .inl (by omega)
      · rintro (q | ⟨p, hp, q1, q2⟩)
        · omega
        · have := hr p hp
          omega
  · rw [lkF_le h1]
    by_cases h2 : G ≤ s
    · have e2 : lkB G rd s = s := by unfold lkB; rw [if_pos h2]
      rw [e2]
      constructor
      · rintro (q | ⟨p, hp, q1, q2⟩)
        · omega
        · have := hr p hp
          omega
      · intro q
        exact .inl (by omega)
    · rw [le_lkB h2]
      constructor
      · rintro (q | ⟨p, hp, q1, q2⟩)
        · omega
        · exact .inr ⟨p, hp, q2, q1⟩
      · rintro (q | ⟨p, hp, q1, q2⟩)
        · omega
        · exact .inr ⟨p, hp, q2, q1⟩
theorem lk_infl {G : Int} {rd : List (Int × Int)} (hr : ∀ p ∈ rd, p.1 ≤ p.2) (t : Int) : t ≤ lkF G rd t := by
  by_cases h : t ≤ -G
  · unfold lkF
    rw [if_pos h]
    exact Int.le_refl _
  · have q := (lkF_le (G := G) (rd := rd) h).mp (Int.le_refl (lkF G rd t))
    rcases q with q | ⟨p, hp, q1, q2⟩
    · omega
    · have := hr p hp
      omega
theorem lk_sub {G : Int} {rd rd' : List (Int × Int)} (h : ∀ p ∈ rd', p ∈ rd) (t : Int) : lkF G rd t ≤ lkF G rd' t := by
  by_cases h1 : t ≤ -G
  · unfold lkF
    rw [if_pos h1, if_pos h1]
    exact Int.le_refl _
  · rw [lkF_le h1]
    rcases (lkF_le (G := G) (rd := rd') h1).mp (Int.le_refl _) with q | ⟨p, hp, q⟩
    · exact .inl q
    · exact .inr ⟨p, h p hp, q⟩
/-- the rides of all links that count for x -/
def rdsV (slow : Nat → Nat → Bool) (v : Nat → Int) (L : List Tl) (x : Nat) : List (Int × Int) := (List.range L.length).filterMap fun (k : Nat) => match L[k]? with
  | some (.st c i) => if slow x (lo c) = true then some (if isF c = true then (v i, v k) else (v k, v i)) else none
  | _ => none
theorem mem_rds {v : Nat → Int} {L : List Tl} {x : Nat} {p : Int × Int} : p ∈ rdsV slow v L x ↔ ∃ k c i, L[k]? = some (.st c i) ∧ slow x (lo c) = true ∧ p = if isF c = true then (v i, v k) else (v k, v i) := by
  unfold rdsV
  rw [List.mem_filterMap]
  constructor
  · rintro ⟨k, hk, h⟩
    cases e : L[k]? with
    | none => rw [e] at h; cases h
    | some t =>
      rw [e] at h
      cases t with
      | st c i =>
        simp only at h
        by_cases q : slow x (lo c) = true
        · rw [if_pos q] at h
          exact ⟨k, c, i, e, q, (Option.some.inj h).symm⟩
        · rw [if_neg q] at h
          cases h
      | _ => cases h
  · rintro ⟨k, c, i, e, q, rfl⟩
    refine ⟨k, List.mem_range.mpr (List.getElem?_eq_some_iff.mp e).1, ?_⟩
    rw [e]
    simp only [q, if_true]
/-- an order of the values with the second end ahead of the first one: later -/
theorem not_nev_of {L : List Tl} (w : WFL L) {one two : Pl} {e1 e2 : Nat} (p1 : Pla L one 0 e1) (p2 : Pla L two 0 e2) (sr : ∀ x, slow x x = true) (str : ∀ x y z, slow x y = true → slow y z = true → slow x z = true)
    {v : Nat → Int} {G : Int} (hG : 0 < G) (hv : ∀ k, -G < v k ∧ v k < G) (g : GoodV slow v L) (h : v e2 < v e1) : ¬ Nev slow one two := fun N => by
  have hr : ∀ x, ∀ p ∈ rdsV slow v L x, -G < p.1 ∧ p.1 ≤ p.2 ∧ p.2 < G := fun x p hp => by
    obtain ⟨k, c, i, e, _, rfl⟩ := mem_rds.mp hp
    have q := g.st k c i e
    cases f : isF c <;> simp only [f, if_true, if_false, Bool.false_eq_true] at q ⊢
    · exact ⟨(hv k).1, q, (hv i).2⟩
    · exact ⟨(hv i).1, q, (hv k).2⟩
  let M : Md slow := {
    F := fun x t => lkF G (rdsV slow v L x) t
    B := fun x s => lkB G (rdsV slow v L x) s
    adj := fun x t s => lk_adj hG (hr x) t s
    infl := fun x t => lk_infl (fun p hp => (hr x p hp).2.1) t
    slw := fun x y hxy t => lk_sub (fun p hp => by
      obtain ⟨k, c, i, e, q, rfl⟩ := mem_rds.mp hp
      exact mem_rds.mpr ⟨k, c, i, e, str _ _ _ hxy q, rfl⟩) t }
  have c : Cons M v L := {
    st := fun k c i e => by
      have hi := hv i
      have hk := hv k
      unfold stM
      cases f : isF c
      · rw [if_neg (by decide)]
        show v k = lkB G (rdsV slow v L (lo c)) (v i)
        refine Int.le_antisymm ((le_lkB (by omega)).mpr (.inr ⟨(v k, v i), mem_rds.mpr ⟨k, c, i, e, sr _, by rw [f]; rfl⟩, Int.le_refl _, Int.le_refl _⟩)) ?_
        rcases (le_lkB (G := G) (rd := rdsV slow v L (lo c)) (by omega)).mp (Int.le_refl (lkB G (rdsV slow v L (lo c)) (v i))) with q | ⟨p, hp, q1, q2⟩
        · omega
        · obtain ⟨l, d, j, e', q, rfl⟩ := mem_rds.mp hp
          have z := g.rl k l c d i j e e' q
          refine Int.le_trans q2 ?_
          cases fd : isF d <;> simp only [rul, f, fd, if_true, if_false, Bool.false_eq_true] at z q1 ⊢ <;> exact z q1
      · rw [if_pos rfl]
        show v k = lkF G (rdsV slow v L (lo c)) (v i)
        refine Int.le_antisymm ?_ ((lkF_le (by omega)).mpr (.inr ⟨(v i, v k), mem_rds.mpr ⟨k, c, i, e, sr _, by rw [f]; rfl⟩, Int.le_refl _, Int.le_refl _⟩))
        rcases (lkF_le (G := G) (rd := rdsV slow v L (lo c)) (by omega)).mp (Int.le_refl (lkF G (rdsV slow v L (lo c)) (v i))) with q | ⟨p, hp, q1, q2⟩
        · omega
        · obtain ⟨l, d, j, e', q, rfl⟩ := mem_rds.mp hp
          have z := g.rl k l c d i j e e' q
          refine Int.le_trans ?_ q2
          cases fd : isF d <;> simp only [rul, f, fd, if_true, if_false, Bool.false_eq_true] at z q1 ⊢ <;> exact z q1
    lat := g.lat
    son := g.son }
  have q := N M (v 0)
  rw [ev_pla c p1, ev_pla c p2] at q
  omega
end
end K35

/-! Orders in which all is known; what closure alone shows. -/
namespace K35
/-! ### all is known -/
def numK (n : Nat) (B : List Nat) (k : Nat) : Nat := (List.range n).countP fun i => bt B i k
def Decided (n : Nat) (U B : List Nat) : Prop := ∀ i j, i < n → j < n → i ≠ j → bt U i j = true ∨ bt B j i = true
section
variable {n : Nat} {rs : List R4} {js : List J4} {U B : List Nat}
theorem num_le (t : Tc n U B) {i j : Nat} (h : bt U i j = true) : numK n B i ≤ numK n B j := List.countP_mono_left fun k _ q => t.t2 k i j q h
theorem num_lt (w : Wf n U B) (t : Tc n U B) (nc : ¬ Contrary B) {i j : Nat} (h : bt B i j = true) : numK n B i < numK n B j :=
  countP_lt (fun k _ q => t.t2 k i j q (w.sub i j h)) ⟨i, List.mem_range.mpr (bt_row w.lb h), h, by
    cases e : bt B i i with
    | false => rfl
    | true => exact absurd ⟨i, e⟩ nc⟩
theorem num_iff (w : Wf n U B) (t : Tc n U B) (nc : ¬ Contrary B) (d : Decided n U B) {i j : Nat} (hi : i < n) (hj : j < n) : numK n B i ≤ numK n B j ↔ bt U i j = true := by
  constructor
  · intro h
    by_cases e : i = j
    · subst e; exact t.refl i hi
    · rcases d i j hi hj e with q | q
      · exact q
      · have := num_lt w t nc q
        omega
  · exact num_le t
theorem rul_lt {c d i j k l : Nat} (hi : i < n) (hj : j < n) (hk : k < n) (hl : l < n) : (rul c d i j k l).1 < n ∧ (rul c d i j k l).2.1 < n ∧ (rul c d i j k l).2.2.1 < n ∧ (rul c d i j k l).2.2.2 < n := by
  unfold rul
  cases isF c <;> cases isF d <;> simp <;> omega
theorem WFL.idx {L : List Tl} (w : WFL L) {k c i : Nat} (h : L[k]? = some (.st c i)) : i < L.length ∧ k < L.length := by
  have h1 := (w.ok k _ h).2
  have h2 := (List.getElem?_eq_some_iff.mp h).1
  omega
theorem good_of {slow : Nat → Nat → Bool} {L : List Tl} (wl : WFL L) (R : Rls slow L rs js) (w : Wf L.length U B) (I : Ini L U) (c : Clo L.length rs js U B) (nc : ¬ Contrary B) (d : Decided L.length U B) : GoodV slow (fun k => (numK L.length B k : Int)) L where
  st := fun k a i h => by
    have q := I.st k a i h
    split
    · rename_i f
      rw [if_pos f] at q
      exact Int.ofNat_le.mpr (num_le c.tc q)
    · rename_i f
      rw [if_neg f] at q
      exact Int.ofNat_le.mpr (num_le c.tc q)
  rl := fun k l a b i j h1 h2 h3 h4 => by
    obtain ⟨hi, hk⟩ := wl.idx h1
    obtain ⟨hj, hl⟩ := wl.idx h2
    obtain ⟨x1, x2, x3, x4⟩ := rul_lt (c := a) (d := b) hi hj hk hl
    have q := (num_iff w c.tc nc d x1 x2).mp (Int.ofNat_le.mp h4)
    refine Int.ofNat_le.mpr (num_le c.tc ?_)
    rcases R.rcmp k l a b i j h1 h2 h3 with z | ⟨z1, z2⟩
    · exact c.rl _ z q
    · rw [← z1, ← z2]; exact q
  lat := fun k i j h => by
    obtain ⟨q1, q2⟩ := I.lat k i j h
    have hk := (List.getElem?_eq_some_iff.mp h).1
    have hij : i < k ∧ j < k := wl.ok k _ h
    have z := (R.jl i j k).mpr h
    have l1 := num_le c.tc q1
    have l2 := num_le c.tc q2
    by_cases e : numK L.length B i ≤ numK L.length B j
    · have u := (num_iff w c.tc nc d (by omega) (by omega)).mp e
      have := num_le c.tc (c.jl i j k j z u (c.tc.refl j (by omega))).1
      omega
    · have u := (num_iff w c.tc nc d (i := j) (j := i) (by omega) (by omega)).mp (by omega)
      have := num_le c.tc (c.jl i j k i z (c.tc.refl i (by omega)) u).1
      omega
  son := fun k i j h => by
    obtain ⟨q1, q2⟩ := I.son k i j h
    have hk := (List.getElem?_eq_some_iff.mp h).1
    have hij : i < k ∧ j < k := wl.ok k _ h
    have z := (R.js i j k).mpr h
    have l1 := num_le c.tc q1
    have l2 := num_le c.tc q2
    by_cases e : numK L.length B i ≤ numK L.length B j
    · have u := (num_iff w c.tc nc d (by omega) (by omega)).mp e
      have := num_le c.tc (c.js i j k i z (c.tc.refl i (by omega)) u).1
      omega
    · have u := (num_iff w c.tc nc d (i := j) (j := i) (by omega) (by omega)).mp (by omega)
      have := num_le c.tc (c.js i j k j z u (c.tc.refl j (by omega))).1
      omega
theorem not_nev {slow : Nat → Nat → Bool} {L : List Tl} (wl : WFL L) (R : Rls slow L rs js) (w : Wf L.length U B) (I : Ini L U) (c : Clo L.length rs js U B) (nc : ¬ Contrary B) (d : Decided L.length U B)
    (sr : ∀ x, slow x x = true) (str : ∀ x y z, slow x y = true → slow y z = true → slow x z = true) {one two : Pl} {e1 e2 : Nat} (p1 : Pla L one 0 e1) (p2 : Pla L two 0 e2) (h : bt B e2 e1 = true) : ¬ Nev slow one two := by
  refine not_nev_of wl p1 p2 sr str (G := (L.length : Int) + 1) (by omega) (fun k => ?_) (good_of wl R w I c nc d) (Int.ofNat_lt.mpr (num_lt w c.tc nc h))
  have : numK L.length B k ≤ (List.range L.length).length := List.countP_le_length
  rw [List.length_range] at this
  omega
end
/-! ### what the first order is -/
structure Fst (slow : Nat → Nat → Bool) (L : List Tl) (e1 e2 : Nat) (rs : List R4) (js : List J4) (U B : List Nat) : Prop where
  wf : Wf L.length U B
  ini : Ini L U
  neg : bt B e2 e1 = true
  clo : ¬ Contrary B → Clo L.length rs js U B
  snd : ∀ v, GoodV slow v L → v e2 < v e1 → Sat v U B
/-- closure alone shows it -/
def Tri (slow : Nat → Nat → Bool) (one two : Pl) : Prop := ∀ (L : List Tl) (e1 e2 : Nat) (rs : List R4) (js : List J4) (U B : List Nat), WFL L → Rls slow L rs js → Pla L one 0 e1 → Pla L two 0 e2 → Fst slow L e1 e2 rs js U B → Contrary B
section
variable {slow : Nat → Nat → Bool} {L : List Tl} {rs : List R4} {js : List J4} {U B : List Nat}
theorem step_le (sr : ∀ x, slow x x = true) (R : Rls slow L rs js) (c : Clo L.length rs js U B) {a k l i j : Nat} (h1 : L[k]? = some (.st a i)) (h2 : L[l]? = some (.st a j)) (h : bt U i j = true) : bt U k l = true := by
  cases f : isF a
  · rcases R.rcmp l k a a j i h2 h1 (sr _) with z | ⟨z1, z2⟩
    · have := c.rl _ z
      simp only [rul, f, Bool.false_eq_true, if_false] at this
      exact this h
    · simp only [rul, f, Bool.false_eq_true, if_false] at z1 z2
      rw [← z1, ← z2]; exact h
  · rcases R.rcmp k l a a i j h1 h2 (sr _) with z | ⟨z1, z2⟩
    · have := c.rl _ z
      simp only [rul, f, if_true] at this
      exact this h
    · simp only [rul, f, if_true] at z1 z2
      rw [← z1, ← z2]; exact h
theorem step_lt (sr : ∀ x, slow x x = true) (R : Rls slow L rs js) (c : Clo L.length rs js U B) {a k l i j : Nat} (h1 : L[k]? = some (.st a i)) (h2 : L[l]? = some (.st a j)) (h : bt B l k = true) : bt B j i = true := by
  cases f : isF a
  · rcases R.rcmp l k a a j i h2 h1 (sr _) with z | ⟨z1, z2⟩
    · have := c.rb _ z
      simp only [rul, f, Bool.false_eq_true, if_false] at this
      exact this h
    · simp only [rul, f, Bool.false_eq_true, if_false] at z1 z2
      rw [z1, z2]; exact h
  · rcases R.rcmp k l a a i j h1 h2 (sr _) with z | ⟨z1, z2⟩
    · have := c.rb _ z
      simp only [rul, f, if_true] at this
      exact this h
    · simp only [rul, f, if_true] at z1 z2
      rw [z1, z2]; exact h
theorem copyR (sr : ∀ x, slow x x = true) (R : Rls slow L rs js) (c : Clo L.length rs js U B) : ∀ {r : List Nat} {s e s' e' : Nat}, PlaR L r s e → PlaR L r s' e' → bt U s s' = true → bt U e e' = true
  | [], s, e, s', e', h, h', q => by
    have h : e = s := h
    have h' : e' = s' := h'
    rw [h, h']; exact q
  | a :: r, s, e, s', e', ⟨k, h1, h2⟩, ⟨k', h1', h2'⟩, q => copyR sr R c h2 h2' (step_le sr R c h1 h1' q)
/-- one plan twice -/
theorem copy (sr : ∀ x, slow x x = true) (R : Rls slow L rs js) (I : Ini L U) (c : Clo L.length rs js U B) : ∀ {p : Pl} {s e s' e' : Nat}, Pla L p s e → Pla L p s' e' → bt U s s' = true → bt U e e' = true
  | .row r, s, e, s', e', h, h', q => copyR sr R c h h' q
  | .thn p r, s, e, s', e', ⟨m, h1, h2⟩, ⟨m', h1', h2'⟩, q => copy sr R I c h2 h2' (copy sr R I c h1 h1' q)
  | .lat p r, s, e, s', e', ⟨a, b, h1, h2, h3⟩, ⟨a', b', h1', h2', h3'⟩, q => by
    obtain ⟨u1, u2⟩ := I.lat e' a' b' h3'
    exact (c.jl a b e e' ((R.jl a b e).mpr h3) (c.tc.t1 _ _ _ (copy sr R I c h1 h1' q) u1) (c.tc.t1 _ _ _ (copy sr R I c h2 h2' q) u2)).1
  | .son p r, s, e, s', e', ⟨a, b, h1, h2, h3⟩, ⟨a', b', h1', h2', h3'⟩, q => by
    obtain ⟨u1, u2⟩ := I.son e a b h3
    exact (c.js a' b' e' e ((R.js a' b' e').mpr h3') (c.tc.t1 _ _ _ u1 (copy sr R I c h1 h1' q)) (c.tc.t1 _ _ _ u2 (copy sr R I c h2 h2' q))).1
theorem PlaR.app {L : List Tl} {r2 : List Nat} : ∀ {r1 : List Nat} {s e : Nat}, PlaR L (r1 ++ r2) s e ↔ ∃ m, PlaR L r1 s m ∧ PlaR L r2 m e
  | [], s, e => ⟨fun h => ⟨s, rfl, h⟩, fun ⟨m, h1, h2⟩ => by
    have h1 : m = s := h1
    rw [← h1]; exact h2⟩
  | a :: r1, s, e => by
    constructor
    · rintro ⟨k, h1, h2⟩
      obtain ⟨m, h3, h4⟩ := PlaR.app.mp h2
      exact ⟨m, ⟨k, h1, h3⟩, h4⟩
    · rintro ⟨m, ⟨k, h1, h2⟩, h3⟩
      exact ⟨k, h1, PlaR.app.mpr ⟨m, h2, h3⟩⟩
end
/-- shown by: first end is known not later than the second one -/
theorem tri_of {slow : Nat → Nat → Bool} (one two : Pl) (h : ∀ (L : List Tl) (e1 e2 : Nat) (rs : List R4) (js : List J4) (U B : List Nat), WFL L → Rls slow L rs js → Ini L U → Clo L.length rs js U B → bt U 0 0 = true →
    Pla L one 0 e1 → Pla L two 0 e2 → bt B e2 e1 = true → bt U e1 e2 = true ∨ Contrary B) : Tri slow one two := fun L e1 e2 rs js U B w R p1 p2 f => Classical.byContradiction fun nc => by
  have c := f.clo nc
  have h0 : bt U 0 0 = true := c.tc.refl 0 (List.getElem?_eq_some_iff.mp w.b0).1
  rcases h L e1 e2 rs js U B w R f.ini c h0 p1 p2 f.neg with q | q
  · exact nc ⟨e2, c.tc.t2 _ _ _ f.neg q⟩
  · exact nc q
section
variable {slow : Nat → Nat → Bool} (sr : ∀ x, slow x x = true) (p q : Pl)
include sr
theorem tri_lat_comm : Tri slow (.lat p q) (.lat q p) := tri_of _ _ fun L e1 e2 rs js U B w R I c h0 ⟨a, b, h1, h2, h3⟩ ⟨a', b', k1, k2, k3⟩ _ => by
  obtain ⟨u1, u2⟩ := I.lat _ _ _ k3
  exact .inl (c.jl a b e1 e2 ((R.jl _ _ _).mpr h3) (c.tc.t1 _ _ _ (copy sr R I c h1 k2 h0) u2) (c.tc.t1 _ _ _ (copy sr R I c h2 k1 h0) u1)).1
theorem tri_son_comm : Tri slow (.son p q) (.son q p) := tri_of _ _ fun L e1 e2 rs js U B w R I c h0 ⟨a, b, h1, h2, h3⟩ ⟨a', b', k1, k2, k3⟩ _ => by
  obtain ⟨u1, u2⟩ := I.son _ _ _ h3
  exact .inl (c.js a' b' e2 e1 ((R.js _ _ _).mpr k3) (c.tc.t1 _ _ _ u2 (copy sr R I c h2 k1 h0)) (c.tc.t1 _ _ _ u1 (copy sr R I c h1 k2 h0))).1
theorem tri_abs1 : Tri slow p (.lat p (.son p q)) := tri_of _ _ fun L e1 e2 rs js U B w R I c h0 h ⟨a', b', k1, k2, k3⟩ _ => by
  obtain ⟨u1, u2⟩ := I.lat _ _ _ k3
  exact .inl (c.tc.t1 _ _ _ (copy sr R I c h k1 h0) u1)
theorem tri_abs2 : Tri slow (.lat p (.son p q)) p := tri_of _ _ fun L e1 e2 rs js U B w R I c h0 ⟨a, b, h1, ⟨x, y, h2, h3, h4⟩, h5⟩ k _ => by
  obtain ⟨u1, u2⟩ := I.son _ _ _ h4
  exact .inl (c.jl a b e1 e2 ((R.jl _ _ _).mpr h5) (copy sr R I c h1 k h0) (c.tc.t1 _ _ _ u1 (copy sr R I c h2 k h0))).1
theorem tri_abs3 : Tri slow p (.son (.lat p q) p) := tri_of _ _ fun L e1 e2 rs js U B w R I c h0 h ⟨a, b, ⟨x, y, h2, h3, h4⟩, h1, h5⟩ _ => by
  obtain ⟨u1, u2⟩ := I.lat _ _ _ h4
  exact .inl (c.js a b e2 e1 ((R.js _ _ _).mpr h5) (c.tc.t1 _ _ _ (copy sr R I c h h2 h0) u1) (copy sr R I c h h1 h0)).1
theorem tri_abs4 : Tri slow (.son (.lat p q) p) p := tri_of _ _ fun L e1 e2 rs js U B w R I c h0 ⟨a, b, h1, h2, h3⟩ k _ => by
  obtain ⟨u1, u2⟩ := I.son _ _ _ h3
  exact .inl (c.tc.t1 _ _ _ u2 (copy sr R I c h2 k h0))
end
section
variable {slow : Nat → Nat → Bool} (sr : ∀ x, slow x x = true) (a : Nat) (p q : List Nat)
include sr
/-- then, ahead -/
theorem tri_pre_lat1 : Tri slow (.thn (.row [a]) (.lat (.row p) (.row q))) (.lat (.row (a :: p)) (.row (a :: q))) := tri_of _ _ fun L e1 e2 rs js U B w R I c h0 ⟨m, ⟨k, h1, h2⟩, x, y, h3, h4, h5⟩ ⟨x', y', ⟨k1, g1, g2⟩, ⟨k2, g3, g4⟩, g5⟩ _ => by
  have h2 : m = k := h2
  rw [h2] at h3 h4
  obtain ⟨u1, u2⟩ := I.lat _ _ _ g5
  exact .inl (c.jl x y e1 e2 ((R.jl _ _ _).mpr h5) (c.tc.t1 _ _ _ (copyR sr R c h3 g2 (step_le sr R c h1 g1 h0)) u1) (c.tc.t1 _ _ _ (copyR sr R c h4 g4 (step_le sr R c h1 g3 h0)) u2)).1
theorem tri_pre_lat2 : Tri slow (.lat (.row (a :: p)) (.row (a :: q))) (.thn (.row [a]) (.lat (.row p) (.row q))) := tri_of _ _ fun L e1 e2 rs js U B w R I c h0 ⟨x', y', ⟨k1, g1, g2⟩, ⟨k2, g3, g4⟩, g5⟩ ⟨m, ⟨k, h1, h2⟩, x, y, h3, h4, h5⟩ _ => by
  have h2 : m = k := h2
  rw [h2] at h3 h4
  obtain ⟨u1, u2⟩ := I.lat _ _ _ h5
  exact .inl (c.jl x' y' e1 e2 ((R.jl _ _ _).mpr g5) (c.tc.t1 _ _ _ (copyR sr R c g2 h3 (step_le sr R c g1 h1 h0)) u1) (c.tc.t1 _ _ _ (copyR sr R c g4 h4 (step_le sr R c g3 h1 h0)) u2)).1
theorem tri_pre_son1 : Tri slow (.thn (.row [a]) (.son (.row p) (.row q))) (.son (.row (a :: p)) (.row (a :: q))) := tri_of _ _ fun L e1 e2 rs js U B w R I c h0 ⟨m, ⟨k, h1, h2⟩, x, y, h3, h4, h5⟩ ⟨x', y', ⟨k1, g1, g2⟩, ⟨k2, g3, g4⟩, g5⟩ _ => by
  have h2 : m = k := h2
  rw [h2] at h3 h4
  obtain ⟨u1, u2⟩ := I.son _ _ _ h5
  exact .inl (c.js x' y' e2 e1 ((R.js _ _ _).mpr g5) (c.tc.t1 _ _ _ u1 (copyR sr R c h3 g2 (step_le sr R c h1 g1 h0))) (c.tc.t1 _ _ _ u2 (copyR sr R c h4 g4 (step_le sr R c h1 g3 h0)))).1
theorem tri_pre_son2 : Tri slow (.son (.row (a :: p)) (.row (a :: q))) (.thn (.row [a]) (.son (.row p) (.row q))) := tri_of _ _ fun L e1 e2 rs js U B w R I c h0 ⟨x', y', ⟨k1, g1, g2⟩, ⟨k2, g3, g4⟩, g5⟩ ⟨m, ⟨k, h1, h2⟩, x, y, h3, h4, h5⟩ _ => by
  have h2 : m = k := h2
  rw [h2] at h3 h4
  obtain ⟨u1, u2⟩ := I.son _ _ _ g5
  exact .inl (c.js x y e2 e1 ((R.js _ _ _).mpr h5) (c.tc.t1 _ _ _ u1 (copyR sr R c g2 h3 (step_le sr R c g1 h1 h0))) (c.tc.t1 _ _ _ u2 (copyR sr R c g4 h4 (step_le sr R c g3 h1 h0)))).1
/-- then, behind -/
theorem tri_suf_lat1 : Tri slow (.thn (.lat (.row p) (.row q)) (.row [a])) (.lat (.row (p ++ [a])) (.row (q ++ [a]))) := tri_of _ _ fun L e1 e2 rs js U B w R I c h0 ⟨m, ⟨x, y, h1, h2, h3⟩, ⟨k, h4, h5⟩⟩ ⟨x', y', g1, g2, g3⟩ hb => by
  have h5 : e1 = k := h5
  obtain ⟨m1, g1, k1, f1, f2⟩ := PlaR.app.mp g1
  obtain ⟨m2, g2, k2, f3, f4⟩ := PlaR.app.mp g2
  have f2 : x' = k1 := f2
  have f4 : y' = k2 := f4
  rw [← f2] at f1
  rw [← f4] at f3
  rw [← h5] at h4
  obtain ⟨u1, u2⟩ := I.lat _ _ _ g3
  have b1 := step_lt sr R c h4 f1 (c.tc.t3 _ _ _ u1 hb)
  have b2 := step_lt sr R c h4 f3 (c.tc.t3 _ _ _ u2 hb)
  have d1 := c.tc.t3 _ _ _ (copyR sr R c h1 g1 h0) b1
  have d2 := c.tc.t3 _ _ _ (copyR sr R c h2 g2 h0) b2
  have z := (R.jl _ _ _).mpr h3
  obtain ⟨v1, v2⟩ := I.lat _ _ _ h3
  exact .inr ⟨m, (c.jl x y m m z v1 v2).2 d1 d2⟩
theorem tri_suf_lat2 : Tri slow (.lat (.row (p ++ [a])) (.row (q ++ [a]))) (.thn (.lat (.row p) (.row q)) (.row [a])) := tri_of _ _ fun L e1 e2 rs js U B w R I c h0 ⟨x', y', g1, g2, g3⟩ ⟨m, ⟨x, y, h1, h2, h3⟩, ⟨k, h4, h5⟩⟩ hb => by
  have h5 : e2 = k := h5
  obtain ⟨m1, g1, k1, f1, f2⟩ := PlaR.app.mp g1
  obtain ⟨m2, g2, k2, f3, f4⟩ := PlaR.app.mp g2
  have f2 : x' = k1 := f2
  have f4 : y' = k2 := f4
  rw [← f2] at f1
  rw [← f4] at f3
  rw [← h5] at h4
  obtain ⟨v1, v2⟩ := I.lat _ _ _ h3
  exact .inl (c.jl x' y' e1 e2 ((R.jl _ _ _).mpr g3) (step_le sr R c f1 h4 (c.tc.t1 _ _ _ (copyR sr R c g1 h1 h0) v1)) (step_le sr R c f3 h4 (c.tc.t1 _ _ _ (copyR sr R c g2 h2 h0) v2))).1
theorem tri_suf_son1 : Tri slow (.thn (.son (.row p) (.row q)) (.row [a])) (.son (.row (p ++ [a])) (.row (q ++ [a]))) := tri_of _ _ fun L e1 e2 rs js U B w R I c h0 ⟨m, ⟨x, y, h1, h2, h3⟩, ⟨k, h4, h5⟩⟩ ⟨x', y', g1, g2, g3⟩ hb => by
  have h5 : e1 = k := h5
  obtain ⟨m1, g1, k1, f1, f2⟩ := PlaR.app.mp g1
  obtain ⟨m2, g2, k2, f3, f4⟩ := PlaR.app.mp g2
  have f2 : x' = k1 := f2
  have f4 : y' = k2 := f4
  rw [← f2] at f1
  rw [← f4] at f3
  rw [← h5] at h4
  obtain ⟨v1, v2⟩ := I.son _ _ _ h3
  exact .inl (c.js x' y' e2 e1 ((R.js _ _ _).mpr g3) (step_le sr R c h4 f1 (c.tc.t1 _ _ _ v1 (copyR sr R c h1 g1 h0))) (step_le sr R c h4 f3 (c.tc.t1 _ _ _ v2 (copyR sr R c h2 g2 h0)))).1
theorem tri_suf_son2 : Tri slow (.son (.row (p ++ [a])) (.row (q ++ [a]))) (.thn (.son (.row p) (.row q)) (.row [a])) := tri_of _ _ fun L e1 e2 rs js U B w R I c h0 ⟨x', y', g1, g2, g3⟩ ⟨m, ⟨x, y, h1, h2, h3⟩, ⟨k, h4, h5⟩⟩ hb => by
  have h5 : e2 = k := h5
  obtain ⟨m1, g1, k1, f1, f2⟩ := PlaR.app.mp g1
  obtain ⟨m2, g2, k2, f3, f4⟩ := PlaR.app.mp g2
  have f2 : x' = k1 := f2
  have f4 : y' = k2 := f4
  rw [← f2] at f1
  rw [← f4] at f3
  rw [← h5] at h4
  obtain ⟨u1, u2⟩ := I.son _ _ _ g3
  have b1 := step_lt sr R c f1 h4 (c.tc.t2 _ _ _ hb u1)
  have b2 := step_lt sr R c f3 h4 (c.tc.t2 _ _ _ hb u2)
  have d1 := c.tc.t2 _ _ _ b1 (copyR sr R c g1 h1 h0)
  have d2 := c.tc.t2 _ _ _ b2 (copyR sr R c g2 h2 h0)
  have z := (R.js _ _ _).mpr h3
  obtain ⟨v1, v2⟩ := I.son _ _ _ h3
  exact .inr ⟨m, (c.js x y m m z v1 v2).2 d1 d2⟩
end
end K35

/-! The steps of closing: each is sound and growing; where nothing changes, its rule holds. -/
namespace K35
section
variable {n : Nat} {rs : List R4} {js : List J4} {U B : List Nat}
def orB (l : List Nat) (i x : Nat) : List Nat := l.set i (l.getD i 0 ||| x)
theorem orB_len (l : List Nat) (i x : Nat) : (orB l i x).length = l.length := by simp [orB]
theorem bt_orB {l : List Nat} {i x : Nat} (h : i < l.length) (a b : Nat) : bt (orB l i x) a b = (bt l a b || (decide (a = i) && x.testBit b)) := by
  unfold bt orB
  by_cases e : a = i
  · subst e
    rw [getD_set_same h, Nat.testBit_or]
    simp
  · rw [getD_set_ne (Ne.symm e)]
    simp [e]
theorem orB_self {l : List Nat} {i k : Nat} (h : i < l.length) : (orB l i (l.getD k 0)).getD k 0 = l.getD k 0 := by
  unfold orB
  by_cases e : i = k
  · subst e
    rw [getD_set_same h, Nat.or_self]
  · rw [getD_set_ne e]
def goC (i k : Nat) (U B : List Nat) : Prop := bt U i k = true → (∀ j, bt U k j = true → bt U i j = true) ∧ (bt B i k = true → ∀ j, bt U k j = true → bt B i j = true) ∧ ∀ j, bt B k j = true → bt B i j = true
theorem Prog.no (w : Wf n U B) {i k : Nat} (h : bt U i k = false) : Prog n rs js (goC i k) U B U B := .refl w fun q => by
  rw [h] at q
  cases q
theorem Prog.go (w : Wf n U B) {i k : Nat} (hi : i < n) (hk : k < n) (h : bt U i k = true) :
    Prog n rs js (goC i k) U B (orB U i (U.getD k 0)) (orB B i (if bt B i k = true then U.getD k 0 else B.getD k 0)) := by
  have hiU : i < U.length := by rw [w.lu]; exact hi
  have hiB : i < B.length := by rw [w.lb]; exact hi
  have cU : ∀ a b, bt (orB U i (U.getD k 0)) a b = (bt U a b || (decide (a = i) && bt U k b)) := bt_orB hiU
  have cB : ∀ a b, bt (orB B i (if bt B i k = true then U.getD k 0 else B.getD k 0)) a b = (bt B a b || (decide (a = i) && (if bt B i k = true then bt U k b else bt B k b))) := fun a b => by
    rw [bt_orB hiB]
    split <;> rfl
  have inB : ∀ b, (if bt B i k = true then bt U k b else bt B k b) = true → bt U k b = true := fun b q => by
    split at q
    · exact q
    · exact w.sub k b q
  have bx : (if bt B i k = true then U.getD k 0 else B.getD k 0) < 2 ^ n := by
    split
    · exact getD_bound w.bu k
    · exact getD_bound w.bb k
  refine ⟨w, ⟨by rw [orB_len, w.lu], by rw [orB_len, w.lb], set_bound w.bu (Nat.or_lt_two_pow (getD_bound w.bu i) (getD_bound w.bu k)), set_bound w.bb (Nat.or_lt_two_pow (getD_bound w.bb i) bx), fun a b q => ?_, fun a ha => by rw [cU, w.rf a ha]; rfl⟩,
    ⟨fun a b q => by rw [cU, q]; rfl, fun a b q => by rw [cB, q]; rfl⟩, fun v g t => ⟨fun a b q => ?_, fun a b q => ?_⟩, fun e1 e2 _ => ⟨fun j q => ?_, fun hb j q => ?_, fun j q => ?_⟩⟩
  · rw [cB, Bool.or_eq_true, Bool.and_eq_true, decide_eq_true_eq] at q
    rw [cU, Bool.or_eq_true, Bool.and_eq_true, decide_eq_true_eq]
    rcases q with q | ⟨q1, q2⟩
    · exact .inl (w.sub a b q)
    · exact .inr ⟨q1, inB b q2⟩
  · rw [cU, Bool.or_eq_true, Bool.and_eq_true, decide_eq_true_eq] at q
    rcases q with q | ⟨q1, q2⟩
    · exact t.u a b q
    · rw [q1]; exact Int.le_trans (t.u i k h) (t.u k b q2)
  · rw [cB, Bool.or_eq_true, Bool.and_eq_true, decide_eq_true_eq] at q
    rcases q with q | ⟨q1, q2⟩
    · exact t.b a b q
    · rw [q1]
      split at q2
      · rename_i hb
        exact Int.lt_of_lt_of_le (t.b i k hb) (t.u k b q2)
      · exact Int.lt_of_le_of_lt (t.u i k h) (t.b k b q2)
  · rw [← e1, cU]; simp [q]
  · rw [← e2, cB]; simp [hb, q]
  · rw [← e2, cB]
    by_cases hb : bt B i k = true
    · simp [hb, w.sub k j q]
    · simp [hb, q]
/-- a comparison put in under a test -/
theorem Prog.skip (w : Wf n U B) {C : List Nat → List Nat → Prop} (h : C U B) : Prog n rs js C U B U B := .refl w h
def Idx (n : Nat) (rs : List R4) (js : List J4) : Prop := (∀ r ∈ rs, r.1 < n ∧ r.2.1 < n ∧ r.2.2.1 < n ∧ r.2.2.2 < n) ∧ ∀ q ∈ js, q.2.1 < n ∧ q.2.2.1 < n ∧ q.2.2.2 < n
def rulC (r : R4) (U B : List Nat) : Prop := (bt U r.1 r.2.1 = true → bt U r.2.2.1 r.2.2.2 = true) ∧ (bt B r.2.2.2 r.2.2.1 = true → bt B r.2.1 r.1 = true)
theorem Prog.rule1 (x : Idx n rs js) (w : Wf n U B) {r : R4} (hr : r ∈ rs) (h : bt U r.1 r.2.1 = true) : Prog n rs js (fun U B => bt U r.1 r.2.1 = true → bt U r.2.2.1 r.2.2.2 = true) U B (putB U r.2.2.1 r.2.2.2) (putS B r.2.2.1 r.2.2.2 false) :=
  (Prog.put w (x.1 r hr).2.2.1 (x.1 r hr).2.2.2 false fun v g t => ⟨g.rl r hr (t.u _ _ h), fun z => (by cases z)⟩).imp fun q _ => q.1
theorem Prog.rule2 (x : Idx n rs js) (w : Wf n U B) {r : R4} (hr : r ∈ rs) (h : bt B r.2.2.2 r.2.2.1 = true) : Prog n rs js (fun U B => bt B r.2.2.2 r.2.2.1 = true → bt B r.2.1 r.1 = true) U B (putB U r.2.1 r.1) (putS B r.2.1 r.1 true) := by
  have lt : ∀ v, GoodR v rs js → Sat v U B → v r.2.1 < v r.1 := fun v g t => by
    have h1 := t.b _ _ h
    rcases Int.lt_or_le (v r.2.1) (v r.1) with q | q
    · exact q
    · have := g.rl r hr q
      omega
  exact (Prog.put w (x.1 r hr).2.1 (x.1 r hr).1 true fun v g t => ⟨Int.le_of_lt (lt v g t), fun _ => lt v g t⟩).imp fun q _ => q.2 rfl
/-! later: what is put in at h -/
def latC (i j k h : Nat) (U B : List Nat) : Prop := bt U i h = true → bt U j h = true → bt U k h = true ∧ (bt B i h = true → bt B j h = true → bt B k h = true)
def sonC (i j k h : Nat) (U B : List Nat) : Prop := bt U h i = true → bt U h j = true → bt U h k = true ∧ (bt B h i = true → bt B h j = true → bt B h k = true)
theorem GoodR.max {v : Nat → Int} (g : GoodR v rs js) {i j k : Nat} (h : (true, i, j, k) ∈ js) : v k = max (v i) (v j) := g.jt _ h
theorem GoodR.min {v : Nat → Int} (g : GoodR v rs js) {i j k : Nat} (h : (false, i, j, k) ∈ js) : v k = min (v i) (v j) := g.jt _ h
theorem Prog.lat1 (x : Idx n rs js) (w : Wf n U B) {i j k h : Nat} (hq : (true, i, j, k) ∈ js) (hh : h < n) (h1 : bt U i h = true) (h2 : bt U j h = true) :
    Prog n rs js (latC i j k h) U B (putB U k h) (putS B k h (bt B i h && bt B j h)) := by
  refine (Prog.put w (x.2 _ hq).2.2 hh (bt B i h && bt B j h) fun v g t => ⟨?_, fun z => ?_⟩).imp fun q _ _ => ⟨q.1, fun b1 b2 => q.2 (by rw [b1, b2]; rfl)⟩
  · rw [g.max hq]
    have := t.u _ _ h1
    have := t.u _ _ h2
    show max (v i) (v j) ≤ v h
    omega
  · rw [Bool.and_eq_true] at z
    rw [g.max hq]
    have := t.b _ _ z.1
    have := t.b _ _ z.2
    show max (v i) (v j) < v h
    omega
theorem Prog.son1 (x : Idx n rs js) (w : Wf n U B) {i j k h : Nat} (hq : (false, i, j, k) ∈ js) (hh : h < n) (h1 : bt U h i = true) (h2 : bt U h j = true) :
    Prog n rs js (sonC i j k h) U B (putB U h k) (putS B h k (bt B h i && bt B h j)) := by
  refine (Prog.put w hh (x.2 _ hq).2.2 (bt B h i && bt B h j) fun v g t => ⟨?_, fun z => ?_⟩).imp fun q _ _ => ⟨q.1, fun b1 b2 => q.2 (by rw [b1, b2]; rfl)⟩
  · rw [g.min hq]
    have := t.u _ _ h1
    have := t.u _ _ h2
    show v h ≤ min (v i) (v j)
    omega
  · rw [Bool.and_eq_true] at z
    rw [g.min hq]
    have := t.b _ _ z.1
    have := t.b _ _ z.2
    show v h < min (v i) (v j)
    omega
/-- one and other: the two of a joint, in either order -/
def Two (js : List J4) (b : Bool) (i j k : Nat) : Prop := (b, i, j, k) ∈ js ∨ (b, j, i, k) ∈ js
theorem Prog.lat2 (x : Idx n rs js) (w : Wf n U B) {i j k h : Nat} (hq : Two js true i j k) (hh : h < n) (h1 : bt B i h = true) (h2 : bt U h k = true) : Prog n rs js (fun _ _ => True) U B (putB U h j) (putS B h j false) := by
  have hj : j < n := by
    rcases hq with hq | hq
    · exact (x.2 _ hq).2.1
    · exact (x.2 _ hq).1
  refine (Prog.put w hh hj false fun v g t => ⟨?_, fun z => (by cases z)⟩).imp fun _ => trivial
  have e : v k = max (v i) (v j) := by
    rcases hq with hq | hq
    · exact g.max hq
    · rw [g.max hq, Int.max_comm]
  have := t.b _ _ h1
  have := t.u _ _ h2
  omega
theorem Prog.lat3 (x : Idx n rs js) (w : Wf n U B) {i j k h : Nat} (hq : Two js true i j k) (hh : h < n) (h1 : bt U i h = true) (h2 : bt B h k = true) : Prog n rs js (fun _ _ => True) U B (putB U h j) (putS B h j true) := by
  have hj : j < n := by
    rcases hq with hq | hq
    · exact (x.2 _ hq).2.1
    · exact (x.2 _ hq).1
  have lt : ∀ v, GoodR v rs js → Sat v U B → v h < v j := fun v g t => by
    have e : v k = max (v i) (v j) := by
      rcases hq with hq | hq
      · exact g.max hq
      · rw [g.max hq, Int.max_comm]
    have := t.u _ _ h1
    have := t.b _ _ h2
    omega
  exact (Prog.put w hh hj true fun v g t => ⟨Int.le_of_lt (lt v g t), fun _ => lt v g t⟩).imp fun _ => trivial
theorem Prog.son2 (x : Idx n rs js) (w : Wf n U B) {i j k h : Nat} (hq : Two js false i j k) (hh : h < n) (h1 : bt B h i = true) (h2 : bt U k h = true) : Prog n rs js (fun _ _ => True) U B (putB U j h) (putS B j h false) := by
  have hj : j < n := by
    rcases hq with hq | hq
    · exact (x.2 _ hq).2.1
    · exact (x.2 _ hq).1
  refine (Prog.put w hj hh false fun v g t => ⟨?_, fun z => (by cases z)⟩).imp fun _ => trivial
  have e : v k = min (v i) (v j) := by
    rcases hq with hq | hq
    · exact g.min hq
    · rw [g.min hq, Int.min_comm]
  have := t.b _ _ h1
  have := t.u _ _ h2
  omega
theorem Prog.son3 (x : Idx n rs js) (w : Wf n U B) {i j k h : Nat} (hq : Two js false i j k) (hh : h < n) (h1 : bt U h i = true) (h2 : bt B k h = true) : Prog n rs js (fun _ _ => True) U B (putB U j h) (putS B j h true) := by
  have hj : j < n := by
    rcases hq with hq | hq
    · exact (x.2 _ hq).2.1
    · exact (x.2 _ hq).1
  have lt : ∀ v, GoodR v rs js → Sat v U B → v j < v h := fun v g t => by
    have e : v k = min (v i) (v j) := by
      rcases hq with hq | hq
      · exact g.min hq
      · rw [g.min hq, Int.min_comm]
    have := t.u _ _ h1
    have := t.b _ _ h2
    omega
  exact (Prog.put w hj hh true fun v g t => ⟨Int.le_of_lt (lt v g t), fun _ => lt v g t⟩).imp fun _ => trivial
/-! ### together -/
def goA (n : Nat) (U B : List Nat) : Prop := ∀ k, k < n → ∀ i, i < n → goC i k U B
def rulA (rs : List R4) (U B : List Nat) : Prop := ∀ r ∈ rs, rulC r U B
def jntC (n : Nat) (q : J4) (U B : List Nat) : Prop := ∀ h, h < n → if q.1 = true then latC q.2.1 q.2.2.1 q.2.2.2 h U B else sonC q.2.1 q.2.2.1 q.2.2.2 h U B
def jntA (n : Nat) (js : List J4) (U B : List Nat) : Prop := ∀ q ∈ js, jntC n q U B
theorem clo_of (w : Wf n U B) (h1 : goA n U B) (h2 : rulA rs U B) (h3 : jntA n js U B) : Clo n rs js U B where
  tc := ⟨w.rf, fun i k j a b => (h1 k (bt_row w.lu b) i (bt_row w.lu a) a).1 j b, fun i k j a b => (h1 k (bt_row w.lu b) i (bt_row w.lb a) (w.sub _ _ a)).2.1 a j b, fun i k j a b => (h1 k (bt_row w.lb b) i (bt_row w.lu a) a).2.2 j b⟩
  rl := fun r hr => (h2 r hr).1
  rb := fun r hr => (h2 r hr).2
  jl := fun i j k h hq a b => by
    have z := h3 _ hq h (bt_col w.bu a)
    simp only [if_true] at z
    exact z a b
  js := fun i j k h hq a b => by
    have z := h3 _ hq h (bt_row w.lu a)
    simp only [Bool.false_eq_true, if_false] at z
    exact z a b
/-- what an order that was closed is -/
structure Okay (n : Nat) (rs : List R4) (js : List J4) (U B : List Nat) : Prop where
  wf : Wf n U B
  clo : ¬ Contrary B → Clo n rs js U B
/-- from one to another: growing, sound under one more comparison -/
structure More (n : Nat) (rs : List R4) (js : List J4) (i j : Nat) (s : Bool) (U B U' B' : List Nat) : Prop where
  ok : Okay n rs js U' B'
  mono : Mono U B U' B'
  u : bt U' i j = true
  b : s = true → bt B' i j = true
  snd : ∀ v, GoodR v rs js → Sat v U B → v i ≤ v j → (s = true → v i < v j) → Sat v U' B'
end
end K35

/-! Which letter is never slower than which, from facts. -/
namespace K35
def LK : List Nat := [97, 98, 99, 100]
def ixb (a b : Nat) : Nat := (a - 97) * 4 + (b - 97)
def put1 (S a b : Nat) : Nat := S ||| 2 ^ ixb a b
def w3 (m o S : Nat) (bs : List Nat) : Nat := bs.foldl (fun S b => if (S.testBit (ixb o m) && S.testBit (ixb m b)) = true then put1 S o b else S) S
def w2 (m S : Nat) (os : List Nat) : Nat := os.foldl (fun S o => w3 m o S LK) S
def w1 (S : Nat) (ms : List Nat) : Nat := ms.foldl (fun S m => w2 m S LK) S
def s0 (as : List Nat) : Nat := as.foldl (fun S a => put1 S a a) 0
def sF (S : Nat) (fs : List (Nat × Nat)) : Nat := fs.foldl (fun S p => put1 S p.1 p.2) S
def slowB (fs : List (Nat × Nat)) : Nat := w1 (sF (s0 LK) fs) LK
def inL (x : Nat) : Bool := decide (97 ≤ x) && decide (x ≤ 100)
def slowOf (fs : List (Nat × Nat)) (x y : Nat) : Bool := decide (x = y) || (inL x && inL y && (slowB fs).testBit (ixb x y))
def prs12 : List (Nat × Nat) := LK.flatMap fun a => (LK.filter fun b => decide (a ≠ b)).map fun b => (a, b)
def allFs : List (List (Nat × Nat)) := [] :: (prs12.map fun p => [p]) ++ prs12.flatMap fun p => prs12.map fun q => [p, q]
def trS (S : Nat) : Bool := LK.all fun x => LK.all fun y => !S.testBit (ixb x y) || LK.all fun z => !S.testBit (ixb y z) || S.testBit (ixb x z)
def dgS (S : Nat) : Bool := LK.all fun x => S.testBit (ixb x x)
def litS : List Nat := [33825, 33827, 33829, 33831, 33833, 33835, 33837, 33841, 33843, 33889, 33893, 33895, 33897, 33905, 33909, 33953, 33957, 33961, 33963, 33969, 33977, 34017, 34081, 34085, 34097, 34161, 34209, 34337, 34339, 34343, 34345, 34401, 34593, 34595, 34609, 35873, 35875, 35881, 35885, 35889, 36001, 36065, 36129, 36137, 36385, 36513, 37921, 37929, 37937, 37985, 38065, 38177, 38433, 40225, 42017, 42019, 42021, 42027, 42145, 42273, 42529, 44577, 46113, 46115, 46129, 50209, 50211, 50213, 50221, 50225, 50273, 50401, 52257, 54305, 54309, 54561, 58401, 58465, 58913]
theorem slowB_lit : ∀ fs ∈ allFs, slowB fs ∈ litS := by decide +kernel
theorem litS_ok : ∀ S ∈ litS, (trS S && dgS S) = true := by decide +kernel
def OkF (fs : List (Nat × Nat)) : Prop := fs.length ≤ 2 ∧ ∀ p ∈ fs, p ∈ prs12
theorem OkF.mem {fs : List (Nat × Nat)} (h : OkF fs) : fs ∈ allFs := by
  obtain ⟨h1, h2⟩ := h
  unfold allFs
  match fs, h1, h2 with
  | [], _, _ => exact List.mem_cons_self
  | [p], _, h2 => exact List.mem_cons_of_mem _ (List.mem_append_left _ (List.mem_map.mpr ⟨p, h2 p List.mem_cons_self, rfl⟩))
  | [p, q], _, h2 => exact List.mem_cons_of_mem _ (List.mem_append_right _ (List.mem_flatMap.mpr ⟨p, h2 p List.mem_cons_self, List.mem_map.mpr ⟨q, h2 q (List.mem_cons_of_mem _ List.mem_cons_self), rfl⟩⟩))
theorem inL_iff {x : Nat} : inL x = true ↔ x ∈ LK := by
  unfold inL LK
  simp
  omega
theorem slow_refl (fs : List (Nat × Nat)) (x : Nat) : slowOf fs x x = true := by simp [slowOf]
theorem OkF.tr {fs : List (Nat × Nat)} (h : OkF fs) : trS (slowB fs) = true ∧ dgS (slowB fs) = true := by
  have := litS_ok _ (slowB_lit fs h.mem)
  rwa [Bool.and_eq_true] at this
theorem slow_in {fs : List (Nat × Nat)} (h : OkF fs) {x y : Nat} (hx : x ∈ LK) (hy : y ∈ LK) : slowOf fs x y = (slowB fs).testBit (ixb x y) := by
  unfold slowOf
  rw [inL_iff.mpr hx, inL_iff.mpr hy]
  by_cases e : x = y
  · subst e
    have := h.tr.2
    unfold dgS at this
    rw [List.all_eq_true] at this
    rw [this x hx]
    simp
  · simp [e]
theorem slow_tr {fs : List (Nat × Nat)} (h : OkF fs) (x y z : Nat) (h1 : slowOf fs x y = true) (h2 : slowOf fs y z = true) : slowOf fs x z = true := by
  by_cases e1 : x = y
  · subst e1; exact h2
  by_cases e2 : y = z
  · subst e2; exact h1
  have g1 : x ∈ LK ∧ y ∈ LK := by
    unfold slowOf at h1
    simp [e1] at h1
    exact ⟨inL_iff.mp h1.1.1, inL_iff.mp h1.1.2⟩
  have g2 : z ∈ LK := by
    unfold slowOf at h2
    simp [e2] at h2
    exact inL_iff.mp h2.1.2
  rw [slow_in h g1.1 g1.2] at h1
  rw [slow_in h g1.2 g2] at h2
  rw [slow_in h g1.1 g2]
  have t := h.tr.1
  unfold trS at t
  rw [List.all_eq_true] at t
  have t1 := t x g1.1
  rw [List.all_eq_true] at t1
  have t2 := t1 y g1.2
  rw [h1] at t2
  simp only [Bool.not_true, Bool.false_or] at t2
  rw [List.all_eq_true] at t2
  have t3 := t2 z g2
  rw [h2] at t3
  simpa using t3
end K35

namespace K35
open PySem PySem.Spec PyProof.Rows L2
def top (i : Nat) : Stmt := PySem.Challenge.pw_newsinorder_k35_whole_later_and_sooner.main.body.getD i (.Pass ⟨0, 0, 0, 0⟩)
abbrev s_is_number : Stmt := top 14
abbrev s_is_ride : Stmt := top 19
abbrev s_needed : Stmt := top 22
abbrev s_Link_init : Stmt := inClass (top 24) 0
abbrev s_is_row : Stmt := top 29
abbrev s_Timetable_init : Stmt := inClass (top 31) 0
abbrev s_has_shape : Stmt := top 37
abbrev s_steps_in : Stmt := top 38
abbrev s_is_plan : Stmt := top 39
abbrev s_need_plan : Stmt := top 40
abbrev s_is_fact : Stmt := top 43
abbrev s_need_facts : Stmt := top 44
abbrev s_never_slower : Stmt := top 45
abbrev s_row_values : Stmt := top 46
abbrev s_plan_values : Stmt := top 47
abbrev s_listed_values : Stmt := top 48
abbrev s_step_rules : Stmt := top 49
abbrev s_Order_init : Stmt := inClass (top 50) 0
abbrev s_Order_is_upto : Stmt := inClass (top 50) 1
abbrev s_Order_is_below : Stmt := inClass (top 50) 2
abbrev s_Order_with_more : Stmt := inClass (top 50) 3
abbrev s_Order_put : Stmt := inClass (top 50) 4
abbrev s_Order_go_through : Stmt := inClass (top 50) 5
abbrev s_Order_use_rules : Stmt := inClass (top 50) 6
abbrev s_Order_use_later : Stmt := inClass (top 50) 7
abbrev s_Order_use_sooner : Stmt := inClass (top 50) 8
abbrev s_Order_close : Stmt := inClass (top 50) 9
abbrev s_Order_is_contrary : Stmt := inClass (top 50) 10
abbrev s_first_order : Stmt := top 51
abbrev s_is_open : Stmt := top 55
abbrev s_bits : Stmt := top 56
abbrev s_weight : Stmt := top 57
abbrev s_premises : Stmt := top 58
abbrev s_chosen : Stmt := top 59
abbrev s_first_open : Stmt := top 60
abbrev s_tried : Stmt := top 61
abbrev s_completed : Stmt := top 62
abbrev s_searched : Stmt := top 63
abbrev s_numbers_of : Stmt := top 64
abbrev s_rides_by : Stmt := top 65
abbrev s_timetable_of : Stmt := top 66
abbrev s_steps_among : Stmt := top 67
abbrev s_compared : Stmt := top 68
abbrev s_compare : Stmt := top 69
abbrev s_is_never : Stmt := top 70
abbrev s_alike : Stmt := top 71
abbrev s__law_begun : Stmt := top 73
abbrev s__law_next : Stmt := top 74
abbrev s__law_pick : Stmt := top 75
abbrev s__law_shuffled : Stmt := top 76
abbrev s__law_other : Stmt := top 77
abbrev s__law_some : Stmt := top 78
abbrev s__law_row : Stmt := top 79
abbrev s__law_grown : Stmt := top 80
abbrev s__law_facts : Stmt := top 81
abbrev s__law_is_never : Stmt := top 82
abbrev s__law_least_right : Stmt := top 83
abbrev s__law_alike_right : Stmt := top 84
abbrev s_law : Stmt := top 85
def d_is_number : He.DefD := ⟨("is_number", none), "is_number", "is_number", defArgs s_is_number, defBody s_is_number, defScope s_is_number, [], []⟩
def d_is_ride : He.DefD := ⟨("is_ride", none), "is_ride", "is_ride", defArgs s_is_ride, defBody s_is_ride, defScope s_is_ride, [], []⟩
def d_needed : He.DefD := ⟨("needed", none), "needed", "needed", defArgs s_needed, defBody s_needed, defScope s_needed, [], []⟩
def d_Link_init : He.DefD := ⟨("Link", some "__init__"), "__init__", "Link.__init__", defArgs s_Link_init, defBody s_Link_init, defScope s_Link_init, [], []⟩
def d_is_row : He.DefD := ⟨("is_row", none), "is_row", "is_row", defArgs s_is_row, defBody s_is_row, defScope s_is_row, [], []⟩
def d_Timetable_init : He.DefD := ⟨("Timetable", some "__init__"), "__init__", "Timetable.__init__", defArgs s_Timetable_init, defBody s_Timetable_init, defScope s_Timetable_init, [], []⟩
def d_has_shape : He.DefD := ⟨("has_shape", none), "has_shape", "has_shape", defArgs s_has_shape, defBody s_has_shape, defScope s_has_shape, [], []⟩
def d_steps_in : He.DefD := ⟨("steps_in", none), "steps_in", "steps_in", defArgs s_steps_in, defBody s_steps_in, defScope s_steps_in, [], []⟩
def d_is_plan : He.DefD := ⟨("is_plan", none), "is_plan", "is_plan", defArgs s_is_plan, defBody s_is_plan, defScope s_is_plan, [], []⟩
def d_need_plan : He.DefD := ⟨("need_plan", none), "need_plan", "need_plan", defArgs s_need_plan, defBody s_need_plan, defScope s_need_plan, [], []⟩
def d_is_fact : He.DefD := ⟨("is_fact", none), "is_fact", "is_fact", defArgs s_is_fact, defBody s_is_fact, defScope s_is_fact, [], []⟩
def d_need_facts : He.DefD := ⟨("need_facts", none), "need_facts", "need_facts", defArgs s_need_facts, defBody s_need_facts, defScope s_need_facts, [], []⟩
def d_never_slower : He.DefD := ⟨("never_slower", none), "never_slower", "never_slower", defArgs s_never_slower, defBody s_never_slower, defScope s_never_slower, [], []⟩
def d_row_values : He.DefD := ⟨("row_values", none), "row_values", "row_values", defArgs s_row_values, defBody s_row_values, defScope s_row_values, [], []⟩
def d_plan_values : He.DefD := ⟨("plan_values", none), "plan_values", "plan_values", defArgs s_plan_values, defBody s_plan_values, defScope s_plan_values, [], []⟩
def d_listed_values : He.DefD := ⟨("listed_values", none), "listed_values", "listed_values", defArgs s_listed_values, defBody s_listed_values, defScope s_listed_values, [], []⟩
def d_step_rules : He.DefD := ⟨("step_rules", none), "step_rules", "step_rules", defArgs s_step_rules, defBody s_step_rules, defScope s_step_rules, [], []⟩
def d_Order_init : He.DefD := ⟨("Order", some "__init__"), "__init__", "Order.__init__", defArgs s_Order_init, defBody s_Order_init, defScope s_Order_init, [], []⟩
def d_Order_is_upto : He.DefD := ⟨("Order", some "is_upto"), "is_upto", "Order.is_upto", defArgs s_Order_is_upto, defBody s_Order_is_upto, defScope s_Order_is_upto, [], []⟩
def d_Order_is_below : He.DefD := ⟨("Order", some "is_below"), "is_below", "Order.is_below", defArgs s_Order_is_below, defBody s_Order_is_below, defScope s_Order_is_below, [], []⟩
def d_Order_with_more : He.DefD := ⟨("Order", some "with_more"), "with_more", "Order.with_more", defArgs s_Order_with_more, defBody s_Order_with_more, defScope s_Order_with_more, [], []⟩
def d_Order_put : He.DefD := ⟨("Order", some "put"), "put", "Order.put", defArgs s_Order_put, defBody s_Order_put, defScope s_Order_put, [], []⟩
def d_Order_go_through : He.DefD := ⟨("Order", some "go_through"), "go_through", "Order.go_through", defArgs s_Order_go_through, defBody s_Order_go_through, defScope s_Order_go_through, [], []⟩
def d_Order_use_rules : He.DefD := ⟨("Order", some "use_rules"), "use_rules", "Order.use_rules", defArgs s_Order_use_rules, defBody s_Order_use_rules, defScope s_Order_use_rules, [], []⟩
def d_Order_use_later : He.DefD := ⟨("Order", some "use_later"), "use_later", "Order.use_later", defArgs s_Order_use_later, defBody s_Order_use_later, defScope s_Order_use_later, [], []⟩
def d_Order_use_sooner : He.DefD := ⟨("Order", some "use_sooner"), "use_sooner", "Order.use_sooner", defArgs s_Order_use_sooner, defBody s_Order_use_sooner, defScope s_Order_use_sooner, [], []⟩
def d_Order_close : He.DefD := ⟨("Order", some "close"), "close", "Order.close", defArgs s_Order_close, defBody s_Order_close, defScope s_Order_close, [], []⟩
def d_Order_is_contrary : He.DefD := ⟨("Order", some "is_contrary"), "is_contrary", "Order.is_contrary", defArgs s_Order_is_contrary, defBody s_Order_is_contrary, defScope s_Order_is_contrary, [], []⟩
def d_first_order : He.DefD := ⟨("first_order", none), "first_order", "first_order", defArgs s_first_order, defBody s_first_order, defScope s_first_order, [], []⟩
def d_is_open : He.DefD := ⟨("is_open", none), "is_open", "is_open", defArgs s_is_open, defBody s_is_open, defScope s_is_open, [], []⟩
def d_bits : He.DefD := ⟨("bits", none), "bits", "bits", defArgs s_bits, defBody s_bits, defScope s_bits, [], []⟩
def d_weight : He.DefD := ⟨("weight", none), "weight", "weight", defArgs s_weight, defBody s_weight, defScope s_weight, [], []⟩
def d_premises : He.DefD := ⟨("premises", none), "premises", "premises", defArgs s_premises, defBody s_premises, defScope s_premises, [], []⟩
def d_chosen : He.DefD := ⟨("chosen", none), "chosen", "chosen", defArgs s_chosen, defBody s_chosen, defScope s_chosen, [], []⟩
def d_first_open : He.DefD := ⟨("first_open", none), "first_open", "first_open", defArgs s_first_open, defBody s_first_open, defScope s_first_open, [], []⟩
def d_tried : He.DefD := ⟨("tried", none), "tried", "tried", defArgs s_tried, defBody s_tried, defScope s_tried, [], []⟩
def d_completed : He.DefD := ⟨("completed", none), "completed", "completed", defArgs s_completed, defBody s_completed, defScope s_completed, [], []⟩
def d_searched : He.DefD := ⟨("searched", none), "searched", "searched", defArgs s_searched, defBody s_searched, defScope s_searched, [], []⟩
def d_numbers_of : He.DefD := ⟨("numbers_of", none), "numbers_of", "numbers_of", defArgs s_numbers_of, defBody s_numbers_of, defScope s_numbers_of, [], []⟩
def d_rides_by : He.DefD := ⟨("rides_by", none), "rides_by", "rides_by", defArgs s_rides_by, defBody s_rides_by, defScope s_rides_by, [], []⟩
def d_timetable_of : He.DefD := ⟨("timetable_of", none), "timetable_of", "timetable_of", defArgs s_timetable_of, defBody s_timetable_of, defScope s_timetable_of, [], []⟩
def d_steps_among : He.DefD := ⟨("steps_among", none), "steps_among", "steps_among", defArgs s_steps_among, defBody s_steps_among, defScope s_steps_among, [], []⟩
def d_compared : He.DefD := ⟨("compared", none), "compared", "compared", defArgs s_compared, defBody s_compared, defScope s_compared, [], []⟩
def d_compare : He.DefD := ⟨("compare", none), "compare", "compare", defArgs s_compare, defBody s_compare, defScope s_compare, [.adr (He.dflAt ("compare", none) 0)], []⟩
def d_is_never : He.DefD := ⟨("is_never", none), "is_never", "is_never", defArgs s_is_never, defBody s_is_never, defScope s_is_never, [], []⟩
def d_alike : He.DefD := ⟨("alike", none), "alike", "alike", defArgs s_alike, defBody s_alike, defScope s_alike, [.adr (He.dflAt ("alike", none) 0)], []⟩
def d__law_begun : He.DefD := ⟨("_law_begun", none), "_law_begun", "_law_begun", defArgs s__law_begun, defBody s__law_begun, defScope s__law_begun, [], []⟩
def d__law_next : He.DefD := ⟨("_law_next", none), "_law_next", "_law_next", defArgs s__law_next, defBody s__law_next, defScope s__law_next, [], []⟩
def d__law_pick : He.DefD := ⟨("_law_pick", none), "_law_pick", "_law_pick", defArgs s__law_pick, defBody s__law_pick, defScope s__law_pick, [], []⟩
def d__law_shuffled : He.DefD := ⟨("_law_shuffled", none), "_law_shuffled", "_law_shuffled", defArgs s__law_shuffled, defBody s__law_shuffled, defScope s__law_shuffled, [], []⟩
def d__law_other : He.DefD := ⟨("_law_other", none), "_law_other", "_law_other", defArgs s__law_other, defBody s__law_other, defScope s__law_other, [], []⟩
def d__law_some : He.DefD := ⟨("_law_some", none), "_law_some", "_law_some", defArgs s__law_some, defBody s__law_some, defScope s__law_some, [], []⟩
def d__law_row : He.DefD := ⟨("_law_row", none), "_law_row", "_law_row", defArgs s__law_row, defBody s__law_row, defScope s__law_row, [], []⟩
def d__law_grown : He.DefD := ⟨("_law_grown", none), "_law_grown", "_law_grown", defArgs s__law_grown, defBody s__law_grown, defScope s__law_grown, [], []⟩
def d__law_facts : He.DefD := ⟨("_law_facts", none), "_law_facts", "_law_facts", defArgs s__law_facts, defBody s__law_facts, defScope s__law_facts, [], []⟩
def d__law_is_never : He.DefD := ⟨("_law_is_never", none), "_law_is_never", "_law_is_never", defArgs s__law_is_never, defBody s__law_is_never, defScope s__law_is_never, [], []⟩
def d__law_least_right : He.DefD := ⟨("_law_least_right", none), "_law_least_right", "_law_least_right", defArgs s__law_least_right, defBody s__law_least_right, defScope s__law_least_right, [], []⟩
def d__law_alike_right : He.DefD := ⟨("_law_alike_right", none), "_law_alike_right", "_law_alike_right", defArgs s__law_alike_right, defBody s__law_alike_right, defScope s__law_alike_right, [], []⟩
def d_law : He.DefD := ⟨("law", none), "law", "law", defArgs s_law, defBody s_law, defScope s_law, [], []⟩
def fn0 : List He.DefD := [d_is_number, d_is_ride, d_needed, d_Link_init, d_is_row, d_Timetable_init, d_has_shape, d_steps_in, d_is_plan, d_need_plan, d_is_fact, d_need_facts, d_never_slower, d_row_values, d_plan_values, d_listed_values, d_step_rules, d_Order_init, d_Order_is_upto, d_Order_is_below, d_Order_with_more, d_Order_put, d_Order_go_through, d_Order_use_rules, d_Order_use_later, d_Order_use_sooner, d_Order_close, d_Order_is_contrary, d_first_order, d_is_open]
def fn1 : List He.DefD := [d_bits, d_weight, d_premises, d_chosen, d_first_open, d_tried, d_completed, d_searched, d_numbers_of, d_rides_by, d_timetable_of, d_steps_among, d_compared, d_compare, d_is_never, d_alike, d__law_begun, d__law_next, d__law_pick, d__law_shuffled, d__law_other, d__law_some, d__law_row, d__law_grown, d__law_facts, d__law_is_never, d__law_least_right, d__law_alike_right, d_law]
def fn : List He.DefD := fn0 ++ fn1
def fa0 : List He.Fa := [.glo "is_number", .glo "is_ride", .glo "needed", .glo "is_row", .glo "has_shape", .glo "steps_in", .glo "is_plan", .glo "need_plan", .glo "is_fact", .glo "need_facts", .glo "never_slower", .glo "row_values", .glo "plan_values", .glo "listed_values", .glo "step_rules", .glo "first_order", .glo "is_open", .glo "bits", .glo "weight", .glo "premises", .glo "chosen", .glo "first_open", .glo "tried", .glo "completed", .glo "searched", .glo "numbers_of", .glo "rides_by", .glo "timetable_of", .glo "steps_among", .glo "compared"]
def fa1 : List He.Fa := [.glo "compare", .glo "is_never", .glo "alike", .glo "_law_begun", .glo "_law_next", .glo "_law_pick", .glo "_law_shuffled", .glo "_law_other", .glo "_law_some", .glo "_law_row", .glo "_law_grown", .glo "_law_facts", .glo "_law_is_never", .glo "_law_least_right", .glo "_law_alike_right", .glo "law", .glo "Link", .cls "Link", .mkr "Link", .glo "Timetable", .cls "Timetable", .mkr "Timetable", .glo "Order", .cls "Order", .mkr "Order", .noat "Order" "rules", .noat "Order" "joints", .noat "Order" "upto", .noat "Order" "below", .noat "Link" "own_rides"]
def fa2 : List He.Fa := [.noat "Timetable" "own_links", .meth "Order" "is_upto", .meth "Order" "is_below", .meth "Order" "with_more", .meth "Order" "put", .meth "Order" "go_through", .meth "Order" "use_rules", .meth "Order" "use_later", .meth "Order" "use_sooner", .meth "Order" "close", .meth "Order" "is_contrary", .free "len", .free "isinstance", .free "all", .free "any", .free "sum", .free "list", .free "range", .free "enumerate", .free "sorted", .free "tuple", .free "int", .free "str", .free "bool", .free "dict", .free "min", .free "abs", .int "MOST_RIDES" 60, .int "MOST_STEPS_rows" 60, .int "MOST_IN_ROW" 8]
def fa3 : List He.Fa := [.int "MOST_STEPS_plans" 10, .int "MOST_DEEP" 4, .int "MOST_FACTS" 12, .int "MOST_STEPS_compare" 12, .int "MOST_LOOKED_AT" 12, .str "LINKS" "abcd", .str "STEPS" "ABCDabcd", .str "LAST" "last", .str "FIRST" "first", .glo "WORDS"]
def fa : List He.Fa := fa0 ++ fa1 ++ fa2 ++ fa3
/-- the tuple at a holds these values -/
def tupAt (K : PySem.W.Frag) (a : Addr) (vs : List V) : Bool := match K.lookup a with
  | some ⟨.type c, _, .seq its _, _⟩ => decide (c = "tuple") && (decide (its.size ≤ sizeLine) && He.relAll vs its.toList)
  | _ => false
theorem tupAt_ok {K : PySem.W.Frag} {a : Addr} {vs : List V} (h : tupAt K a vs = true) (H : Hp) : SqT K H a vs := by
  unfold tupAt at h
  cases q : K.lookup a with
  | none =>
    rw [q] at h
    cases h
  | some o =>
    obtain ⟨oc, od, dt, osl⟩ := o
    rw [q] at h
    cases oc with
    | type c =>
      cases dt with
      | seq its n =>
        obtain ⟨h1, h2⟩ := He.ba (show (decide (c = "tuple") && (decide (its.size ≤ sizeLine) && He.relAll vs its.toList)) = true from h)
        obtain ⟨h3, h4⟩ := He.ba h2
        exact .inr ⟨_, its, n, q, congrArg Value.type (of_decide_eq_true h1), rfl, of_decide_eq_true h3, He.relAll_ok h4⟩
      | _ => cases h
    | _ => cases dt <;> cases h
def insB (K : PySem.W.Frag) (C : Addr) : Bool := decide (PySem.W.findIn K (.ref C) "__class__" = some (some (.builtin "object.__class__"))) && (decide (PySem.W.specialIn K (.builtin "object.__class__") "__get__" = some (some (.builtin "getset_descriptor.__get__"))) &&
  (decide (PySem.W.takesIn K (.builtin "object.__class__") = some true) && (decide (PySem.W.mroIn K C (.type "object") = some true) && decide (PySem.W.kitOne K (.ref C) (.ref C) = some true))))
def ex (K : PySem.W.Frag) : Bool := tupAt K (He.ga K "WORDS") [.str "then", .str "later", .str "sooner"] && (tupAt K (He.dflAt ("compare", none) 0 K) [] && (tupAt K (He.dflAt ("alike", none) 0 K) [] && insB K (He.ga K "Link")))
/-- the head's facts, read off the objects at these addresses -/
def hook (as : List Addr) : PySem.W.Hook where
  α := He.AlD × Bool
  obs := fun s => (He.obsD fa fn (He.frG s.heap.get? as), ex (He.frG s.heap.get? as))
  val := fun _ => (He.valD fn, true)
  says := fun _ h => ∃ K : PySem.W.Frag, K.In h ∧ He.SaysD fa fn K ∧ ex K = true
  of := fun _ _ e => ⟨_, He.frG_in, congrArg Prod.fst e, congrArg Prod.snd e⟩
  keeps := fun _ _ _ ⟨K, hK, c⟩ k => ⟨K, PySem.W.Frag.In.keeps hK k, c⟩
/-- what the walk asks of the text behind the top -/
structure Tx (K : PySem.W.Frag) (mg : Str → Option Value) : Prop where
  says : He.SaysD fa fn K
  more : ex K = true
  gl : ∃ h : Heap, K.In h ∧ h.Ns mainGlobals mg
section
variable {K : PySem.W.Frag} {mg : Str → Option Value}
theorem Tx.words (T : Tx K mg) (H : Hp) : SqT K H (He.ga K "WORDS") [.str "then", .str "later", .str "sooner"] := tupAt_ok (He.ba T.more).1 H
theorem Tx.dfl_compare (T : Tx K mg) (H : Hp) : SqT K H (He.dflAt ("compare", none) 0 K) [] := tupAt_ok (He.ba (He.ba T.more).2).1 H
theorem Tx.dfl_alike (T : Tx K mg) (H : Hp) : SqT K H (He.dflAt ("alike", none) 0 K) [] := tupAt_ok (He.ba (He.ba (He.ba T.more).2).2).1 H
theorem Tx.mg_is_number (T : Tx K mg) : mg "is_number" = some (.ref (He.ga K "is_number")) := by obtain ⟨h, X, G⟩ := T.gl; exact He.glo_ok X G (T.says.fact 0)
theorem Tx.mg_is_ride (T : Tx K mg) : mg "is_ride" = some (.ref (He.ga K "is_ride")) := by obtain ⟨h, X, G⟩ := T.gl; exact He.glo_ok X G (T.says.fact 1)
theorem Tx.mg_needed (T : Tx K mg) : mg "needed" = some (.ref (He.ga K "needed")) := by obtain ⟨h, X, G⟩ := T.gl; exact He.glo_ok X G (T.says.fact 2)
theorem Tx.mg_is_row (T : Tx K mg) : mg "is_row" = some (.ref (He.ga K "is_row")) := by obtain ⟨h, X, G⟩ := T.gl; exact He.glo_ok X G (T.says.fact 3)
theorem Tx.mg_has_shape (T : Tx K mg) : mg "has_shape" = some (.ref (He.ga K "has_shape")) := by obtain ⟨h, X, G⟩ := T.gl; exact He.glo_ok X G (T.says.fact 4)
theorem Tx.mg_steps_in (T : Tx K mg) : mg "steps_in" = some (.ref (He.ga K "steps_in")) := by obtain ⟨h, X, G⟩ := T.gl; exact He.glo_ok X G (T.says.fact 5)
theorem Tx.mg_is_plan (T : Tx K mg) : mg "is_plan" = some (.ref (He.ga K "is_plan")) := by obtain ⟨h, X, G⟩ := T.gl; exact He.glo_ok X G (T.says.fact 6)
theorem Tx.mg_need_plan (T : Tx K mg) : mg "need_plan" = some (.ref (He.ga K "need_plan")) := by obtain ⟨h, X, G⟩ := T.gl; exact He.glo_ok X G (T.says.fact 7)
theorem Tx.mg_is_fact (T : Tx K mg) : mg "is_fact" = some (.ref (He.ga K "is_fact")) := by obtain ⟨h, X, G⟩ := T.gl; exact He.glo_ok X G (T.says.fact 8)
theorem Tx.mg_need_facts (T : Tx K mg) : mg "need_facts" = some (.ref (He.ga K "need_facts")) := by obtain ⟨h, X, G⟩ := T.gl; exact He.glo_ok X G (T.says.fact 9)
theorem Tx.mg_never_slower (T : Tx K mg) : mg "never_slower" = some (.ref (He.ga K "never_slower")) := by obtain ⟨h, X, G⟩ := T.gl; exact He.glo_ok X G (T.says.fact 10)
theorem Tx.mg_row_values (T : Tx K mg) : mg "row_values" = some (.ref (He.ga K "row_values")) := by obtain ⟨h, X, G⟩ := T.gl; exact He.glo_ok X G (T.says.fact 11)
theorem Tx.mg_plan_values (T : Tx K mg) : mg "plan_values" = some (.ref (He.ga K "plan_values")) := by obtain ⟨h, X, G⟩ := T.gl; exact He.glo_ok X G (T.says.fact 12)
theorem Tx.mg_listed_values (T : Tx K mg) : mg "listed_values" = some (.ref (He.ga K "listed_values")) := by obtain ⟨h, X, G⟩ := T.gl; exact He.glo_ok X G (T.says.fact 13)
theorem Tx.mg_step_rules (T : Tx K mg) : mg "step_rules" = some (.ref (He.ga K "step_rules")) := by obtain ⟨h, X, G⟩ := T.gl; exact He.glo_ok X G (T.says.fact 14)
theorem Tx.mg_first_order (T : Tx K mg) : mg "first_order" = some (.ref (He.ga K "first_order")) := by obtain ⟨h, X, G⟩ := T.gl; exact He.glo_ok X G (T.says.fact 15)
theorem Tx.mg_is_open (T : Tx K mg) : mg "is_open" = some (.ref (He.ga K "is_open")) := by obtain ⟨h, X, G⟩ := T.gl; exact He.glo_ok X G (T.says.fact 16)
theorem Tx.mg_bits (T : Tx K mg) : mg "bits" = some (.ref (He.ga K "bits")) := by obtain ⟨h, X, G⟩ := T.gl; exact He.glo_ok X G (T.says.fact 17)
theorem Tx.mg_weight (T : Tx K mg) : mg "weight" = some (.ref (He.ga K "weight")) := by obtain ⟨h, X, G⟩ := T.gl; exact He.glo_ok X G (T.says.fact 18)
theorem Tx.mg_premises (T : Tx K mg) : mg "premises" = some (.ref (He.ga K "premises")) := by obtain ⟨h, X, G⟩ := T.gl; exact He.glo_ok X G (T.says.fact 19)
theorem Tx.mg_chosen (T : Tx K mg) : mg "chosen" = some (.ref (He.ga K "chosen")) := by obtain ⟨h, X, G⟩ := T.gl; exact He.glo_ok X G (T.says.fact 20)
theorem Tx.mg_first_open (T : Tx K mg) : mg "first_open" = some (.ref (He.ga K "first_open")) := by obtain ⟨h, X, G⟩ := T.gl; exact He.glo_ok X G (T.says.fact 21)
theorem Tx.mg_tried (T : Tx K mg) : mg "tried" = some (.ref (He.ga K "tried")) := by obtain ⟨h, X, G⟩ := T.gl; exact He.glo_ok X G (T.says.fact 22)
theorem Tx.mg_completed (T : Tx K mg) : mg "completed" = some (.ref (He.ga K "completed")) := by obtain ⟨h, X, G⟩ := T.gl; exact He.glo_ok X G (T.says.fact 23)
theorem Tx.mg_searched (T : Tx K mg) : mg "searched" = some (.ref (He.ga K "searched")) := by obtain ⟨h, X, G⟩ := T.gl; exact He.glo_ok X G (T.says.fact 24)
theorem Tx.mg_numbers_of (T : Tx K mg) : mg "numbers_of" = some (.ref (He.ga K "numbers_of")) := by obtain ⟨h, X, G⟩ := T.gl; exact He.glo_ok X G (T.says.fact 25)
theorem Tx.mg_rides_by (T : Tx K mg) : mg "rides_by" = some (.ref (He.ga K "rides_by")) := by obtain ⟨h, X, G⟩ := T.gl; exact He.glo_ok X G (T.says.fact 26)
theorem Tx.mg_timetable_of (T : Tx K mg) : mg "timetable_of" = some (.ref (He.ga K "timetable_of")) := by obtain ⟨h, X, G⟩ := T.gl; exact He.glo_ok X G (T.says.fact 27)
theorem Tx.mg_steps_among (T : Tx K mg) : mg "steps_among" = some (.ref (He.ga K "steps_among")) := by obtain ⟨h, X, G⟩ := T.gl; exact He.glo_ok X G (T.says.fact 28)
theorem Tx.mg_compared (T : Tx K mg) : mg "compared" = some (.ref (He.ga K "compared")) := by obtain ⟨h, X, G⟩ := T.gl; exact He.glo_ok X G (T.says.fact 29)
theorem Tx.mg_compare (T : Tx K mg) : mg "compare" = some (.ref (He.ga K "compare")) := by obtain ⟨h, X, G⟩ := T.gl; exact He.glo_ok X G (T.says.fact 30)
theorem Tx.mg_is_never (T : Tx K mg) : mg "is_never" = some (.ref (He.ga K "is_never")) := by obtain ⟨h, X, G⟩ := T.gl; exact He.glo_ok X G (T.says.fact 31)
theorem Tx.mg_alike (T : Tx K mg) : mg "alike" = some (.ref (He.ga K "alike")) := by obtain ⟨h, X, G⟩ := T.gl; exact He.glo_ok X G (T.says.fact 32)
theorem Tx.mg__law_begun (T : Tx K mg) : mg "_law_begun" = some (.ref (He.ga K "_law_begun")) := by obtain ⟨h, X, G⟩ := T.gl; exact He.glo_ok X G (T.says.fact 33)
theorem Tx.mg__law_next (T : Tx K mg) : mg "_law_next" = some (.ref (He.ga K "_law_next")) := by obtain ⟨h, X, G⟩ := T.gl; exact He.glo_ok X G (T.says.fact 34)
theorem Tx.mg__law_pick (T : Tx K mg) : mg "_law_pick" = some (.ref (He.ga K "_law_pick")) := by obtain ⟨h, X, G⟩ := T.gl; exact He.glo_ok X G (T.says.fact 35)
theorem Tx.mg__law_shuffled (T : Tx K mg) : mg "_law_shuffled" = some (.ref (He.ga K "_law_shuffled")) := by obtain ⟨h, X, G⟩ := T.gl; exact He.glo_ok X G (T.says.fact 36)
theorem Tx.mg__law_other (T : Tx K mg) : mg "_law_other" = some (.ref (He.ga K "_law_other")) := by obtain ⟨h, X, G⟩ := T.gl; exact He.glo_ok X G (T.says.fact 37)
theorem Tx.mg__law_some (T : Tx K mg) : mg "_law_some" = some (.ref (He.ga K "_law_some")) := by obtain ⟨h, X, G⟩ := T.gl; exact He.glo_ok X G (T.says.fact 38)
theorem Tx.mg__law_row (T : Tx K mg) : mg "_law_row" = some (.ref (He.ga K "_law_row")) := by obtain ⟨h, X, G⟩ := T.gl; exact He.glo_ok X G (T.says.fact 39)
theorem Tx.mg__law_grown (T : Tx K mg) : mg "_law_grown" = some (.ref (He.ga K "_law_grown")) := by obtain ⟨h, X, G⟩ := T.gl; exact He.glo_ok X G (T.says.fact 40)
theorem Tx.mg__law_facts (T : Tx K mg) : mg "_law_facts" = some (.ref (He.ga K "_law_facts")) := by obtain ⟨h, X, G⟩ := T.gl; exact He.glo_ok X G (T.says.fact 41)
theorem Tx.mg__law_is_never (T : Tx K mg) : mg "_law_is_never" = some (.ref (He.ga K "_law_is_never")) := by obtain ⟨h, X, G⟩ := T.gl; exact He.glo_ok X G (T.says.fact 42)
theorem Tx.mg__law_least_right (T : Tx K mg) : mg "_law_least_right" = some (.ref (He.ga K "_law_least_right")) := by obtain ⟨h, X, G⟩ := T.gl; exact He.glo_ok X G (T.says.fact 43)
theorem Tx.mg__law_alike_right (T : Tx K mg) : mg "_law_alike_right" = some (.ref (He.ga K "_law_alike_right")) := by obtain ⟨h, X, G⟩ := T.gl; exact He.glo_ok X G (T.says.fact 44)
theorem Tx.mg_law (T : Tx K mg) : mg "law" = some (.ref (He.ga K "law")) := by obtain ⟨h, X, G⟩ := T.gl; exact He.glo_ok X G (T.says.fact 45)
theorem Tx.mg_Link (T : Tx K mg) : mg "Link" = some (.ref (He.ga K "Link")) := by obtain ⟨h, X, G⟩ := T.gl; exact He.glo_ok X G (T.says.fact 46)
theorem Tx.cls_Link (T : Tx K mg) : Cls K (He.ga K "Link") := He.cls_ok (T.says.fact 47)
theorem Tx.mkr_Link (T : Tx K mg) : Mk K (He.ga K "Link") (He.ma K (He.ga K "Link") "__init__") := He.mkr_ok (T.says.fact 48)
theorem Tx.mg_Timetable (T : Tx K mg) : mg "Timetable" = some (.ref (He.ga K "Timetable")) := by obtain ⟨h, X, G⟩ := T.gl; exact He.glo_ok X G (T.says.fact 49)
theorem Tx.cls_Timetable (T : Tx K mg) : Cls K (He.ga K "Timetable") := He.cls_ok (T.says.fact 50)
theorem Tx.mkr_Timetable (T : Tx K mg) : Mk K (He.ga K "Timetable") (He.ma K (He.ga K "Timetable") "__init__") := He.mkr_ok (T.says.fact 51)
theorem Tx.mg_Order (T : Tx K mg) : mg "Order" = some (.ref (He.ga K "Order")) := by obtain ⟨h, X, G⟩ := T.gl; exact He.glo_ok X G (T.says.fact 52)
theorem Tx.cls_Order (T : Tx K mg) : Cls K (He.ga K "Order") := He.cls_ok (T.says.fact 53)
theorem Tx.mkr_Order (T : Tx K mg) : Mk K (He.ga K "Order") (He.ma K (He.ga K "Order") "__init__") := He.mkr_ok (T.says.fact 54)
theorem Tx.no_rules (T : Tx K mg) : NoAttr K (He.ga K "Order") "rules" := He.noat_ok (T.says.fact 55)
theorem Tx.no_joints (T : Tx K mg) : NoAttr K (He.ga K "Order") "joints" := He.noat_ok (T.says.fact 56)
theorem Tx.no_upto (T : Tx K mg) : NoAttr K (He.ga K "Order") "upto" := He.noat_ok (T.says.fact 57)
theorem Tx.no_below (T : Tx K mg) : NoAttr K (He.ga K "Order") "below" := He.noat_ok (T.says.fact 58)
theorem Tx.no_own_rides (T : Tx K mg) : NoAttr K (He.ga K "Link") "own_rides" := He.noat_ok (T.says.fact 59)
theorem Tx.no_own_links (T : Tx K mg) : NoAttr K (He.ga K "Timetable") "own_links" := He.noat_ok (T.says.fact 60)
theorem Tx.mt_is_upto (T : Tx K mg) : Meth K (He.ga K "Order") "is_upto" (He.ma K (He.ga K "Order") "is_upto") := He.meth_ok (T.says.fact 61)
theorem Tx.mt_is_below (T : Tx K mg) : Meth K (He.ga K "Order") "is_below" (He.ma K (He.ga K "Order") "is_below") := He.meth_ok (T.says.fact 62)
theorem Tx.mt_with_more (T : Tx K mg) : Meth K (He.ga K "Order") "with_more" (He.ma K (He.ga K "Order") "with_more") := He.meth_ok (T.says.fact 63)
theorem Tx.mt_put (T : Tx K mg) : Meth K (He.ga K "Order") "put" (He.ma K (He.ga K "Order") "put") := He.meth_ok (T.says.fact 64)
theorem Tx.mt_go_through (T : Tx K mg) : Meth K (He.ga K "Order") "go_through" (He.ma K (He.ga K "Order") "go_through") := He.meth_ok (T.says.fact 65)
theorem Tx.mt_use_rules (T : Tx K mg) : Meth K (He.ga K "Order") "use_rules" (He.ma K (He.ga K "Order") "use_rules") := He.meth_ok (T.says.fact 66)
theorem Tx.mt_use_later (T : Tx K mg) : Meth K (He.ga K "Order") "use_later" (He.ma K (He.ga K "Order") "use_later") := He.meth_ok (T.says.fact 67)
theorem Tx.mt_use_sooner (T : Tx K mg) : Meth K (He.ga K "Order") "use_sooner" (He.ma K (He.ga K "Order") "use_sooner") := He.meth_ok (T.says.fact 68)
theorem Tx.mt_close (T : Tx K mg) : Meth K (He.ga K "Order") "close" (He.ma K (He.ga K "Order") "close") := He.meth_ok (T.says.fact 69)
theorem Tx.mt_is_contrary (T : Tx K mg) : Meth K (He.ga K "Order") "is_contrary" (He.ma K (He.ga K "Order") "is_contrary") := He.meth_ok (T.says.fact 70)
theorem Tx.f_len (T : Tx K mg) : mg "len" = none := by obtain ⟨h, X, G⟩ := T.gl; exact He.free_ok X G (T.says.fact 71)
theorem Tx.f_isinstance (T : Tx K mg) : mg "isinstance" = none := by obtain ⟨h, X, G⟩ := T.gl; exact He.free_ok X G (T.says.fact 72)
theorem Tx.f_all (T : Tx K mg) : mg "all" = none := by obtain ⟨h, X, G⟩ := T.gl; exact He.free_ok X G (T.says.fact 73)
theorem Tx.f_any (T : Tx K mg) : mg "any" = none := by obtain ⟨h, X, G⟩ := T.gl; exact He.free_ok X G (T.says.fact 74)
theorem Tx.f_sum (T : Tx K mg) : mg "sum" = none := by obtain ⟨h, X, G⟩ := T.gl; exact He.free_ok X G (T.says.fact 75)
theorem Tx.f_list (T : Tx K mg) : mg "list" = none := by obtain ⟨h, X, G⟩ := T.gl; exact He.free_ok X G (T.says.fact 76)
theorem Tx.f_range (T : Tx K mg) : mg "range" = none := by obtain ⟨h, X, G⟩ := T.gl; exact He.free_ok X G (T.says.fact 77)
theorem Tx.f_enumerate (T : Tx K mg) : mg "enumerate" = none := by obtain ⟨h, X, G⟩ := T.gl; exact He.free_ok X G (T.says.fact 78)
theorem Tx.f_sorted (T : Tx K mg) : mg "sorted" = none := by obtain ⟨h, X, G⟩ := T.gl; exact He.free_ok X G (T.says.fact 79)
theorem Tx.f_tuple (T : Tx K mg) : mg "tuple" = none := by obtain ⟨h, X, G⟩ := T.gl; exact He.free_ok X G (T.says.fact 80)
theorem Tx.f_int (T : Tx K mg) : mg "int" = none := by obtain ⟨h, X, G⟩ := T.gl; exact He.free_ok X G (T.says.fact 81)
theorem Tx.f_str (T : Tx K mg) : mg "str" = none := by obtain ⟨h, X, G⟩ := T.gl; exact He.free_ok X G (T.says.fact 82)
theorem Tx.f_bool (T : Tx K mg) : mg "bool" = none := by obtain ⟨h, X, G⟩ := T.gl; exact He.free_ok X G (T.says.fact 83)
theorem Tx.f_dict (T : Tx K mg) : mg "dict" = none := by obtain ⟨h, X, G⟩ := T.gl; exact He.free_ok X G (T.says.fact 84)
theorem Tx.f_min (T : Tx K mg) : mg "min" = none := by obtain ⟨h, X, G⟩ := T.gl; exact He.free_ok X G (T.says.fact 85)
theorem Tx.f_abs (T : Tx K mg) : mg "abs" = none := by obtain ⟨h, X, G⟩ := T.gl; exact He.free_ok X G (T.says.fact 86)
theorem Tx.i_MOST_RIDES (T : Tx K mg) : ∃ u, mg "MOST_RIDES" = some u ∧ RelV (.int 60) u := by obtain ⟨h, X, G⟩ := T.gl; obtain ⟨t, e⟩ := He.int_ok X G (T.says.fact 87); exact ⟨_, e, t, rfl⟩
theorem Tx.i_MOST_STEPS_rows (T : Tx K mg) : ∃ u, mg "MOST_STEPS_rows" = some u ∧ RelV (.int 60) u := by obtain ⟨h, X, G⟩ := T.gl; obtain ⟨t, e⟩ := He.int_ok X G (T.says.fact 88); exact ⟨_, e, t, rfl⟩
theorem Tx.i_MOST_IN_ROW (T : Tx K mg) : ∃ u, mg "MOST_IN_ROW" = some u ∧ RelV (.int 8) u := by obtain ⟨h, X, G⟩ := T.gl; obtain ⟨t, e⟩ := He.int_ok X G (T.says.fact 89); exact ⟨_, e, t, rfl⟩
theorem Tx.i_MOST_STEPS_plans (T : Tx K mg) : ∃ u, mg "MOST_STEPS_plans" = some u ∧ RelV (.int 10) u := by obtain ⟨h, X, G⟩ := T.gl; obtain ⟨t, e⟩ := He.int_ok X G (T.says.fact 90); exact ⟨_, e, t, rfl⟩
theorem Tx.i_MOST_DEEP (T : Tx K mg) : ∃ u, mg "MOST_DEEP" = some u ∧ RelV (.int 4) u := by obtain ⟨h, X, G⟩ := T.gl; obtain ⟨t, e⟩ := He.int_ok X G (T.says.fact 91); exact ⟨_, e, t, rfl⟩
theorem Tx.i_MOST_FACTS (T : Tx K mg) : ∃ u, mg "MOST_FACTS" = some u ∧ RelV (.int 12) u := by obtain ⟨h, X, G⟩ := T.gl; obtain ⟨t, e⟩ := He.int_ok X G (T.says.fact 92); exact ⟨_, e, t, rfl⟩
theorem Tx.i_MOST_STEPS_compare (T : Tx K mg) : ∃ u, mg "MOST_STEPS_compare" = some u ∧ RelV (.int 12) u := by obtain ⟨h, X, G⟩ := T.gl; obtain ⟨t, e⟩ := He.int_ok X G (T.says.fact 93); exact ⟨_, e, t, rfl⟩
theorem Tx.i_MOST_LOOKED_AT (T : Tx K mg) : ∃ u, mg "MOST_LOOKED_AT" = some u ∧ RelV (.int 12) u := by obtain ⟨h, X, G⟩ := T.gl; obtain ⟨t, e⟩ := He.int_ok X G (T.says.fact 94); exact ⟨_, e, t, rfl⟩
theorem Tx.s_LINKS (T : Tx K mg) : ∃ u, mg "LINKS" = some u ∧ RelV (.str "abcd") u := by obtain ⟨h, X, G⟩ := T.gl; obtain ⟨t, e⟩ := He.str_ok X G (T.says.fact 95); exact ⟨_, e, t, rfl⟩
theorem Tx.s_STEPS (T : Tx K mg) : ∃ u, mg "STEPS" = some u ∧ RelV (.str "ABCDabcd") u := by obtain ⟨h, X, G⟩ := T.gl; obtain ⟨t, e⟩ := He.str_ok X G (T.says.fact 96); exact ⟨_, e, t, rfl⟩
theorem Tx.s_LAST (T : Tx K mg) : ∃ u, mg "LAST" = some u ∧ RelV (.str "last") u := by obtain ⟨h, X, G⟩ := T.gl; obtain ⟨t, e⟩ := He.str_ok X G (T.says.fact 97); exact ⟨_, e, t, rfl⟩
theorem Tx.s_FIRST (T : Tx K mg) : ∃ u, mg "FIRST" = some u ∧ RelV (.str "first") u := by obtain ⟨h, X, G⟩ := T.gl; obtain ⟨t, e⟩ := He.str_ok X G (T.says.fact 98); exact ⟨_, e, t, rfl⟩
theorem Tx.mg_WORDS (T : Tx K mg) : mg "WORDS" = some (.ref (He.ga K "WORDS")) := by obtain ⟨h, X, G⟩ := T.gl; exact He.glo_ok X G (T.says.fact 99)
theorem Tx.ins_Link (T : Tx K mg) : C8.InsC K (He.ga K "Link") := by
  obtain ⟨h1, h⟩ := He.ba (He.ba (He.ba (He.ba T.more).2).2).2
  obtain ⟨h2, h⟩ := He.ba h
  obtain ⟨h3, h⟩ := He.ba h
  obtain ⟨h4, h5⟩ := He.ba h
  exact ⟨T.cls_Link, of_decide_eq_true h1, of_decide_eq_true h2, of_decide_eq_true h3, of_decide_eq_true h4, of_decide_eq_true h5⟩
end
theorem fn_is_number : fn[0]? = some d_is_number := rfl
theorem fn_is_ride : fn[1]? = some d_is_ride := rfl
theorem fn_needed : fn[2]? = some d_needed := rfl
theorem fn_Link_init : fn[3]? = some d_Link_init := rfl
theorem fn_is_row : fn[4]? = some d_is_row := rfl
theorem fn_Timetable_init : fn[5]? = some d_Timetable_init := rfl
theorem fn_has_shape : fn[6]? = some d_has_shape := rfl
theorem fn_steps_in : fn[7]? = some d_steps_in := rfl
theorem fn_is_plan : fn[8]? = some d_is_plan := rfl
theorem fn_need_plan : fn[9]? = some d_need_plan := rfl
theorem fn_is_fact : fn[10]? = some d_is_fact := rfl
theorem fn_need_facts : fn[11]? = some d_need_facts := rfl
theorem fn_never_slower : fn[12]? = some d_never_slower := rfl
theorem fn_row_values : fn[13]? = some d_row_values := rfl
theorem fn_plan_values : fn[14]? = some d_plan_values := rfl
theorem fn_listed_values : fn[15]? = some d_listed_values := rfl
theorem fn_step_rules : fn[16]? = some d_step_rules := rfl
theorem fn_Order_init : fn[17]? = some d_Order_init := rfl
theorem fn_Order_is_upto : fn[18]? = some d_Order_is_upto := rfl
theorem fn_Order_is_below : fn[19]? = some d_Order_is_below := rfl
theorem fn_Order_with_more : fn[20]? = some d_Order_with_more := rfl
theorem fn_Order_put : fn[21]? = some d_Order_put := rfl
theorem fn_Order_go_through : fn[22]? = some d_Order_go_through := rfl
theorem fn_Order_use_rules : fn[23]? = some d_Order_use_rules := rfl
theorem fn_Order_use_later : fn[24]? = some d_Order_use_later := rfl
theorem fn_Order_use_sooner : fn[25]? = some d_Order_use_sooner := rfl
theorem fn_Order_close : fn[26]? = some d_Order_close := rfl
theorem fn_Order_is_contrary : fn[27]? = some d_Order_is_contrary := rfl
theorem fn_first_order : fn[28]? = some d_first_order := rfl
theorem fn_is_open : fn[29]? = some d_is_open := rfl
theorem fn_bits : fn[30]? = some d_bits := rfl
theorem fn_weight : fn[31]? = some d_weight := rfl
theorem fn_premises : fn[32]? = some d_premises := rfl
theorem fn_chosen : fn[33]? = some d_chosen := rfl
theorem fn_first_open : fn[34]? = some d_first_open := rfl
theorem fn_tried : fn[35]? = some d_tried := rfl
theorem fn_completed : fn[36]? = some d_completed := rfl
theorem fn_searched : fn[37]? = some d_searched := rfl
theorem fn_numbers_of : fn[38]? = some d_numbers_of := rfl
theorem fn_rides_by : fn[39]? = some d_rides_by := rfl
theorem fn_timetable_of : fn[40]? = some d_timetable_of := rfl
theorem fn_steps_among : fn[41]? = some d_steps_among := rfl
theorem fn_compared : fn[42]? = some d_compared := rfl
theorem fn_compare : fn[43]? = some d_compare := rfl
theorem fn_is_never : fn[44]? = some d_is_never := rfl
theorem fn_alike : fn[45]? = some d_alike := rfl
theorem fn__law_begun : fn[46]? = some d__law_begun := rfl
theorem fn__law_next : fn[47]? = some d__law_next := rfl
theorem fn__law_pick : fn[48]? = some d__law_pick := rfl
theorem fn__law_shuffled : fn[49]? = some d__law_shuffled := rfl
theorem fn__law_other : fn[50]? = some d__law_other := rfl
theorem fn__law_some : fn[51]? = some d__law_some := rfl
theorem fn__law_row : fn[52]? = some d__law_row := rfl
theorem fn__law_grown : fn[53]? = some d__law_grown := rfl
theorem fn__law_facts : fn[54]? = some d__law_facts := rfl
theorem fn__law_is_never : fn[55]? = some d__law_is_never := rfl
theorem fn__law_least_right : fn[56]? = some d__law_least_right := rfl
theorem fn__law_alike_right : fn[57]? = some d__law_alike_right := rfl
theorem fn_law : fn[58]? = some d_law := rfl
end K35

/-! Helpers of the walk, and rules that the layer lacks. -/
namespace K35
open PySem PySem.Spec PyProof.Rows L2
section
variable {P : Program} {w : World} {K : PySem.W.Frag} {mg : Str → Option Value} {base : Heap}
/-- a def's promise, by its body -/
theorem mkF {d : He.DefD} {N ps : List Str} {k : Nat} {sp : Sp} {dvs : List V} {f : Addr} {fd : FuncData} (F : FunD K d.name d.qual d.params d.body d.scope dvs [] f fd) (S : FnScope N ps d.scope) (len : ∀ vs H Q E, sp vs H Q E → vs.length = ps.length)
    (hb : ∀ (cdv : Value) (A : Around) (outer : List Env) (s : Shared) (H : Hp) (vs : List V) (Q : VK) (E : XK), Room k (A.deeper (envOfC d.qual d.scope s.heap.objs.size f cdv)) → sp vs H Q E →
      ∃ t, PSs (cxOf CX0 P w K mg base N d.qual d.scope f cdv A outer s H E).nox d.body t ∧ t { nx := fun _ H' => Q .non H', rt := Q } (start N vs) H) : FnOk P w K mg base CX0 (k + 1) f fd ps sp :=
  F.ok S len fun cdv A outer s H vs Q E hr h => by
    obtain ⟨t, h1, h2⟩ := hb cdv A outer s H vs Q E hr h
    exact ⟨t, h1.nox, h2⟩
abbrev BindN (d : He.DefD) (ps : List Str) : Prop := ∀ (kV doc pm : Value) (an : Option Addr) (cdv ct : Value) (us : List Value), us.length = ps.length → bindArgs (PySem.W.fnOf d.name d.qual d.params d.body d.scope .none kV doc pm an cdv ct) ⟨us, []⟩ = pure (ps.zip us)
abbrev Body (P : Program) (w : World) (K : PySem.W.Frag) (mg : Str → Option Value) (base : Heap) (d : He.DefD) (N : List Str) (k : Nat) (sp : Sp) : Prop :=
  ∀ (f : Addr) (cdv : Value) (A : Around) (outer : List Env) (s : Shared) (H : Hp) (vs : List V) (Q : VK) (E : XK), Room k (A.deeper (envOfC d.qual d.scope s.heap.objs.size f cdv)) → sp vs H Q E →
      ∃ t, PSs (cxOf CX0 P w K mg base N d.qual d.scope f cdv A outer s H E).nox d.body t ∧ t { nx := fun _ H' => Q .non H', rt := Q } (start N vs) H
/-- a def of the module, without defaults -/
theorem mkCal (T : Tx K mg) {d : He.DefD} {x : Str} {i : Nat} {N ps : List Str} {k : Nat} {sp : Sp} (hd : fn[i]? = some d) (hat : d.at_ = (x, none)) (hdf : d.dvs K = []) (hkw : d.kws K = []) (hm : mg x = some (.ref (He.ga K x))) (S : FnScope N ps d.scope)
    (hbind : BindN d ps) (len : ∀ vs H Q E, sp vs H Q E → vs.length = ps.length) (hb : Body P w K mg base d N k sp) : C8.Cal P w K mg base (k + 1) x sp [] := by
  obtain ⟨fd, F⟩ := T.says.def_ i hd
  rw [hdf, hkw, hat] at F
  exact ⟨_, fd, ps, [], mkF F S len (hb _), hm, F.kp, F.bindsN hbind, .nil⟩
/-- a method -/
theorem mkMet (T : Tx K mg) {d : He.DefD} {C m : Str} {i : Nat} {N ps : List Str} {k : Nat} {sp : Sp} (hd : fn[i]? = some d) (hat : d.at_ = (C, some m)) (hdf : d.dvs K = []) (hkw : d.kws K = []) (hc : Cls K (He.ga K C)) (hm : Meth K (He.ga K C) m (He.ma K (He.ga K C) m)) (S : FnScope N ps d.scope)
    (hbind : BindN d ps) (len : ∀ vs H Q E, sp vs H Q E → vs.length = ps.length) (hb : Body P w K mg base d N k sp) : C8.Met P w K mg base (k + 1) (He.ga K C) m sp [] := by
  obtain ⟨fd, F⟩ := T.says.def_ i hd
  rw [hdf, hkw, hat] at F
  exact ⟨_, fd, ps, [], hc, hm, mkF F S len (hb _), F.bindsN hbind, .nil⟩
/-- a class by its __init__ -/
theorem mkMak (T : Tx K mg) {d : He.DefD} {C : Str} {i : Nat} {N ps : List Str} {k : Nat} {sp : Sp} (hd : fn[i]? = some d) (hat : d.at_ = (C, some ("__init__" : Str))) (hdf : d.dvs K = []) (hkw : d.kws K = []) (hM : Mk K (He.ga K C) (He.ma K (He.ga K C) "__init__")) (hm : mg C = some (.ref (He.ga K C))) (S : FnScope N ps d.scope)
    (hbind : BindN d ps) (len : ∀ vs H Q E, sp vs H Q E → vs.length = ps.length) (hb : Body P w K mg base d N k sp) : C8.Mak P w K mg base (k + 1) C (He.ga K C) sp [] := by
  obtain ⟨fd, F⟩ := T.says.def_ i hd
  rw [hdf, hkw, hat] at F
  exact ⟨_, fd, ps, [], hM, mkF F S len (hb _), hm, F.bindsN hbind, .nil⟩
end
theorem hu64 {A : Around} {k : Nat} (hr : Room k A) : A.units < cLine := Nat.lt_of_le_of_lt (Nat.le_succ _) (hu_of hr)
section
variable {X : Cx}
/-! ### xs[i], read for xs[i] op= e -/
theorem pget_list : PGet X (rIxL X.K) := by
  intro pins s σ H o i ov iv Q I ro ri h
  obtain ⟨a, zs, n, z, rfl, rfl, hz, hat, q⟩ := h
  cases ro
  obtain ⟨tk, rfl⟩ := ri
  obtain ⟨its, rz, pl, _⟩ := I.list hz
  obtain ⟨j, g1, g2, g3, g4, g5⟩ := atI_get hat
  obtain ⟨wv, gw, rwv⟩ := rz.get g2
  have hlen := rz.length
  have h63 := line63
  have done : EP X pins σ Q wv s := ⟨z, H, I, rwv, q⟩
  rcases Int.lt_or_le n 0 with hn | hn
  · have hj : (n + (its.toArray.size : Int)).toNat = j := by
      rw [seqIndex_neg hn g4] at g1
      rw [List.size_toArray, ← hlen]
      exact Option.some.inj g1
    exact wpAny_getItem_list_neg pl.isList hn (by rw [List.size_toArray] <;> omega) (by omega) (by rw [hj]; simpa using gw) done
  · have hj : n.toNat = j := by
      rw [seqIndex_of hn g5] at g1
      exact Option.some.inj g1
    exact wpAny_getItem_list pl.isList hn (by omega) (by rw [hj]; simpa using gw) done
/-! ### xs == [], xs != [] -/
def rNil (K : PySem.W.Frag) (neg : Bool) : R2 := fun x y H Q => ∃ a b xs, x = .ref a ∧ y = .ref b ∧ SqL K H a xs ∧ SqL K H b [] ∧ Q (.bl (if neg then !xs.isEmpty else xs.isEmpty)) H
theorem nil_eq {A : Around} {s : Shared} {a b : Addr} {its jts : List Value} (h1 : s.heap.IsList a its.toArray) (h2 : s.heap.IsList b jts.toArray) (hj : jts = []) (hu : A.units < cLine) : PySem.SeqAt.RcAt A s (.ref a) (.ref b) its.isEmpty ∧ PySem.SeqAt.RcNeAt A s (.ref a) (.ref b) (!its.isEmpty) := by
  subst hj
  cases its with
  | nil =>
    have e1 := PySem.SeqAt.RcAt.lists (e := fun _ => true) h1 h2 rfl hu fun j g => absurd g (Nat.not_lt_zero _)
    have e2 := PySem.SeqAt.RcNeAt.lists (e := fun _ => true) h1 h2 rfl hu fun j g => absurd g (Nat.not_lt_zero _)
    exact ⟨e1, e2⟩
  | cons z r => exact ⟨PySem.SeqAt.RcAt.lists_lengths h1 h2 rfl hu, PySem.SeqAt.RcNeAt.lists_lengths h1 h2 rfl hu⟩
theorem isE_of {xs : List V} {us : List Value} (r : Vals xs us) : xs.isEmpty = us.isEmpty := by
  cases r <;> rfl
theorem op_eqNil (hu : X.A.units < cLine) : OpR X (compareOp .Eq) (rNil X.K false) := by
  intro pins s σ H x y v u Q I rx ry h
  obtain ⟨a, b, xs, rfl, rfl, h1, h2, q⟩ := h
  cases rx
  cases ry
  obtain ⟨its, r1, p1, _⟩ := I.list h1
  obtain ⟨jts, r2, p2, _⟩ := I.list h2
  have hj : jts = [] := by cases r2; rfl
  refine (nil_eq p1.isList p2.isList hj hu).1 _ _ _ _ ?_
  exact ⟨.bl _, H, I, congrArg Value.bool (isE_of r1).symm, q⟩
theorem op_neNil (hu : X.A.units < cLine) : OpR X (compareOp .NotEq) (rNil X.K true) := by
  intro pins s σ H x y v u Q I rx ry h
  obtain ⟨a, b, xs, rfl, rfl, h1, h2, q⟩ := h
  cases rx
  cases ry
  obtain ⟨its, r1, p1, _⟩ := I.list h1
  obtain ⟨jts, r2, p2, _⟩ := I.list h2
  have hj : jts = [] := by cases r2; rfl
  refine (nil_eq p1.isList p2.isList hj hu).2 _ _ _ _ ?_
  exact ⟨.bl _, H, I, congrArg (fun z => Value.bool (!z)) (isE_of r1).symm, q⟩
end
end K35

/-! The class Order: its objects, its small methods. -/
namespace K35
open PySem PySem.Spec PyProof.Rows L2
abbrev Ex := Evl.Ex
/-! ### data in the heap -/
/-- a list of tuples -/
def RowsAt {α : Type} (f : α → List V) (H : Hp) (l : Addr) (xs : List α) : Prop := ∃ ts : List Addr, H l = some (.lst (ts.map V.ref)) ∧ ts.length = xs.length ∧ ∀ (i : Nat) (t : Addr) (x : α), ts[i]? = some t → xs[i]? = some x → H t = some (.tup (f x))
def iV (n : Nat) : V := .int (n : Int)
def r4V (r : R4) : List V := [iV r.1, iV r.2.1, iV r.2.2.1, iV r.2.2.2]
def j4V (q : J4) : List V := [.str (if q.1 = true then "later" else "sooner"), iV q.2.1, iV q.2.2.1, iV q.2.2.2]
def nV (l : List Nat) : List V := l.map iV
/-- the addresses of an order's parts -/
structure Oa where
  p : Addr
  rl : Addr
  jl : Addr
  ul : Addr
  bl : Addr
def ofl (a : Oa) : List (Str × V) := putF "below" (.ref a.bl) (putF "upto" (.ref a.ul) (putF "joints" (.ref a.jl) (putF "rules" (.ref a.rl) [])))
theorem ofl_rules (a : Oa) : (ofl a).lookup ("rules" : Str) = some (.ref a.rl) := by
  unfold ofl
  rw [lookup_putF, if_neg (by decide +kernel), lookup_putF, if_neg (by decide +kernel), lookup_putF, if_neg (by decide +kernel), lookup_putF, if_pos rfl]
theorem ofl_joints (a : Oa) : (ofl a).lookup ("joints" : Str) = some (.ref a.jl) := by
  unfold ofl
  rw [lookup_putF, if_neg (by decide +kernel), lookup_putF, if_neg (by decide +kernel), lookup_putF, if_pos rfl]
theorem ofl_upto (a : Oa) : (ofl a).lookup ("upto" : Str) = some (.ref a.ul) := by
  unfold ofl
  rw [lookup_putF, if_neg (by decide +kernel), lookup_putF, if_pos rfl]
theorem ofl_below (a : Oa) : (ofl a).lookup ("below" : Str) = some (.ref a.bl) := by
  unfold ofl
  rw [lookup_putF, if_pos rfl]
theorem ofl_no (a : Oa) {m : Str} (h1 : ¬ m = "below") (h2 : ¬ m = "upto") (h3 : ¬ m = "joints") (h4 : ¬ m = "rules") : (ofl a).lookup m = none := by
  unfold ofl
  rw [lookup_putF, if_neg h1, lookup_putF, if_neg h2, lookup_putF, if_neg h3, lookup_putF, if_neg h4]
  rfl
/-- an Order stands there -/
structure OrdAt (K : PySem.W.Frag) (H : Hp) (a : Oa) (rs : List R4) (js : List J4) (U B : List Nat) : Prop where
  ob : ∃ dx, H a.p = some (.ins (He.ga K "Order") dx (ofl a))
  ru : RowsAt r4V H a.rl rs
  jo : RowsAt j4V H a.jl js
  up : H a.ul = some (.lst (nV U))
  be : H a.bl = some (.lst (nV B))
  n1 : a.ul ≠ a.bl
  n2 : a.rl ≠ a.ul
  n3 : a.rl ≠ a.bl
  n4 : a.jl ≠ a.ul
  n5 : a.jl ≠ a.bl
/-- all but the two rows of bits is kept -/
def But (a : Oa) (H H' : Hp) : Prop := ∀ b o, H b = some o → b ≠ a.ul → b ≠ a.bl → H' b = some o
theorem But.refl (a : Oa) (H : Hp) : But a H H := fun _ _ h _ _ => h
theorem But.trans {a : Oa} {H H1 H2 : Hp} (x : But a H H1) (y : But a H1 H2) : But a H H2 := fun b o h h1 h2 => y b o (x b o h h1 h2) h1 h2
theorem Ex.but {a : Oa} {H H1 : Hp} (x : Ex H H1) : But a H H1 := fun b o h _ _ => x b o h
section
variable {K : PySem.W.Frag} {H H' : Hp} {a : Oa} {rs : List R4} {js : List J4} {U B U' B' : List Nat}
theorem RowsAt.keep {α : Type} {f : α → List V} {l : Addr} {xs : List α} (h : RowsAt f H l xs) (k : ∀ b o, H b = some o → (b = l ∨ ∃ vs, o = .tup vs) → H' b = some o) : RowsAt f H' l xs := by
  obtain ⟨ts, h1, h2, h3⟩ := h
  exact ⟨ts, k _ _ h1 (.inl rfl), h2, fun i t x e1 e2 => k _ _ (h3 i t x e1 e2) (.inr ⟨_, rfl⟩)⟩
theorem RowsAt.ex {α : Type} {f : α → List V} {l : Addr} {xs : List α} (e : Ex H H') (h : RowsAt f H l xs) : RowsAt f H' l xs := h.keep fun b o q _ => e b o q
theorem OrdAt.but (O : OrdAt K H a rs js U B) (k : But a H H') (hu : H' a.ul = some (.lst (nV U'))) (hb : H' a.bl = some (.lst (nV B'))) : OrdAt K H' a rs js U' B' := by
  obtain ⟨dx, h1⟩ := O.ob
  have nt : ∀ b vs, H b = some (.tup vs) → b ≠ a.ul ∧ b ≠ a.bl := fun b vs h => ⟨ne_of h O.up (fun z => nomatch z), ne_of h O.be (fun z => nomatch z)⟩
  refine ⟨⟨dx, k _ _ h1 (ne_of h1 O.up (fun z => nomatch z)) (ne_of h1 O.be (fun z => nomatch z))⟩, O.ru.keep fun b o h q => ?_, O.jo.keep fun b o h q => ?_, hu, hb, O.n1, O.n2, O.n3, O.n4, O.n5⟩
  · rcases q with rfl | ⟨vs, rfl⟩
    · exact k _ _ h O.n2 O.n3
    · exact k _ _ h (nt b vs h).1 (nt b vs h).2
  · rcases q with rfl | ⟨vs, rfl⟩
    · exact k _ _ h O.n4 O.n5
    · exact k _ _ h (nt b vs h).1 (nt b vs h).2
theorem OrdAt.ex (O : OrdAt K H a rs js U B) (e : Ex H H') : OrdAt K H' a rs js U B := O.but (Ex.but e) (e _ _ O.up) (e _ _ O.be)
end
theorem nV_len (l : List Nat) : (nV l).length = l.length := List.length_map ..
theorem nV_at {l : List Nat} {i : Nat} (h : i < l.length) : (nV l)[i]? = some (iV (l.getD i 0)) := by
  unfold nV
  rw [List.getElem?_map, List.getD_eq_getElem?_getD, List.getElem?_eq_getElem h]
  rfl
theorem nV_set (l : List Nat) (i x : Nat) : (nV l).set i (iV x) = nV (l.set i x) := by
  unfold nV
  rw [List.map_set]
/-! ### bits -/
theorem bit_test (u j : Nat) : decide (V.int (Builtin.bitAnd ((u : Int) / 2 ^ ((j : Int)).toNat) 1) = V.int 1) = u.testBit j := by
  have e1 : Builtin.bitAnd ((u : Int) / 2 ^ ((j : Int)).toNat) 1 = ((u / 2 ^ j % 2 : Nat) : Int) := by
    rw [show ((j : Int)).toNat = j from Int.toNat_natCast j]
    rw [PyProof.Rows.bitAnd_m1]
    have : (2 : Int) ^ j = ((2 ^ j : Nat) : Int) := by rw [Int.natCast_pow]; rfl
    rw [this]
    omega
  rw [e1, Nat.testBit_eq_decide_div_mod_eq]
  by_cases h : u / 2 ^ j % 2 = 1
  · simp [h]
  · have h0 : u / 2 ^ j % 2 = 0 := by omega
    simp [h0]
theorem or_val (u j : Nat) : Builtin.bitOr (u : Int) (1 * 2 ^ ((j : Int)).toNat) = ((u ||| 2 ^ j : Nat) : Int) := by
  have e : (1 : Int) * 2 ^ ((j : Int)).toNat = ((2 ^ j : Nat) : Int) := by
    rw [show ((j : Int)).toNat = j from Int.toNat_natCast j, Int.one_mul, Int.natCast_pow]; rfl
  rw [e, Bits.bitOr_pp (Int.natCast_nonneg _) (Int.natCast_nonneg _)]
  rfl
theorem putF_len (f : Str) (v : V) : ∀ fs : List (Str × V), (putF f v fs).length ≤ fs.length + 1
  | [] => Nat.le_refl _
  | (g, x) :: r => by
    show (if g = f then (g, v) :: r else (g, x) :: putF f v r).length ≤ _
    by_cases h : g = f
    · rw [if_pos h]; exact Nat.le_succ _
    · rw [if_neg h]; exact Nat.succ_le_succ (putF_len f v r)
theorem putF1000 {f : Str} {v : V} {fs : List (Str × V)} {n : Nat} (h : fs.length ≤ n) : (putF f v fs).length ≤ n + 1 := Nat.le_trans (putF_len f v fs) (Nat.succ_le_succ h)
/-! ### promises -/
def spOInit (K : PySem.W.Frag) : Sp := fun vs H Q _ => ∃ (a : Oa) (dx : Addr), vs = [.ref a.p, .ref a.rl, .ref a.jl, .ref a.ul, .ref a.bl] ∧ H a.p = some (.ins (He.ga K "Order") dx []) ∧
  ∀ H', H' a.p = some (.ins (He.ga K "Order") dx (ofl a)) → (∀ b o, H b = some o → b ≠ a.p → H' b = some o) → Q .non H'
def spGetU (K : PySem.W.Frag) : Sp := fun vs H Q _ => ∃ (a : Oa) (rs : List R4) (js : List J4) (U B : List Nat) (i j : Nat), vs = [.ref a.p, iV i, iV j] ∧ OrdAt K H a rs js U B ∧ i < U.length ∧ Q (.bl (bt U i j)) H
def spGetB (K : PySem.W.Frag) : Sp := fun vs H Q _ => ∃ (a : Oa) (rs : List R4) (js : List J4) (U B : List Nat) (i j : Nat), vs = [.ref a.p, iV i, iV j] ∧ OrdAt K H a rs js U B ∧ i < B.length ∧ Q (.bl (bt B i j)) H
def spPut (K : PySem.W.Frag) : Sp := fun vs H Q _ => ∃ (a : Oa) (rs : List R4) (js : List J4) (U B : List Nat) (i j : Nat) (s : Bool), vs = [.ref a.p, iV i, iV j, .bl s] ∧ OrdAt K H a rs js U B ∧ i < U.length ∧ i < B.length ∧ j ≤ 1000000 ∧
  ∀ H', OrdAt K H' a rs js (putB U i j) (putS B i j s) → But a H H' → Q .non H'
def spContr (K : PySem.W.Frag) : Sp := fun vs H Q _ => ∃ (a : Oa) (rs : List R4) (js : List J4) (U B : List Nat), vs = [.ref a.p] ∧ OrdAt K H a rs js U B ∧ B.length ≤ 1000 ∧
  ∀ (b : Bool) H', (b = true ↔ Contrary B) → Ex H H' → Q (.bl b) H'
section
variable {P : Program} {w : World} {K : PySem.W.Frag} {mg : Str → Option Value} {base : Heap}
abbrev N_Order_init : List Str := ["self", "rules", "joints", "upto", "below"]
theorem sc_Order_init : FnScope N_Order_init ["self", "rules", "joints", "upto", "below"] (defScope s_Order_init) := ⟨rfl, rfl, rfl, by decide +kernel, rfl, by decide +kernel, by decide +kernel⟩
theorem k_Order (T : Tx K mg) : C8.Mak P w K mg base 1 "Order" (He.ga K "Order") (spOInit K) [] :=
  mkMak T fn_Order_init rfl rfl rfl T.mkr_Order T.mg_Order sc_Order_init (fun _ _ _ _ _ _ us hl => match us, hl with | [_, _, _, _, _], _ => rfl) (fun vs H Q E h => by obtain ⟨a, dx, rfl, _⟩ := h; rfl) fun f cdv A outer s H vs Q E hr h => by
    obtain ⟨a, dx, rfl, hp, k⟩ := h
    refine ⟨_, (pss_cons (ps_fld (pv 0) (pv 1) rfl)
      (pss_cons (ps_fld (pv 0) (pv 2) rfl)
      (pss_cons (ps_fld (pv 0) (pv 3) rfl)
      (pss_one (ps_fld (pv 0) (pv 4) rfl))))), ?_⟩
    refine ⟨_, rfl, _, rfl, a.p, _, dx, _, rfl, hp, T.cls_Order, T.no_rules, by decide, ?_⟩
    refine ⟨_, rfl, _, rfl, a.p, _, dx, _, rfl, upd_same, T.cls_Order, T.no_joints, Nat.lt_of_le_of_lt (putF1000 (Nat.zero_le 0)) (by decide), ?_⟩
    refine ⟨_, rfl, _, rfl, a.p, _, dx, _, rfl, upd_same, T.cls_Order, T.no_upto, Nat.lt_of_le_of_lt (putF1000 (putF1000 (Nat.zero_le 0))) (by decide), ?_⟩
    refine ⟨_, rfl, _, rfl, a.p, _, dx, _, rfl, upd_same, T.cls_Order, T.no_below, Nat.lt_of_le_of_lt (putF1000 (putF1000 (putF1000 (Nat.zero_le 0)))) (by decide), ?_⟩
    exact k _ upd_same fun b o h hb => by rw [upd_ne hb, upd_ne hb, upd_ne hb, upd_ne hb]; exact h
abbrev N_Order_is_upto : List Str := ["self", "i", "j"]
theorem sc_Order_is_upto : FnScope N_Order_is_upto ["self", "i", "j"] (defScope s_Order_is_upto) := ⟨rfl, rfl, rfl, by decide +kernel, rfl, by decide +kernel, by decide +kernel⟩
theorem m_is_upto (T : Tx K mg) : C8.Met P w K mg base 1 (He.ga K "Order") "is_upto" (spGetU K) [] :=
  mkMet T fn_Order_is_upto rfl rfl rfl T.cls_Order T.mt_is_upto sc_Order_is_upto (fun _ _ _ _ _ _ us hl => match us, hl with | [_, _, _], _ => rfl) (fun vs H Q E h => by obtain ⟨a, rs, js, U, B, i, j, rfl, _⟩ := h; rfl) fun f cdv A outer s H vs Q E hr h => by
    obtain ⟨a, rs, js, U, B, i, j, rfl, O, hi, q⟩ := h
    obtain ⟨dx, hp⟩ := O.ob
    refine ⟨_, (pss_one (ps_ret (pe_cmpR op_eq (pe_op op_and (pe_op op_shr (pe_ix ix_list (pe_fld (pv 0) rfl) (pv 1) (fun _ _ => rfl)) (pv 2)) pe_int) pe_int (nomark _)))), ?_⟩
    refine ⟨_, rfl, a.p, _, dx, _, _, rfl, hp, T.cls_Order, T.no_upto, ofl_upto a, _, rfl, a.ul, _, _, _, rfl, rfl, SqL.of O.up, atI_nat (nV_at hi), _, rfl, _, _, rfl, rfl, Int.natCast_nonneg _, _, _, rfl, rfl, rfl, ?_⟩
    show Q (.bl (decide (V.int (Builtin.bitAnd (((U.getD i 0 : Nat) : Int) / 2 ^ ((j : Int)).toNat) 1) = V.int 1))) H
    rw [bit_test]
    exact q
abbrev N_Order_is_below : List Str := ["self", "i", "j"]
theorem sc_Order_is_below : FnScope N_Order_is_below ["self", "i", "j"] (defScope s_Order_is_below) := ⟨rfl, rfl, rfl, by decide +kernel, rfl, by decide +kernel, by decide +kernel⟩
theorem m_is_below (T : Tx K mg) : C8.Met P w K mg base 1 (He.ga K "Order") "is_below" (spGetB K) [] :=
  mkMet T fn_Order_is_below rfl rfl rfl T.cls_Order T.mt_is_below sc_Order_is_below (fun _ _ _ _ _ _ us hl => match us, hl with | [_, _, _], _ => rfl) (fun vs H Q E h => by obtain ⟨a, rs, js, U, B, i, j, rfl, _⟩ := h; rfl) fun f cdv A outer s H vs Q E hr h => by
    obtain ⟨a, rs, js, U, B, i, j, rfl, O, hi, q⟩ := h
    obtain ⟨dx, hp⟩ := O.ob
    refine ⟨_, (pss_one (ps_ret (pe_cmpR op_eq (pe_op op_and (pe_op op_shr (pe_ix ix_list (pe_fld (pv 0) rfl) (pv 1) (fun _ _ => rfl)) (pv 2)) pe_int) pe_int (nomark _)))), ?_⟩
    refine ⟨_, rfl, a.p, _, dx, _, _, rfl, hp, T.cls_Order, T.no_below, ofl_below a, _, rfl, a.bl, _, _, _, rfl, rfl, SqL.of O.be, atI_nat (nV_at hi), _, rfl, _, _, rfl, rfl, Int.natCast_nonneg _, _, _, rfl, rfl, rfl, ?_⟩
    show Q (.bl (decide (V.int (Builtin.bitAnd (((B.getD i 0 : Nat) : Int) / 2 ^ ((j : Int)).toNat) 1) = V.int 1))) H
    rw [bit_test]
    exact q
abbrev N_Order_put : List Str := ["self", "i", "j", "is_strict"]
theorem sc_Order_put : FnScope N_Order_put ["self", "i", "j", "is_strict"] (defScope s_Order_put) := ⟨rfl, rfl, rfl, by decide +kernel, rfl, by decide +kernel, by decide +kernel⟩
theorem m_put (T : Tx K mg) : C8.Met P w K mg base 1 (He.ga K "Order") "put" (spPut K) [] :=
  mkMet T fn_Order_put rfl rfl rfl T.cls_Order T.mt_put sc_Order_put (fun _ _ _ _ _ _ us hl => match us, hl with | [_, _, _, _], _ => rfl) (fun vs H Q E h => by obtain ⟨a, rs, js, U, B, i, j, s, rfl, _⟩ := h; rfl) fun f cdv A outer s0 H vs Q E hr h => by
    obtain ⟨a, rs, js, U, B, i, j, s, rfl, O, hi, hi2, hj, k⟩ := h
    obtain ⟨dx, hp⟩ := O.ob
    have npu : a.p ≠ a.ul := ne_of hp O.up (fun z => nomatch z)
    have cj : (0 : Int) ≤ (j : Int) ∧ (j : Int) ≤ 1000000 ∧ (1 : Int).natAbs < 2 ^ 64 := ⟨Int.natCast_nonneg _, by omega, by decide⟩
    refine ⟨_, (pss_cons (ps_augS (pe_fld (pv 0) rfl) (pv 1) pget_list (pe_op op_shl pe_int (pv 2)) iop_or set_list)
      (pss_one (ps_if (pt_val (pv 3)) (pss_one (ps_augS (pe_fld (pv 0) rfl) (pv 1) pget_list (pe_op op_shl pe_int (pv 2)) iop_or set_list)) pss_nil))), ?_⟩
    refine ⟨_, rfl, a.p, _, dx, _, _, rfl, hp, T.cls_Order, T.no_upto, ofl_upto a, _, rfl, a.ul, _, _, _, rfl, rfl, SqL.of O.up, atI_nat (nV_at hi), _, rfl, _, _, rfl, rfl, cj, _, _, rfl, rfl, a.ul, _, _, i, rfl, rfl, O.up, Evl.ixN_nat (by rw [nV_len]; exact hi), ?_⟩
    dsimp only
    rw [or_val]
    have e1 : (nV U).set i (V.int ((U.getD i 0 ||| 2 ^ j : Nat) : Int)) = nV (putB U i j) := nV_set U i _
    rw [e1]
    have b1 : But a H (upd H a.ul (.lst (nV (putB U i j)))) := fun b o h h1 _ => by rw [upd_ne h1]; exact h
    have O1 : OrdAt K (upd H a.ul (.lst (nV (putB U i j)))) a rs js (putB U i j) B := O.but b1 upd_same (by rw [upd_ne O.n1.symm]; exact O.be)
    refine ⟨_, rfl, s, rfl, ?_⟩
    cases s with
    | false => exact k _ O1 b1
    | true =>
      obtain ⟨dx1, hp1⟩ := O1.ob
      refine ⟨_, rfl, a.p, _, dx1, _, _, rfl, hp1, T.cls_Order, T.no_below, ofl_below a, _, rfl, a.bl, _, _, _, rfl, rfl, SqL.of O1.be, atI_nat (nV_at hi2), _, rfl, _, _, rfl, rfl, cj, _, _, rfl, rfl, a.bl, _, _, i, rfl, rfl, O1.be, Evl.ixN_nat (by rw [nV_len]; exact hi2), ?_⟩
      dsimp only
      rw [or_val]
      have e2 : (nV B).set i (V.int ((B.getD i 0 ||| 2 ^ j : Nat) : Int)) = nV (putB B i j) := nV_set B i _
      rw [e2]
      have b2 : But a (upd H a.ul (.lst (nV (putB U i j)))) (upd (upd H a.ul (.lst (nV (putB U i j)))) a.bl (.lst (nV (putB B i j)))) := fun b o h _ h1 => by rw [upd_ne h1]; exact h
      exact k _ (O1.but b2 (by rw [upd_ne O.n1]; exact O1.up) upd_same) (b1.trans b2)
end
end K35

/-! The class Order: its methods that go through all. -/
namespace K35
open PySem PySem.Spec PyProof.Rows L2
theorem for_rng {n : Nat} {g : TG} {tb : TS} {D : Ends} {σ : L2.St} {H : Hp} (Pv : Nat → L2.St → Hp → Prop) (h0 : Pv 0 σ H)
    (hs : ∀ (i : Nat) σ H, i < n → Pv i σ H → g (iV i) σ H fun σ2 H2 => tb { D with nx := Pv (i + 1), ct := Pv (i + 1), bk := D.nx } σ2 H2) (hd : ∀ σ H, Pv n σ H → D.nx σ H) :
    ∃ W : Nat → Nat → L2.St → Hp → Prop, (∃ m, W 0 m σ H) ∧ ∀ i m σ H, W i m σ H →
      ((Itr 0 n).stop i H ∧ D.nx σ H) ∨ ((Itr 0 n).go i H ∧ ∃ N : L2.St → Hp → Prop, (∀ σ' H', N σ' H' → ∃ m', m' < m ∧ W (i + 1) m' σ' H') ∧ ∀ x H', (Itr 0 n).yld i H x H' → g x σ H' fun σ2 H2 => tb { D with nx := N, ct := N, bk := D.nx } σ2 H2) :=
  for_range (lo := 0) Pv h0 (fun i σ H hi p => by
    have q := hs i σ H hi p
    rw [show (0 : Int) + ((i : Nat) : Int) = (i : Int) from Int.zero_add _]
    exact q) hd
theorem lc_rng {n : Nat} {g : TG} {tt : TT} {te : TE} {vs : List Nat} {σ : L2.St} {H1 : Hp} {D : Addr} {Qd : Hp → Prop} (Pv : Nat → Hp → Prop) (h0 : Pv 0 (upd H1 D (.lst [])))
    (hs : ∀ (i : Nat) H, i < n → Pv i H → g (iV i) (wipe σ vs) H fun σ2 H2 => wipe σ2 vs = wipe σ vs ∧ tt σ2 H2 fun b H3 =>
      if b = true then te σ2 H3 fun y H4 => ∃ acc, H4 D = some (.lst acc) ∧ acc.length < sizeLine ∧ Pv (i + 1) (upd H4 D (.lst (acc ++ [y]))) else Pv (i + 1) H3) (hd : ∀ H, Pv n H → Qd H) :
    ∃ W : Nat → Nat → Hp → Prop, (∃ m, W 0 m (upd H1 D (.lst []))) ∧ ∀ i m H, W i m H →
      ((Itr 0 n).stop i H ∧ Qd H) ∨ ((Itr 0 n).go i H ∧ ∃ Nx : Hp → Prop, (∀ H', Nx H' → ∃ m', m' < m ∧ W (i + 1) m' H') ∧ ∀ x H', (Itr 0 n).yld i H x H' → g x (wipe σ vs) H' fun σ2 H2 => wipe σ2 vs = wipe σ vs ∧ tt σ2 H2 fun b H3 =>
        if b = true then te σ2 H3 fun y H4 => ∃ acc, H4 D = some (.lst acc) ∧ acc.length < sizeLine ∧ Nx (upd H4 D (.lst (acc ++ [y]))) else Nx H3) :=
  lc_range (lo := 0) Pv h0 (fun i H hi p => by
    have q := hs i H hi p
    rw [show (0 : Int) + ((i : Nat) : Int) = (i : Int) from Int.zero_add _]
    exact q) hd
theorem ofl_is_upto (a : Oa) : (ofl a).lookup ("is_upto" : Str) = none := ofl_no a (by decide +kernel) (by decide +kernel) (by decide +kernel) (by decide +kernel)
theorem ofl_is_below (a : Oa) : (ofl a).lookup ("is_below" : Str) = none := ofl_no a (by decide +kernel) (by decide +kernel) (by decide +kernel) (by decide +kernel)
theorem ofl_put (a : Oa) : (ofl a).lookup ("put" : Str) = none := ofl_no a (by decide +kernel) (by decide +kernel) (by decide +kernel) (by decide +kernel)
theorem ofl_close (a : Oa) : (ofl a).lookup ("close" : Str) = none := ofl_no a (by decide +kernel) (by decide +kernel) (by decide +kernel) (by decide +kernel)
theorem ofl_with_more (a : Oa) : (ofl a).lookup ("with_more" : Str) = none := ofl_no a (by decide +kernel) (by decide +kernel) (by decide +kernel) (by decide +kernel)
theorem ofl_is_contrary (a : Oa) : (ofl a).lookup ("is_contrary" : Str) = none := ofl_no a (by decide +kernel) (by decide +kernel) (by decide +kernel) (by decide +kernel)
theorem ofl_go_through (a : Oa) : (ofl a).lookup ("go_through" : Str) = none := ofl_no a (by decide +kernel) (by decide +kernel) (by decide +kernel) (by decide +kernel)
theorem ofl_use_rules (a : Oa) : (ofl a).lookup ("use_rules" : Str) = none := ofl_no a (by decide +kernel) (by decide +kernel) (by decide +kernel) (by decide +kernel)
theorem ofl_use_later (a : Oa) : (ofl a).lookup ("use_later" : Str) = none := ofl_no a (by decide +kernel) (by decide +kernel) (by decide +kernel) (by decide +kernel)
theorem ofl_use_sooner (a : Oa) : (ofl a).lookup ("use_sooner" : Str) = none := ofl_no a (by decide +kernel) (by decide +kernel) (by decide +kernel) (by decide +kernel)
theorem lt_line {n : Nat} (h : n ≤ 1000) : n < sizeLine := small1000 h
theorem b62 {n : Nat} (h : n ≤ 1000000) : -(2 ^ 62) ≤ (n : Int) ∧ (n : Int) < 2 ^ 62 := by
  constructor <;> omega
/-- a stretch of work on an order -/
structure Run (K : PySem.W.Frag) (a : Oa) (n : Nat) (rs : List R4) (js : List J4) (C : List Nat → List Nat → Prop) (H : Hp) (U B : List Nat) (H' : Hp) (U' B' : List Nat) : Prop where
  pr : Prog n rs js C U B U' B'
  ob : OrdAt K H' a rs js U' B'
  bu : But a H H'
section
variable {K : PySem.W.Frag} {a : Oa} {n : Nat} {rs : List R4} {js : List J4} {C C1 C2 : List Nat → List Nat → Prop} {H H1 H2 : Hp} {U B U1 B1 U2 B2 : List Nat}
theorem Run.refl (O : OrdAt K H a rs js U B) (w : Wf n U B) (h : C U B) : Run K a n rs js C H U B H U B := ⟨.refl w h, O, .refl a H⟩
theorem Run.comp (x : Run K a n rs js C1 H U B H1 U1 B1) (y : Run K a n rs js C2 H1 U1 B1 H2 U2 B2) : Run K a n rs js (fun U B => C1 U B ∧ C2 U B) H U B H2 U2 B2 := ⟨x.pr.comp y.pr, y.ob, x.bu.trans y.bu⟩
theorem Run.imp (x : Run K a n rs js C1 H U B H1 U1 B1) (h : C1 U B → C2 U B) : Run K a n rs js C2 H U B H1 U1 B1 := ⟨x.pr.imp h, x.ob, x.bu⟩
theorem Run.wf (x : Run K a n rs js C H U B H1 U1 B1) : Wf n U1 B1 := x.pr.wf
end
def spGo (K : PySem.W.Frag) : Sp := fun vs H Q _ => ∃ (a : Oa) (n : Nat) (rs : List R4) (js : List J4) (U B : List Nat), vs = [.ref a.p] ∧ OrdAt K H a rs js U B ∧ Wf n U B ∧ Idx n rs js ∧ n ≤ 60 ∧
  ∀ U' B' H', Run K a n rs js (goA n) H U B H' U' B' → Q .non H'
def spRules (K : PySem.W.Frag) : Sp := fun vs H Q _ => ∃ (a : Oa) (n : Nat) (rs : List R4) (js : List J4) (U B : List Nat), vs = [.ref a.p] ∧ OrdAt K H a rs js U B ∧ Wf n U B ∧ Idx n rs js ∧ n ≤ 60 ∧
  ∀ U' B' H', Run K a n rs js (rulA rs) H U B H' U' B' → Q .non H'
section
variable {P : Program} {w : World} {K : PySem.W.Frag} {mg : Str → Option Value} {base : Heap}
abbrev N_Order_is_contrary : List Str := ["self", "i"]
theorem sc_Order_is_contrary : FnScope N_Order_is_contrary ["self"] (defScope s_Order_is_contrary) := ⟨rfl, rfl, rfl, by decide +kernel, rfl, by decide +kernel, by decide +kernel⟩
theorem m_is_contrary (T : Tx K mg) : C8.Met P w K mg base 2 (He.ga K "Order") "is_contrary" (spContr K) [] :=
  mkMet T fn_Order_is_contrary rfl rfl rfl T.cls_Order T.mt_is_contrary sc_Order_is_contrary (fun _ _ _ _ _ _ us hl => match us, hl with | [_], _ => rfl) (fun vs H Q E h => by obtain ⟨a, rs, js, U, B, rfl, _⟩ := h; rfl) fun f cdv A outer s0 H vs Q E hr h => by
    obtain ⟨a, rs, js, U, B, rfl, O, hB, k⟩ := h
    obtain ⟨dx, hp⟩ := O.ob
    have hl : (nV B).length = B.length := nV_len B
    refine ⟨_, (pss_one (ps_ret (pe_callB (cr_any rfl) (by rfl) T.f_any (by decide +kernel) (pa_cons (pe_lc (own := [("i", 1)]) (g := gName 1) rfl sc_Order_is_contrary.nd (pi_range1 rfl T.f_range (pa_cons (pe_callB call_len_seq (by rfl) T.f_len (by decide +kernel) (pa_cons (pe_fld (pv 0) rfl) pa_nil)) pa_nil)) (blkOk_by (own := [("i", 1)]) (N := N_Order_is_contrary) (sc := defScope s_Order_is_contrary) (by decide +kernel)) (fun _ _ _ _ _ => (pg_name (i := 1) sc_Order_is_contrary.nd rfl (Or.inl rfl))) (fun _ _ _ _ _ => pts_nil) (fun _ _ _ _ _ => (C8.pe_mt (m_is_below T) hr (by decide) (pv 0) (pa_cons (pv 1) (pa_cons (pv 1) pa_nil))))) pa_nil)))), ?_⟩
    refine ⟨_, rfl, a.p, _, dx, _, _, rfl, hp, T.cls_Order, T.no_below, ofl_below a, a.bl, _, rfl, .inl (SqL.of O.be), _, rfl, (b62 (by omega)).1, (b62 (by omega)).2, fun D hD => ?_⟩
    refine lc_rng (n := (nV B).length) (fun i H' => Ex H H' ∧ H' D = some (.lst (((List.range i).map fun j => bt B j j).map V.bl))) ⟨Evl.Ex.new hD, upd_same⟩ (fun i H' hi p => ?_) fun H' p => ?_
    · obtain ⟨e, hd⟩ := p
      have O' := O.ex e
      obtain ⟨dx', hp'⟩ := O'.ob
      refine ⟨rfl, ?_⟩
      refine ⟨_, rfl, a.p, dx', _, rfl, hp', ofl_is_below a, _, rfl, _, rfl, a, rs, js, U, B, i, i, rfl, O', (by omega), _, hd, lt_line (by simp; omega), Evl.Ex.mut e hD, ?_⟩
      rw [List.range_succ, List.map_append, List.map_append]
      exact upd_same
    · obtain ⟨e, hd⟩ := p
      refine ⟨D, _, rfl, SqL.of hd, ?_⟩
      refine k _ H' ?_ e
      rw [List.any_map, List.any_eq_true]
      constructor
      · rintro ⟨i, _, h⟩
        exact ⟨i, h⟩
      · rintro ⟨i, h⟩
        exact ⟨i, List.mem_range.mpr (by rw [hl]; exact bt_row rfl h), h⟩
abbrev N_Order_go_through : List Str := ["self", "k", "i"]
theorem sc_Order_go_through : FnScope N_Order_go_through ["self"] (defScope s_Order_go_through) := ⟨rfl, rfl, rfl, by decide +kernel, rfl, by decide +kernel, by decide +kernel⟩
theorem m_go_through (T : Tx K mg) : C8.Met P w K mg base 2 (He.ga K "Order") "go_through" (spGo K) [] :=
  mkMet T fn_Order_go_through rfl rfl rfl T.cls_Order T.mt_go_through sc_Order_go_through (fun _ _ _ _ _ _ us hl => match us, hl with | [_], _ => rfl) (fun vs H Q E h => by obtain ⟨a, n, rs, js, U, B, rfl, _⟩ := h; rfl) fun f cdv A outer s0 H vs Q E hr h => by
    obtain ⟨a, n, rs, js, U, B, rfl, O, w, x, hn, q⟩ := h
    obtain ⟨dx, hp⟩ := O.ob
    have hl : (nV U).length = n := (nV_len U).trans w.lu
    refine ⟨_, (pss_one (ps_for PassesOwn.never rfl (pi_range1 rfl T.f_range (pa_cons (pe_callB call_len_seq (by rfl) T.f_len (by decide +kernel) (pa_cons (pe_fld (pv 0) rfl) pa_nil)) pa_nil)) (pg_name (i := 1) sc_Order_go_through.nd rfl (Or.inl rfl)) (pss_one (ps_for PassesOwn.never rfl (pi_range1 rfl T.f_range (pa_cons (pe_callB call_len_seq (by rfl) T.f_len (by decide +kernel) (pa_cons (pe_fld (pv 0) rfl) pa_nil)) pa_nil)) (pg_name (i := 2) sc_Order_go_through.nd rfl (Or.inl rfl)) (pss_one (ps_if (pt_val (C8.pe_mt (m_is_upto T) hr (by decide) (pv 0) (pa_cons (pv 2) (pa_cons (pv 1) pa_nil)))) (pss_cons (ps_augS (pe_fld (pv 0) rfl) (pv 2) pget_list (pe_ix ix_list (pe_fld (pv 0) rfl) (pv 1) (fun _ _ => rfl)) iop_or set_list)
            (pss_one (ps_augS (pe_fld (pv 0) rfl) (pv 2) pget_list (pe_ifExp (pt_val (C8.pe_mt (m_is_below T) hr (by decide) (pv 0) (pa_cons (pv 2) (pa_cons (pv 1) pa_nil)))) (pe_ix ix_list (pe_fld (pv 0) rfl) (pv 1) (fun _ _ => rfl)) (pe_ix ix_list (pe_fld (pv 0) rfl) (pv 1) (fun _ _ => rfl))) iop_or set_list))) pss_nil)))))), ?_⟩
    refine ⟨_, rfl, a.p, _, dx, _, _, rfl, hp, T.cls_Order, T.no_upto, ofl_upto a, a.ul, _, rfl, .inl (SqL.of O.up), _, rfl, (b62 (by omega)).1, (b62 (by omega)).2, ?_⟩
    refine for_rng (n := (nV U).length) (fun k σ H' => ∃ U' B' v1 v2, σ = [some (.ref a.p), v1, v2] ∧ Run K a n rs js (fun U B => ∀ k', k' < k → ∀ i, i < n → goC i k' U B) H U B H' U' B')
      ⟨U, B, none, none, rfl, .refl O w fun k' h => absurd h (Nat.not_lt_zero _)⟩ ?_ fun σ H' ⟨U', B', v1, v2, _, R⟩ => q U' B' H' (R.imp fun h k hk => h k (by omega))
    rintro k σ H1 hk ⟨U1, B1, v1, v2, rfl, R1⟩
    have hk : k < n := by omega
    obtain ⟨dx1, hp1⟩ := R1.ob.ob
    have hl1 : (nV U1).length = n := (nV_len U1).trans R1.wf.lu
    refine ⟨_, rfl, a.p, _, dx1, _, _, rfl, hp1, T.cls_Order, T.no_upto, ofl_upto a, a.ul, _, rfl, .inl (SqL.of R1.ob.up), _, rfl, (b62 (by omega)).1, (b62 (by omega)).2, ?_⟩
    refine for_rng (n := (nV U1).length) (fun i σ H' => ∃ U' B' v2, σ = [some (.ref a.p), some (iV k), v2] ∧ Run K a n rs js (fun U B => (∀ k', k' < k → ∀ i, i < n → goC i k' U B) ∧ ∀ i', i' < i → goC i' k U B) H U B H' U' B')
      ⟨U1, B1, v2, rfl, R1.imp fun h => ⟨h, fun i' h => absurd h (Nat.not_lt_zero _)⟩⟩ ?_ fun σ H' ⟨U', B', v2, e, R⟩ => ⟨U', B', _, v2, e, R.imp fun h k' hk' i hi => by
        by_cases e : k' = k
        · rw [e]; exact h.2 i (by omega)
        · exact h.1 k' (by omega) i hi⟩
    rintro i σ H2 hi ⟨U2, B2, v2, rfl, R2⟩
    have hi : i < n := by omega
    have hi2 : i < U2.length := by rw [R2.wf.lu]; exact hi
    have hk2 : k < U2.length := by rw [R2.wf.lu]; exact hk
    have hib : i < B2.length := by rw [R2.wf.lb]; exact hi
    have hkb : k < B2.length := by rw [R2.wf.lb]; exact hk
    obtain ⟨dx2, hp2⟩ := R2.ob.ob
    have fin : ∀ {U3 B3 : List Nat} {H3 : Hp}, Run K a n rs js (goC i k) H2 U2 B2 H3 U3 B3 → ∃ U' B' v2, ([some (.ref a.p), some (iV k), some (iV i)] : L2.St) = [some (.ref a.p), some (iV k), v2] ∧ Run K a n rs js (fun U B => (∀ k', k' < k → ∀ i, i < n → goC i k' U B) ∧ ∀ i', i' < i + 1 → goC i' k U B) H U B H3 U' B' :=
      fun {U3 B3 H3} r => ⟨U3, B3, _, rfl, (R2.comp r).imp fun h => ⟨h.1.1, fun i' hi' => by
        by_cases e : i' = i
        · rw [e]; exact h.2
        · exact h.1.2 i' (by omega)⟩⟩
    refine ⟨_, rfl, a.p, dx2, _, rfl, hp2, ofl_is_upto a, _, rfl, _, rfl, a, rs, js, U2, B2, i, k, rfl, R2.ob, hi2, _, rfl, ?_⟩
    cases hb : bt U2 i k with
    | false => exact iteF (fin ⟨.no R2.wf hb, R2.ob, .refl a H2⟩)
    | true =>
      refine iteT ?_
      -- self.upto[i] |= self.upto[k]
      refine ⟨_, rfl, a.p, _, dx2, _, _, rfl, hp2, T.cls_Order, T.no_upto, ofl_upto a, _, rfl, a.ul, _, _, _, rfl, rfl, SqL.of R2.ob.up, atI_nat (nV_at hi2),
        _, rfl, a.p, _, dx2, _, _, rfl, hp2, T.cls_Order, T.no_upto, ofl_upto a, _, rfl, a.ul, _, _, _, rfl, rfl, SqL.of R2.ob.up, atI_nat (nV_at hk2), _, _, rfl, rfl, a.ul, _, _, i, rfl, rfl, R2.ob.up, Evl.ixN_nat (by rw [nV_len]; exact hi2), ?_⟩
      dsimp only
      have e1 : Builtin.bitOr ((U2.getD i 0 : Nat) : Int) ((U2.getD k 0 : Nat) : Int) = ((U2.getD i 0 ||| U2.getD k 0 : Nat) : Int) := by
        rw [Bits.bitOr_pp (Int.natCast_nonneg _) (Int.natCast_nonneg _)]
        rfl
      have e2 : (nV U2).set i (V.int ((U2.getD i 0 ||| U2.getD k 0 : Nat) : Int)) = nV (orB U2 i (U2.getD k 0)) := nV_set U2 i _
      rw [e1, e2]
      have b1 : But a H2 (upd H2 a.ul (.lst (nV (orB U2 i (U2.getD k 0))))) := fun b o h h1 _ => by rw [upd_ne h1]; exact h
      have O1 : OrdAt K (upd H2 a.ul (.lst (nV (orB U2 i (U2.getD k 0))))) a rs js (orB U2 i (U2.getD k 0)) B2 := R2.ob.but b1 upd_same (by rw [upd_ne R2.ob.n1.symm]; exact R2.ob.be)
      obtain ⟨dx3, hp3⟩ := O1.ob
      have hk3 : k < (orB U2 i (U2.getD k 0)).length := by rw [orB_len]; exact hk2
      -- self.below[i] |= ..
      refine ⟨_, rfl, a.p, _, dx3, _, _, rfl, hp3, T.cls_Order, T.no_below, ofl_below a, _, rfl, a.bl, _, _, _, rfl, rfl, SqL.of O1.be, atI_nat (nV_at hib),
        _, rfl, a.p, dx3, _, rfl, hp3, ofl_is_below a, _, rfl, _, rfl, a, rs, js, _, B2, i, k, rfl, O1, hib, _, rfl, ?_⟩
      have last : ∀ y : Nat, y = (if bt B2 i k = true then U2.getD k 0 else B2.getD k 0) → ∃ U' B' v2, ([some (.ref a.p), some (iV k), some (iV i)] : L2.St) = [some (.ref a.p), some (iV k), v2] ∧ Run K a n rs js (fun U B => (∀ k', k' < k → ∀ i, i < n → goC i k' U B) ∧ ∀ i', i' < i + 1 → goC i' k U B) H U B
          (upd (upd H2 a.ul (.lst (nV (orB U2 i (U2.getD k 0))))) a.bl (.lst ((nV B2).set i (V.int (Builtin.bitOr ((B2.getD i 0 : Nat) : Int) ((y : Nat) : Int)))))) U' B' := fun y ey => by
        have e3 : Builtin.bitOr ((B2.getD i 0 : Nat) : Int) ((y : Nat) : Int) = ((B2.getD i 0 ||| y : Nat) : Int) := by
          rw [Bits.bitOr_pp (Int.natCast_nonneg _) (Int.natCast_nonneg _)]
          rfl
        have e4 : (nV B2).set i (V.int ((B2.getD i 0 ||| y : Nat) : Int)) = nV (orB B2 i y) := nV_set B2 i _
        rw [e3, e4, ey]
        have b2 : But a (upd H2 a.ul (.lst (nV (orB U2 i (U2.getD k 0))))) (upd (upd H2 a.ul (.lst (nV (orB U2 i (U2.getD k 0))))) a.bl (.lst (nV (orB B2 i (if bt B2 i k = true then U2.getD k 0 else B2.getD k 0))))) := fun b o h _ h1 => by rw [upd_ne h1]; exact h
        exact fin ⟨.go R2.wf hi hk hb, O1.but b2 (by rw [upd_ne R2.ob.n1]; exact O1.up) upd_same, b1.trans b2⟩
      cases hb2 : bt B2 i k with
      | true =>
        refine iteT ?_
        refine ⟨_, rfl, a.p, _, dx3, _, _, rfl, hp3, T.cls_Order, T.no_upto, ofl_upto a, _, rfl, a.ul, _, _, _, rfl, rfl, SqL.of O1.up, atI_nat (nV_at hk3), _, _, rfl, rfl, a.bl, _, _, i, rfl, rfl, O1.be, Evl.ixN_nat (by rw [nV_len]; exact hib), ?_⟩
        exact last _ (by rw [hb2, if_pos rfl]; exact orB_self hi2)
      | false =>
        refine iteF ?_
        refine ⟨_, rfl, a.p, _, dx3, _, _, rfl, hp3, T.cls_Order, T.no_below, ofl_below a, _, rfl, a.bl, _, _, _, rfl, rfl, SqL.of O1.be, atI_nat (nV_at hkb), _, _, rfl, rfl, a.bl, _, _, i, rfl, rfl, O1.be, Evl.ixN_nat (by rw [nV_len]; exact hib), ?_⟩
        exact last _ (by rw [hb2, if_neg (by decide)])
abbrev N_Order_use_rules : List Str := ["self", "i", "j", "k", "l"]
theorem sc_Order_use_rules : FnScope N_Order_use_rules ["self"] (defScope s_Order_use_rules) := ⟨rfl, rfl, rfl, by decide +kernel, rfl, by decide +kernel, by decide +kernel⟩
theorem m_use_rules (T : Tx K mg) : C8.Met P w K mg base 2 (He.ga K "Order") "use_rules" (spRules K) [] :=
  mkMet T fn_Order_use_rules rfl rfl rfl T.cls_Order T.mt_use_rules sc_Order_use_rules (fun _ _ _ _ _ _ us hl => match us, hl with | [_], _ => rfl) (fun vs H Q E h => by obtain ⟨a, n, rs, js, U, B, rfl, _⟩ := h; rfl) fun f cdv A outer s0 H vs Q E hr h => by
    obtain ⟨a, n, rs, js, U, B, rfl, O, w, x, hn, q⟩ := h
    obtain ⟨dx, hp⟩ := O.ob
    obtain ⟨ts, r1, r2, r3⟩ := id O.ru
    refine ⟨_, (pss_one (ps_for PassesOwn.never rfl (pi_list (pe_fld (pv 0) rfl)) (pg_tup rfl (pgs_cons (pg_name (i := 1) sc_Order_use_rules.nd rfl (Or.inl rfl)) (pgs_cons (pg_name (i := 2) sc_Order_use_rules.nd rfl (Or.inl rfl)) (pgs_cons (pg_name (i := 3) sc_Order_use_rules.nd rfl (Or.inl rfl)) (pgs_cons (pg_name (i := 4) sc_Order_use_rules.nd rfl (Or.inl rfl)) pgs_nil))))) (pss_cons (ps_if (pt_val (C8.pe_mt (m_is_upto T) hr (by decide) (pv 0) (pa_cons (pv 1) (pa_cons (pv 2) pa_nil)))) (pss_one (ps_expr (C8.pe_mt (m_put T) hr (by decide) (pv 0) (pa_cons (pv 3) (pa_cons (pv 4) (pa_cons pe_bl pa_nil)))))) pss_nil)
        (pss_one (ps_if (pt_val (C8.pe_mt (m_is_below T) hr (by decide) (pv 0) (pa_cons (pv 4) (pa_cons (pv 3) pa_nil)))) (pss_one (ps_expr (C8.pe_mt (m_put T) hr (by decide) (pv 0) (pa_cons (pv 2) (pa_cons (pv 1) (pa_cons pe_bl pa_nil)))))) pss_nil))))), ?_⟩
    have keep : ∀ {C : List Nat → List Nat → Prop} {H' : Hp} {U' B' : List Nat}, Run K a n rs js C H U B H' U' B' → SqL K H' a.rl (ts.map V.ref) := fun R => SqL.of (R.bu _ _ r1 O.n2 O.n3)
    refine ⟨_, rfl, a.p, _, dx, _, _, rfl, hp, T.cls_Order, T.no_rules, ofl_rules a, a.rl, rfl, ⟨_, SqL.of r1⟩, ?_⟩
    refine for_list (K := K) (a := a.rl) (xs := ts.map V.ref) (fun m σ H' => ∃ U' B' v1 v2 v3 v4, σ = [some (.ref a.p), v1, v2, v3, v4] ∧ Run K a n rs js (fun U B => ∀ i r, i < m → rs[i]? = some r → rulC r U B) H U B H' U' B')
      ⟨U, B, none, none, none, none, rfl, .refl O w fun i r h => absurd h (Nat.not_lt_zero _)⟩ (fun m σ H' _ ⟨_, _, _, _, _, _, _, R⟩ => keep R) ?_ fun σ H' ⟨U', B', _, _, _, _, _, R⟩ => q U' B' H' (R.imp fun h r hr => by
        obtain ⟨i, hi, e⟩ := List.getElem_of_mem hr
        exact h i r (by rw [List.length_map, r2]; exact hi) (by rw [List.getElem?_eq_getElem hi, e]))
    rintro m y σ H1 hm ⟨U1, B1, v1, v2, v3, v4, rfl, R1⟩
    rw [List.getElem?_map] at hm
    obtain ⟨t, ht, rfl⟩ := Option.map_eq_some_iff.mp hm
    have hml : m < rs.length := by rw [← r2]; exact (List.getElem?_eq_some_iff.mp ht).1
    obtain ⟨r, hr0⟩ : ∃ r, rs[m]? = some r := ⟨rs[m], List.getElem?_eq_getElem hml⟩
    have hrm : r ∈ rs := List.mem_of_getElem? hr0
    have ht0 := r3 m t r ht hr0
    have ht1 : H1 t = some (.tup (r4V r)) := R1.bu _ _ ht0 (ne_of ht0 O.up (fun z => nomatch z)) (ne_of ht0 O.be (fun z => nomatch z))
    obtain ⟨i, j, k, l⟩ := r
    have ix := x.1 _ hrm
    refine ⟨t, _, rfl, SqT.of ht1, rfl, _, _, rfl, _, _, rfl, _, _, rfl, _, _, rfl, rfl, ?_⟩
    obtain ⟨dx1, hp1⟩ := R1.ob.ob
    have second : ∀ {U2 B2 : List Nat} {H2 : Hp}, Run K a n rs js (fun U B => bt U i j = true → bt U k l = true) H1 U1 B1 H2 U2 B2 →
        tIfS (tB (tMeth (He.ga K "Order") "is_below" (spGetB K) [] E0 (tVar 0) (tCons (tVar 4) (tCons (tVar 3) tNil)))) (tDrop (tMeth (He.ga K "Order") "put" (spPut K) [] E0 (tVar 0) (tCons (tVar 2) (tCons (tVar 1) (tCons (tC (.bl true)) tNil))))) tNext
          { nx := fun σ H' => ∃ U' B' v1 v2 v3 v4, σ = [some (.ref a.p), v1, v2, v3, v4] ∧ Run K a n rs js (fun U B => ∀ i r, i < m + 1 → rs[i]? = some r → rulC r U B) H U B H' U' B', rt := Q, ct := fun σ H' => ∃ U' B' v1 v2 v3 v4, σ = [some (.ref a.p), v1, v2, v3, v4] ∧ Run K a n rs js (fun U B => ∀ i r, i < m + 1 → rs[i]? = some r → rulC r U B) H U B H' U' B', bk := fun _ H' => Q .non H' }
          [some (.ref a.p), some (iV i), some (iV j), some (iV k), some (iV l)] H2 := fun {U2 B2 H2} R2 => by
      obtain ⟨dx2, hp2⟩ := R2.ob.ob
      have fin : ∀ {U3 B3 : List Nat} {H3 : Hp}, Run K a n rs js (fun U B => bt B l k = true → bt B j i = true) H2 U2 B2 H3 U3 B3 → ∃ U' B' v1 v2 v3 v4, ([some (.ref a.p), some (iV i), some (iV j), some (iV k), some (iV l)] : L2.St) = [some (.ref a.p), v1, v2, v3, v4] ∧ Run K a n rs js (fun U B => ∀ i r, i < m + 1 → rs[i]? = some r → rulC r U B) H U B H3 U' B' :=
        fun {U3 B3 H3} R3 => ⟨U3, B3, _, _, _, _, rfl, ((R1.comp R2).comp R3).imp fun h i' r' hi' hr' => by
          by_cases e : i' = m
          · rw [e, hr0] at hr'
            cases hr'
            exact ⟨h.1.2, h.2⟩
          · exact h.1.1 i' r' (by omega) hr'⟩
      refine ⟨_, rfl, a.p, dx2, _, rfl, hp2, ofl_is_below a, _, rfl, _, rfl, a, rs, js, U2, B2, l, k, rfl, R2.ob, by rw [R2.wf.lb]; exact ix.2.2.2, _, rfl, ?_⟩
      cases hb : bt B2 l k with
      | false => exact iteF (fin (.refl R2.ob R2.wf fun z => by rw [hb] at z; cases z))
      | true =>
        refine iteT ?_
        refine ⟨_, rfl, a.p, dx2, _, rfl, hp2, ofl_put a, _, rfl, _, rfl, a, rs, js, U2, B2, j, i, true, rfl, R2.ob, by rw [R2.wf.lu]; exact ix.2.1, by rw [R2.wf.lb]; exact ix.2.1, by have := ix.1; simp only at this; omega, fun H3 O3 b3 => ?_⟩
        exact fin ⟨.rule2 x R2.wf hrm hb, O3, b3⟩
    refine ⟨_, rfl, a.p, dx1, _, rfl, hp1, ofl_is_upto a, _, rfl, _, rfl, a, rs, js, U1, B1, i, j, rfl, R1.ob, by rw [R1.wf.lu]; exact ix.1, _, rfl, ?_⟩
    cases hb : bt U1 i j with
    | false => exact iteF (second (.refl R1.ob R1.wf fun z => by rw [hb] at z; cases z))
    | true =>
      refine iteT ?_
      refine ⟨_, rfl, a.p, dx1, _, rfl, hp1, ofl_put a, _, rfl, _, rfl, a, rs, js, U1, B1, k, l, false, rfl, R1.ob, by rw [R1.wf.lu]; exact ix.2.2.1, by rw [R1.wf.lb]; exact ix.2.2.1, by have := ix.2.2.2; simp only at this; omega, fun H3 O3 b3 => ?_⟩
      exact second ⟨.rule1 x R1.wf hrm hb, O3, b3⟩
end
end K35

/-! The class Order: later and sooner. -/
namespace K35
open PySem PySem.Spec PyProof.Rows L2
abbrev cUp (K : PySem.W.Frag) (s x y : Nat) : TT := tB (tMeth (He.ga K "Order") "is_upto" (spGetU K) [] E0 (tVar s) (tCons (tVar x) (tCons (tVar y) tNil)))
abbrev vBe (K : PySem.W.Frag) (s x y : Nat) : TE := tMeth (He.ga K "Order") "is_below" (spGetB K) [] E0 (tVar s) (tCons (tVar x) (tCons (tVar y) tNil))
abbrev cBe (K : PySem.W.Frag) (s x y : Nat) : TT := tB (vBe K s x y)
abbrev sPt (K : PySem.W.Frag) (s x y : Nat) (te : TE) : TS := tDrop (tMeth (He.ga K "Order") "put" (spPut K) [] E0 (tVar s) (tCons (tVar x) (tCons (tVar y) (tCons te tNil))))
section
variable {K : PySem.W.Frag} {a : Oa} {rs : List R4} {js : List J4} {U B : List Nat} {σ : L2.St} {H : Hp} {D : Ends}
theorem rd_upto (O : OrdAt K H a rs js U B) {s x y i j : Nat} (h0 : σ[s]? = some (some (.ref a.p))) (h1 : σ[x]? = some (some (iV i))) (h2 : σ[y]? = some (some (iV j))) (hl : i < U.length) : ∀ Q : Bool → Hp → Prop, Q (bt U i j) H → cUp K s x y σ H Q := fun Q q => by
  obtain ⟨dx, hp⟩ := O.ob
  exact ⟨_, h0, a.p, dx, _, rfl, hp, ofl_is_upto a, _, h1, _, h2, a, rs, js, U, B, i, j, rfl, O, hl, _, rfl, q⟩
theorem rv_below (O : OrdAt K H a rs js U B) {s x y i j : Nat} (h0 : σ[s]? = some (some (.ref a.p))) (h1 : σ[x]? = some (some (iV i))) (h2 : σ[y]? = some (some (iV j))) (hl : i < B.length) {Q : VK} (q : Q (.bl (bt B i j)) H) : vBe K s x y σ H Q := by
  obtain ⟨dx, hp⟩ := O.ob
  exact ⟨_, h0, a.p, dx, _, rfl, hp, ofl_is_below a, _, h1, _, h2, a, rs, js, U, B, i, j, rfl, O, hl, q⟩
theorem rd_below (O : OrdAt K H a rs js U B) {s x y i j : Nat} (h0 : σ[s]? = some (some (.ref a.p))) (h1 : σ[x]? = some (some (iV i))) (h2 : σ[y]? = some (some (iV j))) (hl : i < B.length) : ∀ Q : Bool → Hp → Prop, Q (bt B i j) H → cBe K s x y σ H Q := fun Q q =>
  rv_below O h0 h1 h2 hl ⟨_, rfl, q⟩
theorem rd_two {t1 t2 : TT} {b1 b2 : Bool} (h1 : ∀ Q : Bool → Hp → Prop, Q b1 H → t1 σ H Q) (h2 : ∀ Q : Bool → Hp → Prop, Q b2 H → t2 σ H Q) {ts : TS} (yes : b1 = true → b2 = true → ts D σ H) (no : (b1 = true → b2 = true → False) → D.nx σ H) : tIfS (tAnd t1 t2) ts tNext D σ H := by
  refine h1 _ ?_
  cases b1 with
  | false => exact no fun z => (by cases z)
  | true =>
    refine h2 _ ?_
    cases b2 with
    | false => exact no fun _ z => (by cases z)
    | true => exact yes rfl rfl
theorem rd_put (O : OrdAt K H a rs js U B) {s0 x y i j : Nat} {s : Bool} {te : TE} (h0 : σ[s0]? = some (some (.ref a.p))) (h1 : σ[x]? = some (some (iV i))) (h2 : σ[y]? = some (some (iV j))) (ht : ∀ Q : VK, Q (.bl s) H → te σ H Q) (l1 : i < U.length) (l2 : i < B.length) (l3 : j ≤ 1000000)
    (k : ∀ H', OrdAt K H' a rs js (putB U i j) (putS B i j s) → But a H H' → D.nx σ H') : sPt K s0 x y te D σ H := by
  obtain ⟨dx, hp⟩ := O.ob
  refine ⟨_, h0, a.p, dx, _, rfl, hp, ofl_put a, _, h1, _, h2, ht _ ?_⟩
  exact ⟨a, rs, js, U, B, i, j, s, rfl, O, l1, l2, l3, k⟩
end
def spJnt (K : PySem.W.Frag) (b : Bool) : Sp := fun vs H Q _ => ∃ (a : Oa) (n : Nat) (rs : List R4) (js : List J4) (U B : List Nat) (i j k : Nat), vs = [.ref a.p, iV i, iV j, iV k] ∧ OrdAt K H a rs js U B ∧ Wf n U B ∧ Idx n rs js ∧ n ≤ 60 ∧ (b, i, j, k) ∈ js ∧
  ∀ U' B' H', Run K a n rs js (jntC n (b, i, j, k)) H U B H' U' B' → Q .non H'
section
variable {P : Program} {w : World} {K : PySem.W.Frag} {mg : Str → Option Value} {base : Heap}

abbrev N_Order_use_later : List Str := ["self", "i", "j", "k", "h", "one", "other"]
theorem sc_Order_use_later : FnScope N_Order_use_later ["self", "i", "j", "k"] (defScope s_Order_use_later) := ⟨rfl, rfl, rfl, by decide +kernel, rfl, by decide +kernel, by decide +kernel⟩
theorem m_use_later (T : Tx K mg) : C8.Met P w K mg base 2 (He.ga K "Order") "use_later" (spJnt K true) [] :=
  mkMet T fn_Order_use_later rfl rfl rfl T.cls_Order T.mt_use_later sc_Order_use_later (fun _ _ _ _ _ _ us hl => match us, hl with | [_, _, _, _], _ => rfl) (fun vs H Q E h => by obtain ⟨a, n, rs, js, U, B, i, j, k, rfl, _⟩ := h; rfl) fun f cdv A outer s0 H vs Q E hr h => by
    obtain ⟨a, n, rs, js, U, B, i, j, k, rfl, O, w, x, hn, hq, q⟩ := h
    obtain ⟨dx, hp⟩ := O.ob
    have hl : (nV U).length = n := (nV_len U).trans w.lu
    obtain ⟨hi, hj, hk⟩ := x.2 _ hq
    simp only at hi hj hk
    refine ⟨_, (pss_one (ps_for PassesOwn.never rfl (pi_range1 rfl T.f_range (pa_cons (pe_callB call_len_seq (by rfl) T.f_len (by decide +kernel) (pa_cons (pe_fld (pv 0) rfl) pa_nil)) pa_nil)) (pg_name (i := 4) sc_Order_use_later.nd rfl (Or.inl rfl)) (pss_cons (ps_if (PW.pt (pw_and (pt_val (C8.pe_mt (m_is_upto T) hr (by decide) (pv 0) (pa_cons (pv 1) (pa_cons (pv 4) pa_nil)))) (pw_and1 (pt_val (C8.pe_mt (m_is_upto T) hr (by decide) (pv 0) (pa_cons (pv 2) (pa_cons (pv 4) pa_nil))))))) (pss_one (ps_expr (C8.pe_mt (m_put T) hr (by decide) (pv 0) (pa_cons (pv 3) (pa_cons (pv 4) (pa_cons (pe_and (C8.pe_mt (m_is_below T) hr (by decide) (pv 0) (pa_cons (pv 1) (pa_cons (pv 4) pa_nil))) (pe_one (C8.pe_mt (m_is_below T) hr (by decide) (pv 0) (pa_cons (pv 2) (pa_cons (pv 4) pa_nil))))) pa_nil)))))) pss_nil)
        (pss_one (ps_for PassesOwn.never rfl (pi_tup (pe_tup (pa_cons (pe_tup (pa_cons (pv 1) (pa_cons (pv 2) pa_nil))) (pa_cons (pe_tup (pa_cons (pv 2) (pa_cons (pv 1) pa_nil))) pa_nil)))) (pg_tup rfl (pgs_cons (pg_name (i := 5) sc_Order_use_later.nd rfl (Or.inl rfl)) (pgs_cons (pg_name (i := 6) sc_Order_use_later.nd rfl (Or.inl rfl)) pgs_nil))) (pss_cons (ps_if (PW.pt (pw_and (pt_val (C8.pe_mt (m_is_below T) hr (by decide) (pv 0) (pa_cons (pv 5) (pa_cons (pv 4) pa_nil)))) (pw_and1 (pt_val (C8.pe_mt (m_is_upto T) hr (by decide) (pv 0) (pa_cons (pv 4) (pa_cons (pv 3) pa_nil))))))) (pss_one (ps_expr (C8.pe_mt (m_put T) hr (by decide) (pv 0) (pa_cons (pv 4) (pa_cons (pv 6) (pa_cons pe_bl pa_nil)))))) pss_nil)
          (pss_one (ps_if (PW.pt (pw_and (pt_val (C8.pe_mt (m_is_upto T) hr (by decide) (pv 0) (pa_cons (pv 5) (pa_cons (pv 4) pa_nil)))) (pw_and1 (pt_val (C8.pe_mt (m_is_below T) hr (by decide) (pv 0) (pa_cons (pv 4) (pa_cons (pv 3) pa_nil))))))) (pss_one (ps_expr (C8.pe_mt (m_put T) hr (by decide) (pv 0) (pa_cons (pv 4) (pa_cons (pv 6) (pa_cons pe_bl pa_nil)))))) pss_nil)))))))), ?_⟩
    refine ⟨_, rfl, a.p, _, dx, _, _, rfl, hp, T.cls_Order, T.no_upto, ofl_upto a, a.ul, _, rfl, .inl (SqL.of O.up), _, rfl, (b62 (by omega)).1, (b62 (by omega)).2, ?_⟩
    refine for_rng (n := (nV U).length) (fun h σ H' => ∃ U' B' v1 v2 v3, σ = [some (.ref a.p), some (iV i), some (iV j), some (iV k), v1, v2, v3] ∧ Run K a n rs js (fun U B => ∀ h', h' < h → latC i j k h' U B) H U B H' U' B')
      ⟨U, B, none, none, none, rfl, .refl O w fun k' h => absurd h (Nat.not_lt_zero _)⟩ ?_ fun σ H' ⟨U', B', _, _, _, _, R⟩ => q U' B' H' (R.imp fun z h hh => by
        show if true = true then latC i j k h _ _ else sonC i j k h _ _
        exact z h (by omega))
    rintro h σ H1 hh ⟨U1, B1, v1, v2, v3, rfl, R1⟩
    have hh : h < n := by omega
    have wl : ∀ {U' B' : List Nat}, Wf n U' B' → ∀ m, m < n → m < U'.length ∧ m < B'.length := fun w' m hm => by rw [w'.lu, w'.lb]; exact ⟨hm, hm⟩
    have h1000 : ∀ m, m < n → m ≤ 1000000 := fun m hm => by omega
    -- the two of the joint, in either order
    have two : ∀ (o o' : Nat) {U2 B2 : List Nat} {H2 : Hp} (D : Ends), Two js true o o' k → OrdAt K H2 a rs js U2 B2 → Wf n U2 B2 → (∀ U' B' H', Run K a n rs js (fun _ _ => True) H2 U2 B2 H' U' B' → D.nx [some (.ref a.p), some (iV i), some (iV j), some (iV k), some (iV h), some (iV o), some (iV o')] H') →
        tSeq (tIfS (tAnd (cBe K 0 5 4) (cUp K 0 4 3)) (sPt K 0 4 6 (tC (.bl false))) tNext) (tIfS (tAnd (cUp K 0 5 4) (cBe K 0 4 3)) (sPt K 0 4 6 (tC (.bl true))) tNext) D
          [some (.ref a.p), some (iV i), some (iV j), some (iV k), some (iV h), some (iV o), some (iV o')] H2 := fun o o' {U2 B2 H2} D ht O2 w2 fin => by
      have ho : o < n := by
        rcases ht with z | z
        · exact (x.2 _ z).1
        · exact (x.2 _ z).2.1
      have ho' : o' < n := by
        rcases ht with z | z
        · exact (x.2 _ z).2.1
        · exact (x.2 _ z).1
      have second : ∀ {U3 B3 : List Nat} {H3 : Hp}, Run K a n rs js (fun _ _ => True) H2 U2 B2 H3 U3 B3 → tIfS (tAnd (cUp K 0 5 4) (cBe K 0 4 3)) (sPt K 0 4 6 (tC (.bl true))) tNext D
          [some (.ref a.p), some (iV i), some (iV j), some (iV k), some (iV h), some (iV o), some (iV o')] H3 := fun {U3 B3 H3} R3 => by
        refine rd_two (rd_upto R3.ob rfl rfl rfl (wl R3.wf _ ho).1) (rd_below R3.ob rfl rfl rfl (wl R3.wf _ hh).2) (fun b1 b2 => ?_) fun _ => fin _ _ _ R3
        exact rd_put R3.ob rfl rfl rfl (fun Q q => q) (wl R3.wf _ hh).1 (wl R3.wf _ hh).2 (h1000 _ ho') fun H4 O4 b4 => fin _ _ _ ((R3.comp ⟨.lat3 x R3.wf ht hh b1 b2, O4, b4⟩).imp fun _ => trivial)
      show tIfS _ _ _ { D with nx := _ } _ _
      refine rd_two (rd_below O2 rfl rfl rfl (wl w2 _ ho).2) (rd_upto O2 rfl rfl rfl (wl w2 _ hh).1) (fun b1 b2 => ?_) fun _ => second (.refl O2 w2 trivial)
      exact rd_put O2 rfl rfl rfl (fun Q q => q) (wl w2 _ hh).1 (wl w2 _ hh).2 (h1000 _ ho') fun H4 O4 b4 => second ⟨.lat2 x w2 ht hh b1 b2, O4, b4⟩
    have loop : ∀ {U2 B2 : List Nat} {H2 : Hp}, Run K a n rs js (fun U B => latC i j k h U B) H1 U1 B1 H2 U2 B2 →
        tFor (iTup K (tTup (tCons (tTup (tCons (tVar 1) (tCons (tVar 2) tNil))) (tCons (tTup (tCons (tVar 2) (tCons (tVar 1) tNil))) tNil)))) (gTup K 2 (gCons (gName 5) (gCons (gName 6) gNil)))
          (tSeq (tIfS (tAnd (cBe K 0 5 4) (cUp K 0 4 3)) (sPt K 0 4 6 (tC (.bl false))) tNext) (tIfS (tAnd (cUp K 0 5 4) (cBe K 0 4 3)) (sPt K 0 4 6 (tC (.bl true))) tNext))
          { nx := fun σ H' => ∃ U' B' v1 v2 v3, σ = [some (.ref a.p), some (iV i), some (iV j), some (iV k), v1, v2, v3] ∧ Run K a n rs js (fun U B => ∀ h', h' < h + 1 → latC i j k h' U B) H U B H' U' B', rt := Q,
            ct := fun σ H' => ∃ U' B' v1 v2 v3, σ = [some (.ref a.p), some (iV i), some (iV j), some (iV k), v1, v2, v3] ∧ Run K a n rs js (fun U B => ∀ h', h' < h + 1 → latC i j k h' U B) H U B H' U' B', bk := fun _ H' => Q .non H' }
          [some (.ref a.p), some (iV i), some (iV j), some (iV k), some (iV h), v2, v3] H2 := fun {U2 B2 H2} R2 => by
      refine ⟨_, rfl, _, rfl, by show 2 ≤ sizeLine; decide, fun t1 n1 => ?_⟩
      refine ⟨_, rfl, _, rfl, by show 2 ≤ sizeLine; decide, fun t2 n2 => ?_⟩
      refine ⟨by show 2 ≤ sizeLine; decide, fun t3 n3 => ?_⟩
      have n2' : (upd H2 t1 (.tup [iV i, iV j])) t2 = none := n2
      have e1 : Ex H2 (upd H2 t1 (.tup [iV i, iV j])) := Evl.Ex.new n1
      have e2 : Ex (upd H2 t1 (.tup [iV i, iV j])) (upd (upd H2 t1 (.tup [iV i, iV j])) t2 (.tup [iV j, iV i])) := Evl.Ex.new n2
      have e3 : Ex (upd (upd H2 t1 (.tup [iV i, iV j])) t2 (.tup [iV j, iV i])) (upd (upd (upd H2 t1 (.tup [iV i, iV j])) t2 (.tup [iV j, iV i])) t3 (.tup [.ref t1, .ref t2])) := Evl.Ex.new n3
      have e13 := (e1.trans e2).trans e3
      generalize hH3 : upd (upd (upd H2 t1 (.tup [iV i, iV j])) t2 (.tup [iV j, iV i])) t3 (.tup [.ref t1, .ref t2]) = H3 at e3 e13
      have k1 : H3 t1 = some (.tup [iV i, iV j]) := e3 _ _ (e2 _ _ upd_same)
      have k2 : H3 t2 = some (.tup [iV j, iV i]) := e3 _ _ upd_same
      have k3 : H3 t3 = some (.tup [.ref t1, .ref t2]) := by rw [← hH3]; exact upd_same
      have O3 : OrdAt K H3 a rs js U2 B2 := R2.ob.ex e13
      have nt : ∀ t vs, H3 t = some (.tup vs) → ∀ {H' : Hp}, But a H3 H' → H' t = some (.tup vs) := fun t vs h H' b => b _ _ h (ne_of h O3.up (fun z => nomatch z)) (ne_of h O3.be (fun z => nomatch z))
      refine ⟨t3, rfl, ⟨_, SqT.of k3⟩, ?_⟩
      refine for_tup (K := K) (a := t3) (xs := [.ref t1, .ref t2]) (fun m σ H' => ∃ U' B' v2 v3, σ = [some (.ref a.p), some (iV i), some (iV j), some (iV k), some (iV h), v2, v3] ∧ Run K a n rs js (fun _ _ => True) H3 U2 B2 H' U' B')
        ⟨U2, B2, v2, v3, rfl, .refl O3 R2.wf trivial⟩ (fun m σ H' _ ⟨_, _, _, _, _, R⟩ => SqT.of (nt _ _ k3 R.bu)) ?_ fun σ H' ⟨U', B', _, _, e, R⟩ => ⟨U', B', _, _, _, e, ((R1.comp R2).comp ⟨R.pr, R.ob, fun b o z h1 h2 => R.bu b o (e13 b o z) h1 h2⟩).imp fun z h' hh' => by
          by_cases e : h' = h
          · rw [e]; exact z.1.2
          · exact z.1.1 h' (by omega)⟩
      rintro m y σ H' hm ⟨U', B', v2', v3', rfl, R⟩
      match m, hm with
      | 0, hm =>
        have e : V.ref t1 = y := Option.some.inj hm
        subst e
        refine ⟨t1, _, rfl, SqT.of (nt _ _ k1 R.bu), rfl, _, _, rfl, _, _, rfl, rfl, ?_⟩
        exact two i j _ (.inl hq) R.ob R.wf fun U'' B'' H'' R' => ⟨U'', B'', _, _, rfl, (R.comp R').imp fun _ => trivial⟩
      | 1, hm =>
        have e : V.ref t2 = y := Option.some.inj hm
        subst e
        refine ⟨t2, _, rfl, SqT.of (nt _ _ k2 R.bu), rfl, _, _, rfl, _, _, rfl, rfl, ?_⟩
        exact two j i _ (.inr hq) R.ob R.wf fun U'' B'' H'' R' => ⟨U'', B'', _, _, rfl, (R.comp R').imp fun _ => trivial⟩
      | m + 2, hm => simp at hm
    show tIfS _ _ _ { (_ : Ends) with nx := _ } _ _
    refine rd_two (rd_upto R1.ob rfl rfl rfl (wl R1.wf _ hi).1) (rd_upto R1.ob rfl rfl rfl (wl R1.wf _ hj).1) (fun b1 b2 => ?_) fun nb => loop (.refl R1.ob R1.wf fun z1 z2 => (nb z1 z2).elim)
    refine rd_put (s := bt B1 i h && bt B1 j h) R1.ob rfl rfl rfl (fun Q q => ?_) (wl R1.wf _ hk).1 (wl R1.wf _ hk).2 (h1000 _ hh) fun H2 O2 bu2 => loop ⟨.lat1 x R1.wf hq hh b1 b2, O2, bu2⟩
    refine rv_below R1.ob rfl rfl rfl (wl R1.wf _ hi).2 ?_
    refine ⟨_, rfl, ?_⟩
    cases e1 : bt B1 i h with
    | false =>
      refine iteF ?_
      rw [e1] at q
      exact q
    | true =>
      refine iteT ?_
      refine rv_below R1.ob rfl rfl rfl (wl R1.wf _ hj).2 ?_
      rw [e1] at q
      exact q

abbrev N_Order_use_sooner : List Str := ["self", "i", "j", "k", "h", "one", "other"]
theorem sc_Order_use_sooner : FnScope N_Order_use_sooner ["self", "i", "j", "k"] (defScope s_Order_use_sooner) := ⟨rfl, rfl, rfl, by decide +kernel, rfl, by decide +kernel, by decide +kernel⟩
theorem m_use_sooner (T : Tx K mg) : C8.Met P w K mg base 2 (He.ga K "Order") "use_sooner" (spJnt K false) [] :=
  mkMet T fn_Order_use_sooner rfl rfl rfl T.cls_Order T.mt_use_sooner sc_Order_use_sooner (fun _ _ _ _ _ _ us hl => match us, hl with | [_, _, _, _], _ => rfl) (fun vs H Q E h => by obtain ⟨a, n, rs, js, U, B, i, j, k, rfl, _⟩ := h; rfl) fun f cdv A outer s0 H vs Q E hr h => by
    obtain ⟨a, n, rs, js, U, B, i, j, k, rfl, O, w, x, hn, hq, q⟩ := h
    obtain ⟨dx, hp⟩ := O.ob
    have hl : (nV U).length = n := (nV_len U).trans w.lu
    obtain ⟨hi, hj, hk⟩ := x.2 _ hq
    simp only at hi hj hk
    refine ⟨_, (pss_one (ps_for PassesOwn.never rfl (pi_range1 rfl T.f_range (pa_cons (pe_callB call_len_seq (by rfl) T.f_len (by decide +kernel) (pa_cons (pe_fld (pv 0) rfl) pa_nil)) pa_nil)) (pg_name (i := 4) sc_Order_use_sooner.nd rfl (Or.inl rfl)) (pss_cons (ps_if (PW.pt (pw_and (pt_val (C8.pe_mt (m_is_upto T) hr (by decide) (pv 0) (pa_cons (pv 4) (pa_cons (pv 1) pa_nil)))) (pw_and1 (pt_val (C8.pe_mt (m_is_upto T) hr (by decide) (pv 0) (pa_cons (pv 4) (pa_cons (pv 2) pa_nil))))))) (pss_one (ps_expr (C8.pe_mt (m_put T) hr (by decide) (pv 0) (pa_cons (pv 4) (pa_cons (pv 3) (pa_cons (pe_and (C8.pe_mt (m_is_below T) hr (by decide) (pv 0) (pa_cons (pv 4) (pa_cons (pv 1) pa_nil))) (pe_one (C8.pe_mt (m_is_below T) hr (by decide) (pv 0) (pa_cons (pv 4) (pa_cons (pv 2) pa_nil))))) pa_nil)))))) pss_nil)
        (pss_one (ps_for PassesOwn.never rfl (pi_tup (pe_tup (pa_cons (pe_tup (pa_cons (pv 1) (pa_cons (pv 2) pa_nil))) (pa_cons (pe_tup (pa_cons (pv 2) (pa_cons (pv 1) pa_nil))) pa_nil)))) (pg_tup rfl (pgs_cons (pg_name (i := 5) sc_Order_use_sooner.nd rfl (Or.inl rfl)) (pgs_cons (pg_name (i := 6) sc_Order_use_sooner.nd rfl (Or.inl rfl)) pgs_nil))) (pss_cons (ps_if (PW.pt (pw_and (pt_val (C8.pe_mt (m_is_below T) hr (by decide) (pv 0) (pa_cons (pv 4) (pa_cons (pv 5) pa_nil)))) (pw_and1 (pt_val (C8.pe_mt (m_is_upto T) hr (by decide) (pv 0) (pa_cons (pv 3) (pa_cons (pv 4) pa_nil))))))) (pss_one (ps_expr (C8.pe_mt (m_put T) hr (by decide) (pv 0) (pa_cons (pv 6) (pa_cons (pv 4) (pa_cons pe_bl pa_nil)))))) pss_nil)
          (pss_one (ps_if (PW.pt (pw_and (pt_val (C8.pe_mt (m_is_upto T) hr (by decide) (pv 0) (pa_cons (pv 4) (pa_cons (pv 5) pa_nil)))) (pw_and1 (pt_val (C8.pe_mt (m_is_below T) hr (by decide) (pv 0) (pa_cons (pv 3) (pa_cons (pv 4) pa_nil))))))) (pss_one (ps_expr (C8.pe_mt (m_put T) hr (by decide) (pv 0) (pa_cons (pv 6) (pa_cons (pv 4) (pa_cons pe_bl pa_nil)))))) pss_nil)))))))), ?_⟩
    refine ⟨_, rfl, a.p, _, dx, _, _, rfl, hp, T.cls_Order, T.no_upto, ofl_upto a, a.ul, _, rfl, .inl (SqL.of O.up), _, rfl, (b62 (by omega)).1, (b62 (by omega)).2, ?_⟩
    refine for_rng (n := (nV U).length) (fun h σ H' => ∃ U' B' v1 v2 v3, σ = [some (.ref a.p), some (iV i), some (iV j), some (iV k), v1, v2, v3] ∧ Run K a n rs js (fun U B => ∀ h', h' < h → sonC i j k h' U B) H U B H' U' B')
      ⟨U, B, none, none, none, rfl, .refl O w fun k' h => absurd h (Nat.not_lt_zero _)⟩ ?_ fun σ H' ⟨U', B', _, _, _, _, R⟩ => q U' B' H' (R.imp fun z h hh => by
        show if false = true then latC i j k h _ _ else sonC i j k h _ _
        exact z h (by omega))
    rintro h σ H1 hh ⟨U1, B1, v1, v2, v3, rfl, R1⟩
    have hh : h < n := by omega
    have wl : ∀ {U' B' : List Nat}, Wf n U' B' → ∀ m, m < n → m < U'.length ∧ m < B'.length := fun w' m hm => by rw [w'.lu, w'.lb]; exact ⟨hm, hm⟩
    have h1000 : ∀ m, m < n → m ≤ 1000000 := fun m hm => by omega
    -- the two of the joint, in either order
    have two : ∀ (o o' : Nat) {U2 B2 : List Nat} {H2 : Hp} (D : Ends), Two js false o o' k → OrdAt K H2 a rs js U2 B2 → Wf n U2 B2 → (∀ U' B' H', Run K a n rs js (fun _ _ => True) H2 U2 B2 H' U' B' → D.nx [some (.ref a.p), some (iV i), some (iV j), some (iV k), some (iV h), some (iV o), some (iV o')] H') →
        tSeq (tIfS (tAnd (cBe K 0 4 5) (cUp K 0 3 4)) (sPt K 0 6 4 (tC (.bl false))) tNext) (tIfS (tAnd (cUp K 0 4 5) (cBe K 0 3 4)) (sPt K 0 6 4 (tC (.bl true))) tNext) D
          [some (.ref a.p), some (iV i), some (iV j), some (iV k), some (iV h), some (iV o), some (iV o')] H2 := fun o o' {U2 B2 H2} D ht O2 w2 fin => by
      have ho : o < n := by
        rcases ht with z | z
        · exact (x.2 _ z).1
        · exact (x.2 _ z).2.1
      have ho' : o' < n := by
        rcases ht with z | z
        · exact (x.2 _ z).2.1
        · exact (x.2 _ z).1
      have second : ∀ {U3 B3 : List Nat} {H3 : Hp}, Run K a n rs js (fun _ _ => True) H2 U2 B2 H3 U3 B3 → tIfS (tAnd (cUp K 0 4 5) (cBe K 0 3 4)) (sPt K 0 6 4 (tC (.bl true))) tNext D
          [some (.ref a.p), some (iV i), some (iV j), some (iV k), some (iV h), some (iV o), some (iV o')] H3 := fun {U3 B3 H3} R3 => by
        refine rd_two (rd_upto R3.ob rfl rfl rfl (wl R3.wf _ hh).1) (rd_below R3.ob rfl rfl rfl (wl R3.wf _ hk).2) (fun b1 b2 => ?_) fun _ => fin _ _ _ R3
        exact rd_put R3.ob rfl rfl rfl (fun Q q => q) (wl R3.wf _ ho').1 (wl R3.wf _ ho').2 (h1000 _ hh) fun H4 O4 b4 => fin _ _ _ ((R3.comp ⟨.son3 x R3.wf ht hh b1 b2, O4, b4⟩).imp fun _ => trivial)
      show tIfS _ _ _ { D with nx := _ } _ _
      refine rd_two (rd_below O2 rfl rfl rfl (wl w2 _ hh).2) (rd_upto O2 rfl rfl rfl (wl w2 _ hk).1) (fun b1 b2 => ?_) fun _ => second (.refl O2 w2 trivial)
      exact rd_put O2 rfl rfl rfl (fun Q q => q) (wl w2 _ ho').1 (wl w2 _ ho').2 (h1000 _ hh) fun H4 O4 b4 => second ⟨.son2 x w2 ht hh b1 b2, O4, b4⟩
    have loop : ∀ {U2 B2 : List Nat} {H2 : Hp}, Run K a n rs js (fun U B => sonC i j k h U B) H1 U1 B1 H2 U2 B2 →
        tFor (iTup K (tTup (tCons (tTup (tCons (tVar 1) (tCons (tVar 2) tNil))) (tCons (tTup (tCons (tVar 2) (tCons (tVar 1) tNil))) tNil)))) (gTup K 2 (gCons (gName 5) (gCons (gName 6) gNil)))
          (tSeq (tIfS (tAnd (cBe K 0 4 5) (cUp K 0 3 4)) (sPt K 0 6 4 (tC (.bl false))) tNext) (tIfS (tAnd (cUp K 0 4 5) (cBe K 0 3 4)) (sPt K 0 6 4 (tC (.bl true))) tNext))
          { nx := fun σ H' => ∃ U' B' v1 v2 v3, σ = [some (.ref a.p), some (iV i), some (iV j), some (iV k), v1, v2, v3] ∧ Run K a n rs js (fun U B => ∀ h', h' < h + 1 → sonC i j k h' U B) H U B H' U' B', rt := Q,
            ct := fun σ H' => ∃ U' B' v1 v2 v3, σ = [some (.ref a.p), some (iV i), some (iV j), some (iV k), v1, v2, v3] ∧ Run K a n rs js (fun U B => ∀ h', h' < h + 1 → sonC i j k h' U B) H U B H' U' B', bk := fun _ H' => Q .non H' }
          [some (.ref a.p), some (iV i), some (iV j), some (iV k), some (iV h), v2, v3] H2 := fun {U2 B2 H2} R2 => by
      refine ⟨_, rfl, _, rfl, by show 2 ≤ sizeLine; decide, fun t1 n1 => ?_⟩
      refine ⟨_, rfl, _, rfl, by show 2 ≤ sizeLine; decide, fun t2 n2 => ?_⟩
      refine ⟨by show 2 ≤ sizeLine; decide, fun t3 n3 => ?_⟩
      have n2' : (upd H2 t1 (.tup [iV i, iV j])) t2 = none := n2
      have e1 : Ex H2 (upd H2 t1 (.tup [iV i, iV j])) := Evl.Ex.new n1
      have e2 : Ex (upd H2 t1 (.tup [iV i, iV j])) (upd (upd H2 t1 (.tup [iV i, iV j])) t2 (.tup [iV j, iV i])) := Evl.Ex.new n2
      have e3 : Ex (upd (upd H2 t1 (.tup [iV i, iV j])) t2 (.tup [iV j, iV i])) (upd (upd (upd H2 t1 (.tup [iV i, iV j])) t2 (.tup [iV j, iV i])) t3 (.tup [.ref t1, .ref t2])) := Evl.Ex.new n3
      have e13 := (e1.trans e2).trans e3
      generalize hH3 : upd (upd (upd H2 t1 (.tup [iV i, iV j])) t2 (.tup [iV j, iV i])) t3 (.tup [.ref t1, .ref t2]) = H3 at e3 e13
      have k1 : H3 t1 = some (.tup [iV i, iV j]) := e3 _ _ (e2 _ _ upd_same)
      have k2 : H3 t2 = some (.tup [iV j, iV i]) := e3 _ _ upd_same
      have k3 : H3 t3 = some (.tup [.ref t1, .ref t2]) := by rw [← hH3]; exact upd_same
      have O3 : OrdAt K H3 a rs js U2 B2 := R2.ob.ex e13
      have nt : ∀ t vs, H3 t = some (.tup vs) → ∀ {H' : Hp}, But a H3 H' → H' t = some (.tup vs) := fun t vs h H' b => b _ _ h (ne_of h O3.up (fun z => nomatch z)) (ne_of h O3.be (fun z => nomatch z))
      refine ⟨t3, rfl, ⟨_, SqT.of k3⟩, ?_⟩
      refine for_tup (K := K) (a := t3) (xs := [.ref t1, .ref t2]) (fun m σ H' => ∃ U' B' v2 v3, σ = [some (.ref a.p), some (iV i), some (iV j), some (iV k), some (iV h), v2, v3] ∧ Run K a n rs js (fun _ _ => True) H3 U2 B2 H' U' B')
        ⟨U2, B2, v2, v3, rfl, .refl O3 R2.wf trivial⟩ (fun m σ H' _ ⟨_, _, _, _, _, R⟩ => SqT.of (nt _ _ k3 R.bu)) ?_ fun σ H' ⟨U', B', _, _, e, R⟩ => ⟨U', B', _, _, _, e, ((R1.comp R2).comp ⟨R.pr, R.ob, fun b o z h1 h2 => R.bu b o (e13 b o z) h1 h2⟩).imp fun z h' hh' => by
          by_cases e : h' = h
          · rw [e]; exact z.1.2
          · exact z.1.1 h' (by omega)⟩
      rintro m y σ H' hm ⟨U', B', v2', v3', rfl, R⟩
      match m, hm with
      | 0, hm =>
        have e : V.ref t1 = y := Option.some.inj hm
        subst e
        refine ⟨t1, _, rfl, SqT.of (nt _ _ k1 R.bu), rfl, _, _, rfl, _, _, rfl, rfl, ?_⟩
        exact two i j _ (.inl hq) R.ob R.wf fun U'' B'' H'' R' => ⟨U'', B'', _, _, rfl, (R.comp R').imp fun _ => trivial⟩
      | 1, hm =>
        have e : V.ref t2 = y := Option.some.inj hm
        subst e
        refine ⟨t2, _, rfl, SqT.of (nt _ _ k2 R.bu), rfl, _, _, rfl, _, _, rfl, rfl, ?_⟩
        exact two j i _ (.inr hq) R.ob R.wf fun U'' B'' H'' R' => ⟨U'', B'', _, _, rfl, (R.comp R').imp fun _ => trivial⟩
      | m + 2, hm => simp at hm
    show tIfS _ _ _ { (_ : Ends) with nx := _ } _ _
    refine rd_two (rd_upto R1.ob rfl rfl rfl (wl R1.wf _ hh).1) (rd_upto R1.ob rfl rfl rfl (wl R1.wf _ hh).1) (fun b1 b2 => ?_) fun nb => loop (.refl R1.ob R1.wf fun z1 z2 => (nb z1 z2).elim)
    refine rd_put (s := bt B1 h i && bt B1 h j) R1.ob rfl rfl rfl (fun Q q => ?_) (wl R1.wf _ hh).1 (wl R1.wf _ hh).2 (h1000 _ hk) fun H2 O2 bu2 => loop ⟨.son1 x R1.wf hq hh b1 b2, O2, bu2⟩
    refine rv_below R1.ob rfl rfl rfl (wl R1.wf _ hh).2 ?_
    refine ⟨_, rfl, ?_⟩
    cases e1 : bt B1 h i with
    | false =>
      refine iteF ?_
      rw [e1] at q
      exact q
    | true =>
      refine iteT ?_
      refine rv_below R1.ob rfl rfl rfl (wl R1.wf _ hh).2 ?_
      rw [e1] at q
      exact q
end
end K35

/-! The class Order: close, with_more. -/
namespace K35
open PySem PySem.Spec PyProof.Rows L2
/-! ### rows of bits as data -/
def iDs (l : List Nat) : List PyData := l.map fun (x : Nat) => PyData.int (x : Int)
theorem dp_rows {K : PySem.W.Frag} {H : Hp} : ∀ l : List Nat, DpAll K H (nV l) (iDs l)
  | [] => .nil
  | x :: l => .cons (.int _) (dp_rows l)
theorem iDs_can : ∀ l : List Nat, PyData.canLayAll0 (iDs l) = true
  | [] => by simp [iDs, PyData.canLayAll0]
  | x :: l => by
    have ih := iDs_can l
    unfold iDs at ih ⊢
    rw [List.map_cons, PyData.canLayAll0, ih]
    simp [PyData.canLay0]
theorem iDs_deep : ∀ l : List Nat, PyData.depthAll (iDs l) = 0
  | [] => by simp [iDs, PyData.depthAll]
  | x :: l => by
    have ih := iDs_deep l
    unfold iDs at ih ⊢
    rw [List.map_cons, PyData.depthAll, ih]
    simp [PyData.depth]
theorem iDs_eqv : ∀ l m : List Nat, PyData.eqvAll (iDs l) (iDs m) = decide (l = m)
  | [], [] => by simp [iDs, PyData.eqvAll]
  | [], _ :: _ => by simp [iDs, PyData.eqvAll]
  | _ :: _, [] => by simp [iDs, PyData.eqvAll]
  | x :: l, y :: m => by
    have ih := iDs_eqv l m
    unfold iDs at ih ⊢
    rw [List.map_cons, List.map_cons, PyData.eqvAll, ih, PyData.eqv]
    by_cases h : x = y
    · subst h; simp
    · have h2 : ¬ (x : Int) = (y : Int) := fun q => h (Int.ofNat_inj.mp q)
      simp [h, h2]
def pD (U B : List Nat) : PyData := .tuple [.list (iDs U), .list (iDs B)]
theorem pD_shaped (U B : List Nat) : SeqAt.shaped (pD U B) = true := by
  unfold SeqAt.shaped pD
  simp [PyData.canLay0, PyData.canLayAll0, PyData.depth, PyData.depthAll, iDs_can, iDs_deep]
theorem pD_eqv (U B U' B' : List Nat) : PyData.eqv (pD U B) (pD U' B') = decide (U = U' ∧ B = B') := by
  unfold pD
  simp [PyData.eqv, PyData.eqvAll, iDs_eqv]
theorem dp_pair {K : PySem.W.Frag} {H : Hp} {t l m : Addr} {U B : List Nat} (ht : H t = some (.tup [.ref l, .ref m])) (h1 : H l = some (.lst (nV U))) (h2 : H m = some (.lst (nV B))) : Dp K H (.ref t) (pD U B) :=
  .tup (SqT.of ht) (.cons (.lst (SqL.of h1) (dp_rows U)) (.cons (.lst (SqL.of h2) (dp_rows B)) .nil))
def spClose (K : PySem.W.Frag) : Sp := fun vs H Q _ => ∃ (a : Oa) (n : Nat) (rs : List R4) (js : List J4) (U B : List Nat), vs = [.ref a.p] ∧ OrdAt K H a rs js U B ∧ Wf n U B ∧ Idx n rs js ∧ n ≤ 60 ∧
  ∀ U' B' H', Run K a n rs js (fun _ _ => True) H U B H' U' B' → Okay n rs js U' B' → Q .non H'
section
variable {P : Program} {w : World} {K : PySem.W.Frag} {mg : Str → Option Value} {base : Heap}
abbrev N_Order_close : List Str := ["self", "before", "word", "i", "j", "k"]
theorem sc_Order_close : FnScope N_Order_close ["self"] (defScope s_Order_close) := ⟨rfl, rfl, rfl, by decide +kernel, rfl, by decide +kernel, by decide +kernel⟩
theorem m_close (T : Tx K mg) : C8.Met P w K mg base 3 (He.ga K "Order") "close" (spClose K) [] :=
  mkMet T fn_Order_close rfl rfl rfl T.cls_Order T.mt_close sc_Order_close (fun _ _ _ _ _ _ us hl => match us, hl with | [_], _ => rfl) (fun vs H Q E h => by obtain ⟨a, n, rs, js, U, B, rfl, _⟩ := h; rfl) fun f cdv A outer s0 H vs Q E hr h => by
    obtain ⟨a, n, rs, js, U, B, rfl, O, w, x, hn, q⟩ := h
    refine ⟨_, (pss_cons (ps_set (i := 1) sc_Order_close.nd rfl (Or.inl rfl) pe_non)
      (pss_one (ps_while PassesOwn.never (PW.pt (pw_and (pt_cmpR (op_neD hr.units) (pv 1) (pe_tup (pa_cons (pe_fld (pv 0) rfl) (pa_cons (pe_fld (pv 0) rfl) pa_nil))) (nomark _)) (pw_and1 (pt_not (pt_val (C8.pe_mt0 (m_is_contrary T) hr (by decide) (pv 0))))))) (pss_cons (ps_set (i := 1) sc_Order_close.nd rfl (Or.inl rfl) (pe_tup (pa_cons (pe_callTy call_list_of (by rfl) T.f_list (by decide +kernel) (pa_cons (pe_fld (pv 0) rfl) pa_nil)) (pa_cons (pe_callTy call_list_of (by rfl) T.f_list (by decide +kernel) (pa_cons (pe_fld (pv 0) rfl) pa_nil)) pa_nil))))
        (pss_cons (ps_expr (C8.pe_mt0 (m_go_through T) hr (by decide) (pv 0)))
        (pss_cons (ps_expr (C8.pe_mt0 (m_use_rules T) hr (by decide) (pv 0)))
        (pss_one (ps_for PassesOwn.never rfl (pi_list (pe_fld (pv 0) rfl)) (pg_tup rfl (pgs_cons (pg_name (i := 2) sc_Order_close.nd rfl (Or.inl rfl)) (pgs_cons (pg_name (i := 3) sc_Order_close.nd rfl (Or.inl rfl)) (pgs_cons (pg_name (i := 4) sc_Order_close.nd rfl (Or.inl rfl)) (pgs_cons (pg_name (i := 5) sc_Order_close.nd rfl (Or.inl rfl)) pgs_nil))))) (pss_one (ps_if (pt_cmpR op_eq (pv 2) pe_str (nomark _)) (pss_one (ps_expr (C8.pe_mt (m_use_later T) hr (by decide) (pv 0) (pa_cons (pv 3) (pa_cons (pv 4) (pa_cons (pv 5) pa_nil)))))) (pss_one (ps_expr (C8.pe_mt (m_use_sooner T) hr (by decide) (pv 0) (pa_cons (pv 3) (pa_cons (pv 4) (pa_cons (pv 5) pa_nil)))))))))))))))), ?_⟩
    show tWhile _ _ _ _ _
    refine ⟨fun m σ H' => ∃ (U' B' : List Nat) (v1 : V) (v2 v3 v4 v5 : Option V), σ = [some (.ref a.p), some v1, v2, v3, v4, v5] ∧ Run K a n rs js (fun _ _ => True) H U B H' U' B' ∧ ((v1 = .non ∧ U' = U ∧ B' = B ∧ m = unk n U B + 1) ∨
      ∃ (t l1 l2 : Addr) (Ub Bb : List Nat), v1 = .ref t ∧ H' t = some (.tup [.ref l1, .ref l2]) ∧ H' l1 = some (.lst (nV Ub)) ∧ H' l2 = some (.lst (nV Bb)) ∧ Wf n Ub Bb ∧ Mono Ub Bb U' B' ∧ (U' = Ub → B' = Bb → Clo n rs js U' B') ∧ m = unk n Ub Bb), ⟨_, U, B, .non, none, none, none, none, rfl, .refl O w trivial, .inl ⟨rfl, rfl, rfl, rfl⟩⟩, ?_⟩
    rintro m σ H1 ⟨U1, B1, v1, v2, v3, v4, v5, rfl, R1, hv⟩
    obtain ⟨dx1, hp1⟩ := R1.ob.ob
    refine ⟨_, rfl, ?_⟩
    refine ⟨_, rfl, a.p, _, dx1, _, _, rfl, hp1, T.cls_Order, T.no_upto, ofl_upto a, _, rfl, a.p, _, dx1, _, _, rfl, hp1, T.cls_Order, T.no_below, ofl_below a, by show 2 ≤ sizeLine; decide, fun t nt => ?_⟩
    have et : Ex H1 (upd H1 t (.tup [.ref a.ul, .ref a.bl])) := Evl.Ex.new nt
    have ht : (upd H1 t (.tup [.ref a.ul, .ref a.bl])) t = some (.tup [.ref a.ul, .ref a.bl]) := upd_same
    generalize upd H1 t (.tup [.ref a.ul, .ref a.bl]) = H2 at et ht
    have O2 : OrdAt K H2 a rs js U1 B1 := R1.ob.ex et
    have R2 : Run K a n rs js (fun _ _ => True) H U B H2 U1 B1 := ⟨R1.pr, O2, R1.bu.trans (Ex.but et)⟩
    have dp2 : Dp K H2 (.ref t) (pD U1 B1) := dp_pair ht O2.up O2.be
    -- the body, where more will be known
    have body : unk n U1 B1 < m → ∃ N : L2.St → Hp → Prop, (∀ σ' H', N σ' H' → ∃ m', m' < m ∧ ∃ (U' B' : List Nat) (v1 : V) (v2 v3 v4 v5 : Option V), σ' = [some (.ref a.p), some v1, v2, v3, v4, v5] ∧ Run K a n rs js (fun _ _ => True) H U B H' U' B' ∧ ((v1 = .non ∧ U' = U ∧ B' = B ∧ m' = unk n U B + 1) ∨
        ∃ (t l1 l2 : Addr) (Ub Bb : List Nat), v1 = .ref t ∧ H' t = some (.tup [.ref l1, .ref l2]) ∧ H' l1 = some (.lst (nV Ub)) ∧ H' l2 = some (.lst (nV Bb)) ∧ Wf n Ub Bb ∧ Mono Ub Bb U' B' ∧ (U' = Ub → B' = Bb → Clo n rs js U' B') ∧ m' = unk n Ub Bb)) ∧
        ∀ {H3 : Hp}, Ex H2 H3 → tSeq (tAsg (tTup (tCons (tCB (fun xs H Q => ∃ p ys, xs = [.ref p] ∧ (SqL K H p ys ∨ SqT K H p ys) ∧ ∀ l, H l = none → Q (.ref l) (upd H l (.lst ys))) (tCons (tFld K (tVar 0) "upto") tNil)) (tCons (tCB (fun xs H Q => ∃ p ys, xs = [.ref p] ∧ (SqL K H p ys ∨ SqT K H p ys) ∧ ∀ l, H l = none → Q (.ref l) (upd H l (.lst ys))) (tCons (tFld K (tVar 0) "below") tNil)) tNil))) (gName 1))
          (tSeq (tDrop (tMeth (He.ga K "Order") "go_through" (spGo K) [] E0 (tVar 0) tNil)) (tSeq (tDrop (tMeth (He.ga K "Order") "use_rules" (spRules K) [] E0 (tVar 0) tNil))
          (tFor (iList K (tFld K (tVar 0) "joints")) (gTup K 4 (gCons (gName 2) (gCons (gName 3) (gCons (gName 4) (gCons (gName 5) gNil))))) (tIfS (tTest (tOp rEq (tVar 2) (tC (.str "later")))) (tDrop (tMeth (He.ga K "Order") "use_later" (spJnt K true) [] E0 (tVar 0) (tCons (tVar 3) (tCons (tVar 4) (tCons (tVar 5) tNil)))))
            (tDrop (tMeth (He.ga K "Order") "use_sooner" (spJnt K false) [] E0 (tVar 0) (tCons (tVar 3) (tCons (tVar 4) (tCons (tVar 5) tNil)))))))))
          { nx := N, ct := N, bk := fun _ H' => Q .non H', rt := Q } [some (.ref a.p), some v1, v2, v3, v4, v5] H3 := fun lt => by
      refine ⟨_, fun _ _ h => h, fun {H3} e3 => ?_⟩
      have O3 : OrdAt K H3 a rs js U1 B1 := O2.ex e3
      obtain ⟨dx3, hp3⟩ := O3.ob
      refine ⟨_, rfl, a.p, _, dx3, _, _, rfl, hp3, T.cls_Order, T.no_upto, ofl_upto a, a.ul, _, rfl, .inl (SqL.of O3.up), fun l1 n1 => ?_⟩
      have e4 : Ex H3 (upd H3 l1 (.lst (nV U1))) := Evl.Ex.new n1
      have hl1 : (upd H3 l1 (.lst (nV U1))) l1 = some (.lst (nV U1)) := upd_same
      have f1 : l1 ≠ a.ul ∧ l1 ≠ a.bl := ⟨(ne_of_none O3.up n1).symm, (ne_of_none O3.be n1).symm⟩
      generalize upd H3 l1 (.lst (nV U1)) = H4 at e4 hl1
      have O4 : OrdAt K H4 a rs js U1 B1 := O3.ex e4
      obtain ⟨dx4, hp4⟩ := O4.ob
      refine ⟨_, rfl, a.p, _, dx4, _, _, rfl, hp4, T.cls_Order, T.no_below, ofl_below a, a.bl, _, rfl, .inl (SqL.of O4.be), fun l2 n2 => ?_⟩
      have e5 : Ex H4 (upd H4 l2 (.lst (nV B1))) := Evl.Ex.new n2
      have hl2 : (upd H4 l2 (.lst (nV B1))) l2 = some (.lst (nV B1)) := upd_same
      have f2 : l2 ≠ a.ul ∧ l2 ≠ a.bl := ⟨(ne_of_none O4.up n2).symm, (ne_of_none O4.be n2).symm⟩
      generalize upd H4 l2 (.lst (nV B1)) = H5 at e5 hl2
      refine ⟨by show 2 ≤ sizeLine; decide, fun t3 n3 => ?_⟩
      have e6 : Ex H5 (upd H5 t3 (.tup [.ref l1, .ref l2])) := Evl.Ex.new n3
      have ht3 : (upd H5 t3 (.tup [.ref l1, .ref l2])) t3 = some (.tup [.ref l1, .ref l2]) := upd_same
      show tSeq _ _ _ _ (upd H5 t3 (.tup [.ref l1, .ref l2]))
      generalize upd H5 t3 (.tup [.ref l1, .ref l2]) = H6 at e6 ht3
      have k1 : H6 l1 = some (.lst (nV U1)) := e6 _ _ (e5 _ _ hl1)
      have k2 : H6 l2 = some (.lst (nV B1)) := e6 _ _ hl2
      have O6 : OrdAt K H6 a rs js U1 B1 := (O4.ex e5).ex e6
      have R6 : Run K a n rs js (fun _ _ => True) H U B H6 U1 B1 := ⟨R2.pr, O6, R2.bu.trans (Ex.but (((e3.trans e4).trans e5).trans e6))⟩
      obtain ⟨dx6, hp6⟩ := O6.ob
      refine ⟨_, rfl, a.p, dx6, _, rfl, hp6, ofl_go_through a, a, n, rs, js, U1, B1, rfl, O6, R1.wf, x, hn, fun U7 B7 H7 R7 => ?_⟩
      obtain ⟨dx7, hp7⟩ := R7.ob.ob
      refine ⟨_, rfl, a.p, dx7, _, rfl, hp7, ofl_use_rules a, a, n, rs, js, U7, B7, rfl, R7.ob, R7.wf, x, hn, fun U8 B8 H8 R8 => ?_⟩
      have R78 := R7.comp R8
      obtain ⟨dx8, hp8⟩ := R8.ob.ob
      obtain ⟨ts, r1, r2, r3⟩ := id R8.ob.jo
      refine ⟨_, rfl, a.p, _, dx8, _, _, rfl, hp8, T.cls_Order, T.no_joints, ofl_joints a, a.jl, rfl, ⟨_, SqL.of r1⟩, ?_⟩
      refine for_list (K := K) (a := a.jl) (xs := ts.map V.ref) (fun i σ H' => ∃ U' B' v2 v3 v4 v5, σ = [some (.ref a.p), some (.ref t3), v2, v3, v4, v5] ∧ Run K a n rs js (fun U B => ∀ k q, k < i → js[k]? = some q → jntC n q U B) H8 U8 B8 H' U' B')
        ⟨U8, B8, v2, v3, v4, v5, rfl, .refl R8.ob R8.wf fun k q h => absurd h (Nat.not_lt_zero _)⟩ (fun i σ H' _ ⟨_, _, _, _, _, _, _, R⟩ => SqL.of (R.bu _ _ r1 O.n4 O.n5)) ?_ ?_
      · rintro i y σ H9 hi ⟨U9, B9, u2, u3, u4, u5, rfl, R9⟩
        rw [List.getElem?_map] at hi
        obtain ⟨t, ht, rfl⟩ := Option.map_eq_some_iff.mp hi
        have hml : i < js.length := by rw [← r2]; exact (List.getElem?_eq_some_iff.mp ht).1
        obtain ⟨j4, hr0⟩ : ∃ r, js[i]? = some r := ⟨js[i], List.getElem?_eq_getElem hml⟩
        have hrm : j4 ∈ js := List.mem_of_getElem? hr0
        have ht0 := r3 i t j4 ht hr0
        have ht1 : H9 t = some (.tup (j4V j4)) := R9.bu _ _ ht0 (ne_of ht0 R8.ob.up (fun z => nomatch z)) (ne_of ht0 R8.ob.be (fun z => nomatch z))
        obtain ⟨b, i', j', k'⟩ := j4
        obtain ⟨dx9, hp9⟩ := R9.ob.ob
        refine ⟨t, _, rfl, SqT.of ht1, rfl, _, _, rfl, _, _, rfl, _, _, rfl, _, _, rfl, rfl, ?_⟩
        refine ⟨_, rfl, rfl, _, rfl, ?_⟩
        cases b with
        | true =>
          have d : decide (V.str (if true = true then ("later" : Str) else "sooner") = V.str "later") = true := by decide +kernel
          show (if decide (V.str (if true = true then ("later" : Str) else "sooner") = V.str "later") = true then _ else _)
          rw [d]
          refine iteT ?_
          refine ⟨_, rfl, a.p, dx9, _, rfl, hp9, ofl_use_later a, _, rfl, _, rfl, _, rfl, a, n, rs, js, U9, B9, i', j', k', rfl, R9.ob, R9.wf, x, hn, hrm, fun U10 B10 H10 R10 => ?_⟩
          exact ⟨U10, B10, _, _, _, _, rfl, (R9.comp R10).imp fun z k q hk hq => by
            by_cases e : k = i
            · rw [e, hr0] at hq
              cases hq
              exact z.2
            · exact z.1 k q (by omega) hq⟩
        | false =>
          have d : decide (V.str (if false = true then ("later" : Str) else "sooner") = V.str "later") = false := by decide +kernel
          show (if decide (V.str (if false = true then ("later" : Str) else "sooner") = V.str "later") = true then _ else _)
          rw [d]
          refine iteF ?_
          refine ⟨_, rfl, a.p, dx9, _, rfl, hp9, ofl_use_sooner a, _, rfl, _, rfl, _, rfl, a, n, rs, js, U9, B9, i', j', k', rfl, R9.ob, R9.wf, x, hn, hrm, fun U10 B10 H10 R10 => ?_⟩
          exact ⟨U10, B10, _, _, _, _, rfl, (R9.comp R10).imp fun z k q hk hq => by
            by_cases e : k = i
            · rw [e, hr0] at hq
              cases hq
              exact z.2
            · exact z.1 k q (by omega) hq⟩
      · rintro σ H9 ⟨U9, B9, u2, u3, u4, u5, rfl, R9⟩
        have R := R78.comp R9
        refine ⟨unk n U1 B1, lt, U9, B9, .ref t3, u2, u3, u4, u5, rfl, (R6.comp R).imp fun _ => trivial, .inr ⟨t3, l1, l2, U1, B1, rfl, R.bu _ _ ht3 (ne_of ht3 O6.up (fun z => nomatch z)) (ne_of ht3 O6.be (fun z => nomatch z)), R.bu _ _ k1 f1.1 f1.2, R.bu _ _ k2 f2.1 f2.2, R1.wf, R.pr.mono, fun e1 e2 => ?_, rfl⟩⟩
        have z := R.pr.cl e1 e2
        rw [e1, e2]
        exact clo_of R1.wf z.1.1 z.1.2 fun q hq => by
          obtain ⟨i, hi, e⟩ := List.getElem_of_mem hq
          exact z.2 i q (by rw [List.length_map, r2]; exact hi) (by rw [List.getElem?_eq_getElem hi, e])
    -- the test
    have test : unk n U1 B1 < m → tNot (tB (tMeth (He.ga K "Order") "is_contrary" (spContr K) [] E0 (tVar 0) tNil)) [some (.ref a.p), some v1, v2, v3, v4, v5] H2 (fun b H1 => if b = true then ∃ N : L2.St → Hp → Prop, (∀ σ' H', N σ' H' → ∃ m', m' < m ∧ ∃ (U' B' : List Nat) (v1 : V) (v2 v3 v4 v5 : Option V), σ' = [some (.ref a.p), some v1, v2, v3, v4, v5] ∧ Run K a n rs js (fun _ _ => True) H U B H' U' B' ∧ ((v1 = .non ∧ U' = U ∧ B' = B ∧ m' = unk n U B + 1) ∨
        ∃ (t l1 l2 : Addr) (Ub Bb : List Nat), v1 = .ref t ∧ H' t = some (.tup [.ref l1, .ref l2]) ∧ H' l1 = some (.lst (nV Ub)) ∧ H' l2 = some (.lst (nV Bb)) ∧ Wf n Ub Bb ∧ Mono Ub Bb U' B' ∧ (U' = Ub → B' = Bb → Clo n rs js U' B') ∧ m' = unk n Ub Bb)) ∧ tSeq (tAsg (tTup (tCons (tCB (fun xs H Q => ∃ p ys, xs = [.ref p] ∧ (SqL K H p ys ∨ SqT K H p ys) ∧ ∀ l, H l = none → Q (.ref l) (upd H l (.lst ys))) (tCons (tFld K (tVar 0) "upto") tNil)) (tCons (tCB (fun xs H Q => ∃ p ys, xs = [.ref p] ∧ (SqL K H p ys ∨ SqT K H p ys) ∧ ∀ l, H l = none → Q (.ref l) (upd H l (.lst ys))) (tCons (tFld K (tVar 0) "below") tNil)) tNil))) (gName 1))
          (tSeq (tDrop (tMeth (He.ga K "Order") "go_through" (spGo K) [] E0 (tVar 0) tNil)) (tSeq (tDrop (tMeth (He.ga K "Order") "use_rules" (spRules K) [] E0 (tVar 0) tNil))
          (tFor (iList K (tFld K (tVar 0) "joints")) (gTup K 4 (gCons (gName 2) (gCons (gName 3) (gCons (gName 4) (gCons (gName 5) gNil))))) (tIfS (tTest (tOp rEq (tVar 2) (tC (.str "later")))) (tDrop (tMeth (He.ga K "Order") "use_later" (spJnt K true) [] E0 (tVar 0) (tCons (tVar 3) (tCons (tVar 4) (tCons (tVar 5) tNil)))))
            (tDrop (tMeth (He.ga K "Order") "use_sooner" (spJnt K false) [] E0 (tVar 0) (tCons (tVar 3) (tCons (tVar 4) (tCons (tVar 5) tNil)))))))))
          { nx := N, ct := N, bk := fun _ H' => Q .non H', rt := Q } [some (.ref a.p), some v1, v2, v3, v4, v5] H1 else Q .non H1) := fun lt => by
      obtain ⟨dx2, hp2⟩ := O2.ob
      refine ⟨_, rfl, a.p, dx2, _, rfl, hp2, ofl_is_contrary a, a, rs, js, U1, B1, rfl, O2, by have := R1.wf.lb; omega, fun b H3 hb e3 => ⟨b, rfl, ?_⟩⟩
      cases b with
      | false =>
        obtain ⟨N, h1, h2⟩ := body lt
        exact iteT ⟨N, h1, h2 e3⟩
      | true => exact iteF (q U1 B1 H3 ⟨R2.pr, O2.ex e3, R2.bu.trans (Ex.but e3)⟩ ⟨R1.wf, fun nc => absurd (hb.mp rfl) nc⟩)
    rcases hv with ⟨rfl, rfl, rfl, rfl⟩ | ⟨tb, l1, l2, Ub, Bb, rfl, k1, k2, k3, wb, mb, cb, rfl⟩
    · refine ⟨_, _, .non, dp2, by decide +kernel, pD_shaped _ _, _, rfl, ?_⟩
      show (if (!PyData.eqv .none (pD U1 B1)) = true then _ else _)
      have e : PyData.eqv .none (pD U1 B1) = false := by unfold pD; simp [PyData.eqv]
      rw [e]
      exact iteT (test (Nat.lt_succ_self _))
    · refine ⟨_, _, dp_pair (et _ _ k1) (et _ _ k2) (et _ _ k3), dp2, pD_shaped _ _, pD_shaped _ _, _, rfl, ?_⟩
      show (if (!PyData.eqv (pD Ub Bb) (pD U1 B1)) = true then _ else _)
      rw [pD_eqv]
      by_cases he : Ub = U1 ∧ Bb = B1
      · rw [decide_eq_true he]
        refine iteF ?_
        exact q U1 B1 H2 R2 ⟨R1.wf, fun _ => cb he.1.symm he.2.symm⟩
      · rw [decide_eq_false he]
        exact iteT (test (unk_ne wb R1.wf mb fun z => he ⟨z.1.symm, z.2.symm⟩))
end
end K35

/-! with_more, is_open. -/
namespace K35
open PySem PySem.Spec PyProof.Rows L2
theorem sat_put {n : Nat} {U B : List Nat} {v : Nat → Int} (w : Wf n U B) {i j : Nat} (hi : i < n) {s : Bool} (t : Sat v U B) (h1 : v i ≤ v j) (h2 : s = true → v i < v j) : Sat v (putB U i j) (putS B i j s) := by
  refine ⟨fun a b q => ?_, fun a b q => ?_⟩
  · rw [bt_putB (by rw [w.lu]; exact hi), Bool.or_eq_true, Bool.and_eq_true, decide_eq_true_eq, decide_eq_true_eq] at q
    rcases q with q | ⟨q1, q2⟩
    · exact t.u a b q
    · rw [q1, q2]; exact h1
  · cases s with
    | false => exact t.b a b q
    | true =>
      have q : bt (putB B i j) a b = true := q
      rw [bt_putB (by rw [w.lb]; exact hi), Bool.or_eq_true, Bool.and_eq_true, decide_eq_true_eq, decide_eq_true_eq] at q
      rcases q with q | ⟨q1, q2⟩
      · exact t.b a b q
      · rw [q1, q2]; exact h2 rfl
theorem mono_put {n : Nat} {U B : List Nat} (w : Wf n U B) {i j : Nat} (hi : i < n) (s : Bool) : Mono U B (putB U i j) (putS B i j s) := by
  refine ⟨fun a b q => by rw [bt_putB (by rw [w.lu]; exact hi), q]; rfl, fun a b q => ?_⟩
  cases s with
  | false => exact q
  | true =>
    show bt (putB B i j) a b = true
    rw [bt_putB (by rw [w.lb]; exact hi), q]; rfl
def spWith (K : PySem.W.Frag) : Sp := fun vs H Q _ => ∃ (a : Oa) (n : Nat) (rs : List R4) (js : List J4) (U B : List Nat) (i j : Nat) (s : Bool), vs = [.ref a.p, iV i, iV j, .bl s] ∧ OrdAt K H a rs js U B ∧ Wf n U B ∧ Idx n rs js ∧ n ≤ 60 ∧ i < n ∧ j < n ∧
  ∀ a' U' B' H', Ex H H' → OrdAt K H' a' rs js U' B' → More n rs js i j s U B U' B' → (a'.rl = a.rl ∧ a'.jl = a.jl ∧ H a'.ul = none ∧ H a'.bl = none) → Q (.ref a'.p) H'
def spOpen (K : PySem.W.Frag) : Sp := fun vs H Q _ => ∃ (a : Oa) (n : Nat) (rs : List R4) (js : List J4) (U B : List Nat) (i j : Nat), vs = [.ref a.p, iV i, iV j] ∧ OrdAt K H a rs js U B ∧ Wf n U B ∧ i < n ∧ j < n ∧ Q (.bl (!bt U i j && !bt B j i)) H
section
variable {P : Program} {w : World} {K : PySem.W.Frag} {mg : Str → Option Value} {base : Heap}
abbrev N_Order_with_more : List Str := ["self", "i", "j", "is_strict", "found"]
theorem sc_Order_with_more : FnScope N_Order_with_more ["self", "i", "j", "is_strict"] (defScope s_Order_with_more) := ⟨rfl, rfl, rfl, by decide +kernel, rfl, by decide +kernel, by decide +kernel⟩
theorem m_with_more (T : Tx K mg) : C8.Met P w K mg base 4 (He.ga K "Order") "with_more" (spWith K) [] :=
  mkMet T fn_Order_with_more rfl rfl rfl T.cls_Order T.mt_with_more sc_Order_with_more (fun _ _ _ _ _ _ us hl => match us, hl with | [_, _, _, _], _ => rfl) (fun vs H Q E h => by obtain ⟨a, n, rs, js, U, B, i, j, s, rfl, _⟩ := h; rfl) fun f cdv A outer s0 H vs Q E hr h => by
    obtain ⟨a, n, rs, js, U, B, i, j, s, rfl, O, w, x, hn, hi, hj, k⟩ := h
    obtain ⟨dx, hp⟩ := O.ob
    refine ⟨_, (pss_cons (ps_set (i := 4) sc_Order_with_more.nd rfl (Or.inl rfl) (C8.pe_mk (k_Order T) hr (by decide) (by rfl) (pa_cons (pe_fld (pv 0) rfl) (pa_cons (pe_fld (pv 0) rfl) (pa_cons (pe_callTy call_list_of (by rfl) T.f_list (by decide +kernel) (pa_cons (pe_fld (pv 0) rfl) pa_nil)) (pa_cons (pe_callTy call_list_of (by rfl) T.f_list (by decide +kernel) (pa_cons (pe_fld (pv 0) rfl) pa_nil)) pa_nil))))))
      (pss_cons (ps_expr (C8.pe_mt (m_put T) hr (by decide) (pv 4) (pa_cons (pv 1) (pa_cons (pv 2) (pa_cons (pv 3) pa_nil)))))
      (pss_cons (ps_expr (C8.pe_mt0 (m_close T) hr (by decide) (pv 4)))
      (pss_one (ps_ret (pv 4)))))), ?_⟩
    refine ⟨_, rfl, a.p, _, dx, _, _, rfl, hp, T.cls_Order, T.no_rules, ofl_rules a, _, rfl, a.p, _, dx, _, _, rfl, hp, T.cls_Order, T.no_joints, ofl_joints a,
      _, rfl, a.p, _, dx, _, _, rfl, hp, T.cls_Order, T.no_upto, ofl_upto a, a.ul, _, rfl, .inl (SqL.of O.up), fun l1 n1 => ?_⟩
    have e1 : Ex H (upd H l1 (.lst (nV U))) := Evl.Ex.new n1
    have hl1 : (upd H l1 (.lst (nV U))) l1 = some (.lst (nV U)) := upd_same
    have f1 : a.rl ≠ l1 ∧ a.jl ≠ l1 := by
      obtain ⟨_, r1, _⟩ := O.ru
      obtain ⟨_, r2, _⟩ := O.jo
      exact ⟨ne_of_none r1 n1, ne_of_none r2 n1⟩
    generalize upd H l1 (.lst (nV U)) = H1 at e1 hl1
    have O1 := O.ex e1
    obtain ⟨dx1, hp1⟩ := O1.ob
    refine ⟨_, rfl, a.p, _, dx1, _, _, rfl, hp1, T.cls_Order, T.no_below, ofl_below a, a.bl, _, rfl, .inl (SqL.of O1.be), fun l2 n2 => ?_⟩
    have e2 : Ex H1 (upd H1 l2 (.lst (nV B))) := Evl.Ex.new n2
    have hl2 : (upd H1 l2 (.lst (nV B))) l2 = some (.lst (nV B)) := upd_same
    have f2 : a.rl ≠ l2 ∧ a.jl ≠ l2 := by
      obtain ⟨_, r1, _⟩ := O1.ru
      obtain ⟨_, r2, _⟩ := O1.jo
      exact ⟨ne_of_none r1 n2, ne_of_none r2 n2⟩
    have f12 : l1 ≠ l2 := ne_of_none hl1 n2
    generalize upd H1 l2 (.lst (nV B)) = H2 at e2 hl2
    intro p' dx' np ndx ne'
    have e3 : Ex H2 (upd (upd H2 dx' (.own p')) p' (.ins (He.ga K "Order") dx' [])) := fun b o h => by
      rw [upd_ne (ne_of_none h np), upd_ne (ne_of_none h ndx)]
      exact h
    refine ⟨⟨p', a.rl, a.jl, l1, l2⟩, dx', rfl, upd_same, fun H3 h3 k3 => ⟨rfl, ?_⟩⟩
    have e4 : Ex H2 H3 := fun b o h => k3 b o (e3 b o h) (ne_of_none h np)
    have e04 : Ex H H3 := (e1.trans e2).trans e4
    have O3 : OrdAt K H3 ⟨p', a.rl, a.jl, l1, l2⟩ rs js U B := ⟨⟨dx', h3⟩, O.ru.ex e04, O.jo.ex e04, e4 _ _ (e2 _ _ hl1), e4 _ _ hl2, f12, f1.1, f2.1, f1.2, f2.2⟩
    generalize ha : (⟨p', a.rl, a.jl, l1, l2⟩ : Oa) = a' at O3
    have hpa : p' = a'.p := by rw [← ha]
    have hul : l1 = a'.ul := by rw [← ha]
    have hbl : l2 = a'.bl := by rw [← ha]
    have e5 : ∀ {H' : Hp}, But a' H3 H' → Ex H H' := fun {H'} b c o h => b c o (e04 c o h) (by rw [← hul]; exact ne_of_none h n1) (by rw [← hbl]; exact ne_of_none (e1 c o h) n2)
    rw [hpa]
    obtain ⟨dx3, hp3⟩ := O3.ob
    refine ⟨_, rfl, a'.p, dx3, _, rfl, hp3, ofl_put a', _, rfl, _, rfl, _, rfl, a', rs, js, U, B, i, j, s, rfl, O3, by rw [w.lu]; exact hi, by rw [w.lb]; exact hi, by omega, fun H4 O4 b4 => ?_⟩
    obtain ⟨dx4, hp4⟩ := O4.ob
    refine ⟨_, rfl, a'.p, dx4, _, rfl, hp4, ofl_close a', a', n, rs, js, _, _, rfl, O4, w.put hi hj s, x, hn, fun U5 B5 H5 R5 ok => ?_⟩
    refine ⟨_, rfl, k a' U5 B5 H5 (e5 (b4.trans R5.bu)) R5.ob ⟨ok, (mono_put w hi s).trans R5.pr.mono, R5.pr.mono.u _ _ ?_, fun hs => R5.pr.mono.b _ _ ?_, fun v g t h1 h2 => R5.pr.snd v g (sat_put w hi t h1 h2)⟩ ⟨by rw [← ha], by rw [← ha], by rw [← hul]; exact n1, by
      rw [← hbl]
      cases hq : H l2 with
      | none => rfl
      | some o => exact absurd (e1 _ _ hq) (by rw [n2]; exact fun z => nomatch z)⟩⟩
    · rw [bt_putB (by rw [w.lu]; exact hi)]; simp
    · subst hs
      show bt (putB B i j) i j = true
      rw [bt_putB (by rw [w.lb]; exact hi)]; simp
abbrev N_is_open : List Str := ["order", "i", "j"]
theorem sc_is_open : FnScope N_is_open ["order", "i", "j"] (defScope s_is_open) := ⟨rfl, rfl, rfl, by decide +kernel, rfl, by decide +kernel, by decide +kernel⟩
theorem c_is_open (T : Tx K mg) : C8.Cal P w K mg base 2 "is_open" (spOpen K) [] :=
  mkCal T fn_is_open rfl rfl rfl T.mg_is_open sc_is_open (fun _ _ _ _ _ _ us hl => match us, hl with | [_, _, _], _ => rfl) (fun vs H Q E h => by obtain ⟨a, n, rs, js, U, B, i, j, rfl, _⟩ := h; rfl) fun f cdv A outer s0 H vs Q E hr h => by
    obtain ⟨a, n, rs, js, U, B, i, j, rfl, O, w, hi, hj, q⟩ := h
    obtain ⟨dx, hp⟩ := O.ob
    refine ⟨_, (pss_one (ps_ret (pe_and (pe_not (C8.pe_mt (m_is_upto T) hr (by decide) (pv 0) (pa_cons (pv 1) (pa_cons (pv 2) pa_nil)))) (pe_one (pe_not (C8.pe_mt (m_is_below T) hr (by decide) (pv 0) (pa_cons (pv 2) (pa_cons (pv 1) pa_nil)))))))), ?_⟩
    refine ⟨_, rfl, a.p, dx, _, rfl, hp, ofl_is_upto a, _, rfl, _, rfl, a, rs, js, U, B, i, j, rfl, O, by rw [w.lu]; exact hi, _, rfl, _, rfl, ?_⟩
    cases hb : bt U i j with
    | true =>
      rw [hb] at q
      exact iteF q
    | false =>
      refine iteT ?_
      refine ⟨_, rfl, a.p, dx, _, rfl, hp, ofl_is_below a, _, rfl, _, rfl, a, rs, js, U, B, j, i, rfl, O, by rw [w.lb]; exact hj, _, rfl, ?_⟩
      rw [hb] at q
      exact q
end
end K35

/-! {k: v for ..} where the keys are tuples: the layer has it for ints and texts alone. -/
namespace K35
open PySem PySem.Spec PyProof.Rows L2
/-- a tuple put in as a key by a comprehension -/
theorem setTup {X : Cx} {pins : List (Addr × Obj)} {σ : L2.St} {H : Hp} {s : Shared} {E : Value → Shared → Prop} {D t : Addr} {es : List (List Key × V)} {ky : List Key} {v : V} {r : Value} {Q : Unit → Shared → Prop}
    (I : Inv X pins σ H s) (hD : H D = some (.dT es)) (hz : es.length < sizeLine) (ht : H t = some (.tup (ky.map kV))) (hu : X.A.units + 1 < cLine) (rv : RelV v r)
    (h : ∀ s', Inv X pins σ (upd H D (.dT (putK es ky v))) s' → Q () s') : wpAny (model X.prog X.w) X.A (dictSet D (.ref t) r) Q E s := by
  obtain ⟨_, hs, ls, rl, dd⟩ := dt_of I.hok hD
  have z1 : ls.length ≤ sizeLine := by
    rw [← Paired.length rl]
    exact Nat.le_of_lt hz
  have z2 : (putK es ky v).length ≤ sizeLine := Nat.le_trans (length_putK es ky v) hz
  refine wpAny_dictSet_heap (hsz := z1) (Nat.lt_of_succ_lt hu) (key_of I.hok ht) dd fun h1 d1 hb => h _ ?_
  obtain ⟨ob, en, ep, g1, g2, g3, g4, _, g5⟩ := d1
  refine d_write I (by rw [hD]; trivial) hb ⟨ob, g1⟩ ⟨z2, hs, _, (rl.put ky ht rv).keeps fun c ys hc => ?_, ob, en, ep, g1, g2, g3, g4, g5⟩
  rw [upd_ne (ne_of hc hD fun z => nomatch z)]
  exact hc
/-- its reading: D the new dict -/
def tDcT (wi : TI) (g : TG) (tt : TT) (tk tv : TE) (vs : List Nat) : TE := fun σ H Q => wi σ H fun J H1 => ∀ D, H1 D = none → ∃ W : Nat → Nat → Hp → Prop,
  (∃ m, W 0 m (upd H1 D (.dT []))) ∧ ∀ i m H, W i m H → (J.stop i H ∧ Q (.ref D) H) ∨
    (J.go i H ∧ ∃ Nx : Hp → Prop, (∀ H', Nx H' → ∃ m', m' < m ∧ W (i + 1) m' H') ∧ ∀ x H', J.yld i H x H' → g x (wipe σ vs) H' fun σ2 H2 => wipe σ2 vs = wipe σ vs ∧
      tt σ2 H2 fun b H3 => if b = true then tk σ2 H3 fun y H4 => tv σ2 H4 fun z H5 => ∃ es ky t, y = .ref t ∧ H5 t = some (.tup (ky.map kV)) ∧ H5 D = some (.dT es) ∧ es.length < sizeLine ∧ Nx (upd H5 D (.dT (putK es ky z))) else Nx H3)
theorem dcT_core {X : Cx} {pins : List (Addr × Obj)} {s : Shared} {σ : L2.St} {H : Hp} {Q : VK} {kx vx tg iter : Expr} {ifs : List Expr} {scope : Scope} {own : List (Str × Nat)} {pos pos' : Pos} {wi : TI} {g : TG} {tt : TT} {tk tv : TE} {use : Option (Value → Sem Unit)} {Qf : Value → Shared → Prop}
    (hu : X.A.units + 1 < cLine) (hc : X.calm = true) (hN : X.N.Nodup) (I : Inv X pins σ H s) (hi : PI X tg iter wi) (ok : BlkOk X.N X.env.scope scope own) (hg : ∀ (s : Shared) (H : Hp) (C : Addr) (cl : List (Str × Addr)) (fp : List Addr), PG (X.blk s H scope (compEnvC scope cl C X.env) fp) tg g) (ht : ∀ (s : Shared) (H : Hp) (C : Addr) (cl : List (Str × Addr)) (fp : List Addr), PTs (X.blk s H scope (compEnvC scope cl C X.env) fp) ifs tt)
    (hk : ∀ (s : Shared) (H : Hp) (C : Addr) (cl : List (Str × Addr)) (fp : List Addr), PE (X.blk s H scope (compEnvC scope cl C X.env) fp) kx tk) (he : ∀ (s : Shared) (H : Hp) (C : Addr) (cl : List (Str × Addr)) (fp : List Addr), PE (X.blk s H scope (compEnvC scope cl C X.env) fp) vx tv) (hs : ∀ x, foldedSetIterable iter X.env x = pure x)
    (h : tDcT wi g tt tk tv (own.map (·.2)) σ H Q)
    (hRR : ∀ D C s' m H', Inv X pins σ H' s' → Q (.ref D) H' → s'.heap.Ns C m → FpOk X pins H' C → compPost (model X.prog X.w) X.A X.xe use Qf (.ref D) C (.ok .next) s') :
    wpAny (model X.prog X.w) X.A (comprehension (.DictComp kx vx [⟨tg, iter, ifs, 0⟩] scope pos) scope X.env pos' newDict false (eval iter X.env) use) Qf X.xe s := by
  have clo : ∀ y ∈ scope.names, y.2 = .free → ∃ c, X.env.cells.lookup y.1 = some c := fun y hy e => (ok.free y hy e).elim (fun z => I.ok.has _ (.inl z)) fun z => I.ok.has _ (.inr z)
  refine wpAny_comprehension_free (use := use) rfl hs (closure_ok clo) ok.kind (fun y hy e => by rw [ok.uniq y hy, e]) (thn (hi.run pins s σ H _ I h) fun _ _ h1 => thn h1 fun _ s1 h2 => ?_)
  obtain ⟨it, fp, tn, J, H1, rfl, I1, T, a1, b1, q⟩ := h2
  refine wpAny_newObj_type (newEnv_comp ?_)
  obtain ⟨D, hD⟩ : ∃ D, s1.heap.objs.size = D := ⟨_, rfl⟩
  obtain ⟨W, ⟨m0, w0⟩, turn⟩ := q s1.heap.objs.size (I1.hok.fresh (Nat.le_refl _))
  obtain ⟨s2, hs2⟩ : ∃ s2 : Shared, s2 = { s1 with heap := s1.heap.push { cls := .type "dict", data := .dict #[] } } := ⟨_, rfl⟩
  obtain ⟨H2, hH2⟩ : ∃ H2 : Hp, H2 = upd H1 s1.heap.objs.size (.dT []) := ⟨_, rfl⟩
  have p2 : s2.heap = s1.heap.push { cls := .type "dict", data := .dict #[] } := by rw [hs2]
  have I2 : Inv X pins σ H2 s2 := by
    rw [hs2, hH2]
    exact I1.laid (t' := s1.toks) (fun _ _ z => Heap.get?_push_of_some _ z) (Nat.le_refl _) (dt_empty s1.heap I1.big)
  have lo : ∀ b ∈ fp, b < s1.heap.objs.size := fun b hb => Heap.lt_size (T.obj _ _ a1 b hb).choose_spec.1
  have b2 : ∀ b ∈ fp, FpOk X pins H2 b ∧ b < s2.heap.objs.size := fun b hb => by
    have l := lo b hb
    obtain ⟨c1, c2⟩ := b1 b hb
    refine ⟨⟨?_, c2⟩, ?_⟩
    · rw [hH2, upd_ne (Nat.ne_of_lt l)]
      exact c1
    · rw [p2, Heap.size_push]
      exact Nat.lt_succ_of_lt l
  have a2 : tn 0 s2.heap := T.keep _ _ _ a1 fun b _ o z => by
    rw [p2]
    exact Heap.get?_push_of_some _ z
  have I3 := block_start I2 ok hN b2
  rw [← hH2] at w0
  rw [← hs2]
  obtain ⟨cl, hcl⟩ : ∃ cl, cellsFrom (s2.heap.objs.size + 1) scope.names (cloFrom X.env.cells scope.names []) = cl := ⟨_, rfl⟩
  have gg := hg s2 H2 s2.heap.objs.size cl fp
  have gt := ht s2 H2 s2.heap.objs.size cl fp
  have gk := hk s2 H2 s2.heap.objs.size cl fp
  have ge := he s2 H2 s2.heap.objs.size cl fp
  rw [hcl] at I3
  have zero : ∀ b ∈ fp, H2 b = none := fun b hb => (b2 b hb).1.1
  show codeAny _ _ (.compStart (.DictComp kx vx [⟨tg, iter, ifs, 0⟩] scope pos) 0 (.ref it) (.ref s1.heap.objs.size) (compEnvC scope (cellsFrom (s2.heap.objs.size + 1) scope.names (cloFrom X.env.cells scope.names [])) s2.heap.objs.size X.env)) (compPost _ _ _ _ _ _ _) _
  rw [hcl]
  obtain ⟨ce, hce⟩ : ∃ ce, compEnvC scope cl s2.heap.objs.size X.env = ce := ⟨_, rfl⟩
  have cL : ce.locals = s2.heap.objs.size := by rw [← hce]; rfl
  rw [hce] at I3 gg gt gk ge ⊢
  obtain ⟨s3, hs3⟩ : ∃ s3 : Shared, s3 = { s2 with heap := pushCells (s2.heap.push { cls := .type "dict", data := .dict #[] }) scope.names } := ⟨_, rfl⟩
  rw [← hs3] at I3 ⊢
  have a3 : tn 0 s3.heap := T.keep _ _ _ a2 fun b _ o z => by
    rw [hs3]
    exact pushCells_keeps _ _ _ _ (Heap.get?_push_of_some _ z)
  have stat : ∀ {σ' : L2.St} {H' : Hp} {s' : Shared}, Inv (X.blk s2 H2 scope ce fp) [] σ' H' s' → (∀ b ∈ fp, H' b = none) → ∀ b ∈ fp, FpOk (X.blk s2 H2 scope ce fp) [] H' b := fun I' z b hb =>
    ⟨z b hb, (I'.ok.exf b hb).1, I'.ok.exfs b hb, .inl hb, fun x c e => (I'.ok.exf b hb).2 x c e, fun p hp => absurd hp (by simp [Cx.blk])⟩
  have loop : codeAny (model X.prog X.w) X.A (.compLoop (.DictComp kx vx [⟨tg, iter, ifs, 0⟩] scope pos) 0 (.ref it) (.ref s1.heap.objs.size) ce) (compPost (model X.prog X.w) X.A X.xe use Qf (.ref s1.heap.objs.size) s2.heap.objs.size) s3 := by
    refine compLoop_anyD (fun m s' => ∃ i H', Inv (X.blk s2 H2 scope ce fp) [] (wipe σ (own.map (·.2))) H' s' ∧ tn i s'.heap ∧ (∀ b ∈ fp, H' b = none) ∧ W i m H') ?_ m0 ⟨0, H2, I3, a3, zero, w0⟩
    rintro m s4 ⟨i, H4, I4, a4, z4, w4⟩
    rcases turn i m H4 w4 with ⟨stop, k4⟩ | ⟨go, Nx, less, step⟩
    · refine thnF (T.done (X.blk s2 H2 scope ce fp) rfl rfl rfl hc i [] s4 _ H4 (fun _ _ => False) I4 (stat I4 z4) a4 stop) fun r s5 ⟨er, I5⟩ => ?_
      subst er
      have I6 : Inv X pins σ H4 s5 := I2.call' (ch := fp) I5.os I5.base I5.hok I5.bare fun b hb => by
        obtain ⟨⟨_, d1, _, d2, d3, d4⟩, _⟩ := b2 b hb
        exact ⟨d2, d1, d3, d4⟩
      have fr : H4 s2.heap.objs.size = none := by
        rw [← cL]
        exact I5.free
      obtain ⟨mm, hn, _⟩ := I5.loc
      have hn : s5.heap.Ns ce.locals mm := hn
      rw [cL] at hn
      exact hRR _ _ s5 mm H4 I6 k4 hn (I2.fpOk (Nat.le_refl _) fr)
    · refine thnF (T.item (X.blk s2 H2 scope ce fp) rfl rfl rfl hc i [] s4 _ H4 (fun _ _ => False) I4 (stat I4 z4) a4 go) fun r s5 ⟨u, er, h5⟩ => ?_
      subst er
      refine thnF h5 fun _ s6 ⟨x, H6, I6, r6, y6, a6, z6⟩ => ?_
      refine thnF (gg.run _ s6 _ H6 x u _ (I6.pinned (stat I6 z6) (T.obj _ _ a6)) r6 (step x H6 y6)) fun _ s7 ⟨σ7, H7, I7, ew, q7⟩ => ?_
      refine thnF (gt.run _ s7 σ7 H7 _ I7 q7) fun b s8 ⟨H8, I8, q8⟩ => ?_
      have next : ∀ {s' : Shared} {H' : Hp}, Inv (X.blk s2 H2 scope ce fp) ([] ++ pinsAt fp s6.heap) σ7 H' s' → Nx H' →
          ∃ m', m' < m ∧ ∃ i H', Inv (X.blk s2 H2 scope ce fp) [] (wipe σ (own.map (·.2))) H' s' ∧ tn i s'.heap ∧ (∀ b ∈ fp, H' b = none) ∧ W i m' H' := fun {s' H'} I' nx => by
        obtain ⟨m', lm, w'⟩ := less H' nx
        have pin : ∀ b ∈ fp, ∀ o, s6.heap.get? b = some o → s'.heap.get? b = some o ∧ H' b = none := fun b hb o e => by
          have z := I'.pin (b, o) (List.mem_append_right _ (List.mem_append_right _ (mem_pinsAt hb e)))
          exact ⟨z.1, z.2.1⟩
        refine ⟨m', lm, i + 1, H', (I'.unpinned (pins := [])).weak (by rw [← ew, wipe_length]) (fun j v e => ?_), T.keep _ _ _ a6 fun b hb o e => (pin b hb o e).1, fun b hb => ?_, w'⟩
        · rw [← ew] at e
          exact (wipe_some e).1
        · obtain ⟨o, e, _⟩ := T.obj _ _ a6 b hb
          exact (pin b hb o e).2
      cases b with
      | false =>
        simp only [Bool.false_eq_true, if_false] at q8 ⊢
        exact next I8 q8
      | true =>
        simp only [if_true] at q8 ⊢
        refine thnF (gk.run _ s8 σ7 H8 _ I8 q8) fun kz s9 ⟨yk, H9, I9, r9, q9⟩ => ?_
        refine thnF (ge.run _ s9 σ7 H9 _ I9 q9) fun vz s10 ⟨yv, H10, I10, r10, es, ky, t, ek, e1, e2, e3, nx⟩ => ?_
        subst ek
        cases r9
        exact setTup (X := X.blk s2 H2 scope ce fp) I10 e2 e3 e1 hu r10 fun s11 I11 => next I11 nx
  exact codeAny_compStart_dict loop (T.self X.A 0 _ _ _ a3 loop)
theorem pe_dcT {X : Cx} {kx vx tg iter : Expr} {ifs : List Expr} {scope : Scope} {own : List (Str × Nat)} {pos : Pos} {wi : TI} {g : TG} {tt : TT} {tk tv : TE} (hu : X.A.units + 1 < cLine) (hc : X.calm = true) (hN : X.N.Nodup)
    (hi : PI X tg iter wi) (ok : BlkOk X.N X.env.scope scope own) (hg : ∀ (s : Shared) (H : Hp) (C : Addr) (cl : List (Str × Addr)) (fp : List Addr), PG (X.blk s H scope (compEnvC scope cl C X.env) fp) tg g) (ht : ∀ (s : Shared) (H : Hp) (C : Addr) (cl : List (Str × Addr)) (fp : List Addr), PTs (X.blk s H scope (compEnvC scope cl C X.env) fp) ifs tt) (hk : ∀ (s : Shared) (H : Hp) (C : Addr) (cl : List (Str × Addr)) (fp : List Addr), PE (X.blk s H scope (compEnvC scope cl C X.env) fp) kx tk) (he : ∀ (s : Shared) (H : Hp) (C : Addr) (cl : List (Str × Addr)) (fp : List Addr), PE (X.blk s H scope (compEnvC scope cl C X.env) fp) vx tv)
    (hs : ∀ x, foldedSetIterable iter X.env x = pure x := by intro _; rfl) : PE X (.DictComp kx vx [⟨tg, iter, ifs, 0⟩] scope pos) (tDcT wi g tt tk tv (own.map (·.2))) := by
  refine ⟨fun pins s σ H Q I h => ?_⟩
  rw [arm_eval_DictComp]
  refine dcT_core hu hc hN I hi ok hg ht hk he hs h fun D C s' m H' I' q hn f => ⟨m, hn, fun h'' sb => ?_⟩
  obtain ⟨f0, f1, f2, f3, f4, f5⟩ := f
  exact ⟨.ref D, H', I'.turned (t' := s'.toks) (fun b o hb e => (sb.2 b hb).trans e) f0 f1 f3 f4 f5, rfl, q⟩
theorem sw_trueD {kx vx : Expr} {gs : List Comprehension} {scope : Scope} {pos py : Pos} {y : Str} {l : Nat} {env : Env} (hk : env.scope.kind = .function) (hy : env.scope.names.lookup y = some .local) (hl : (py.line == pos.line) = true)
    (ha : (scope.names.any fun (n, k) => n == y && (k == .local || k == .cell)) = false) : swapsWith (.DictComp kx vx gs scope pos) (some (.Name y py)) l env = pure true := by
  have ky : env.kindOf y = some .local := hy
  have hb : env.blockKind = .function := by unfold Env.blockKind; rw [hk]; rfl
  unfold swapsWith
  simp only [hb, ky, ha, Expr.pos, hl]
  rfl
theorem ps_setDcT {X : Cx} {i : Nat} {y : Str} {py : Pos} {kx vx tg iter : Expr} {ifs : List Expr} {scope : Scope} {own : List (Str × Nat)} {pos spos : Pos} {wi : TI} {g : TG} {tt : TT} {tk tv : TE} (hu : X.A.units + 1 < cLine) (hc : X.calm = true) (hN : X.N.Nodup) (hy : X.N[i]? = some y) (hyl : X.env.scope.names.lookup y = some .local)
    (hsw : swapsWith (.DictComp kx vx [⟨tg, iter, ifs, 0⟩] scope pos) (some (.Name y py)) spos.line X.env = pure true) (hi : PI X tg iter wi) (ok : BlkOk X.N X.env.scope scope own)
    (hg : ∀ (s : Shared) (H : Hp) (C : Addr) (cl : List (Str × Addr)) (fp : List Addr), PG (X.blk s H scope (compEnvC scope cl C X.env) fp) tg g) (ht : ∀ (s : Shared) (H : Hp) (C : Addr) (cl : List (Str × Addr)) (fp : List Addr), PTs (X.blk s H scope (compEnvC scope cl C X.env) fp) ifs tt)
    (hk : ∀ (s : Shared) (H : Hp) (C : Addr) (cl : List (Str × Addr)) (fp : List Addr), PE (X.blk s H scope (compEnvC scope cl C X.env) fp) kx tk) (he : ∀ (s : Shared) (H : Hp) (C : Addr) (cl : List (Str × Addr)) (fp : List Addr), PE (X.blk s H scope (compEnvC scope cl C X.env) fp) vx tv) (hs : ∀ x, foldedSetIterable iter X.env x = pure x := by intro _; rfl) :
    PS X (.Assign [.Name y py] (.DictComp kx vx [⟨tg, iter, ifs, 0⟩] scope pos) spos) (tAsg (tDcT wi g tt tk tv (own.map (·.2))) (gName i)) := by
  refine ⟨fun pins s σ H D I h => ?_⟩
  rw [exec_Assign_Name_used _ _ _ _ hsw]
  refine wpAny_bind (wpAny_standAt (wpAny_bind ?_))
  show wpAny _ X.A (do let _ ← comprehension (.DictComp kx vx [⟨tg, iter, ifs, 0⟩] scope pos) scope X.env (firstIterPos [⟨tg, iter, ifs, 0⟩] pos) newDict false (eval iter X.env) (some (assign (.Name y py) X.env))) _ _ s
  have h : tDcT wi g tt tk tv (own.map (·.2)) σ H (fun x H1 => gName i x σ H1 D.nx) := h
  refine wpAny_bind (thn (dcT_core (Qf := fun _ s' => SP X pins D .next s') hu hc hN I hi ok hg ht hk he hs h fun L C s' m H' I' q hn f => ?_) fun _ s' hq => wpAny_pure (wpAny_pure hq))
  show wpAny _ _ (assign (.Name y py) X.env (.ref L)) _ _ _
  refine wpAny_assign_Name (store_ok2 (v := V.ref L) I' hN hy (.inl hyl) rfl (fun s2 I2 ⟨a, sb, ha⟩ => ?_) (.inr hyl))
  obtain ⟨f0, f1, f2, f3, f4, f5⟩ := f
  have haC : C ≠ a := by
    rcases ha with z | z
    · rw [z]; exact f1
    · exact fun e => f4 y a z e.symm
  refine ⟨m, hn.sameBut sb haC, fun h3 sb3 => ?_⟩
  exact ⟨_, H', I2.turned (t' := s2.toks) (fun b o hb e => (sb3.2 b hb).trans e) f0 f1 f3 f4 f5, q⟩
theorem ix_tupK {X : Cx} {K : PySem.W.Frag} (h : X.K = K) : IxR X (rIxT K) := by subst h; exact ix_tup
theorem sl_tupK {X : Cx} {K : PySem.W.Frag} (h : X.K = K) : SlR X (rSlT K) := by subst h; exact sl_tup
theorem pg_tupK {X : Cx} {K : PySem.W.Frag} {es : List Expr} {k : Nat} {pos : Pos} {t : TGs} {n : Nat} (hK : X.K = K) (hc : X.calm = true) (h : PGs X es t)
    (hn : (assignEach es X.env).length = n) (hst : (assignEach es X.env).findIdx? (·.1) = none := by rfl) : PG X (.Tuple es k pos) (gTup K n t) := by subst hK; exact pg_tup hc h hn hst
theorem op_neDK {X : Cx} {K : PySem.W.Frag} (hK : X.K = K) (hu : X.A.units + 64 < cLine) : OpR X (compareOp .NotEq) (rNeD K) := by subst hK; exact op_neD hu
theorem op_eqDK {X : Cx} {K : PySem.W.Frag} (hK : X.K = K) (hu : X.A.units + 64 < cLine) : OpR X (compareOp .Eq) (rEqD K) := by subst hK; exact op_eqD hu
theorem ix_listK {X : Cx} {K : PySem.W.Frag} (hK : X.K = K) : IxR X (rIxL K) := by subst hK; exact ix_list
theorem call_isiK {X : Cx} {K : PySem.W.Frag} (hK : X.K = K) : CallR X (.builtin "isinstance") (rIsi K) := by subst hK; exact call_isi
theorem op_in_seqK {X : Cx} {K : PySem.W.Frag} (hK : X.K = K) : OpR X (compareOp .In) (rIn K false) := by subst hK; exact op_in_seq
theorem op_notIn_seqK {X : Cx} {K : PySem.W.Frag} (hK : X.K = K) : OpR X (compareOp .NotIn) (rIn K true) := by subst hK; exact op_notIn_seq
end K35

/-! Loops over anything that is walked, by one lemma a kind; bits, weight, premises. -/
namespace K35
open PySem PySem.Spec PyProof.Rows L2
/-- what is walked: n turns; x is what the i-th one gives, and the heap then -/
structure Wk (J : It) (n : Nat) (G : Hp → Prop) (Y : Nat → V → Hp → Hp → Prop) : Prop where
  go : ∀ i H, i < n → G H → J.go i H
  stop : ∀ H, G H → J.stop n H
  yld : ∀ i H x H', i < n → G H → J.yld i H x H' → Y i x H H'
theorem wk_list {K : PySem.W.Frag} {a : Addr} {xs : List V} : Wk (Itl K a) xs.length (fun H => SqL K H a xs) fun i x H H' => H' = H ∧ xs[i]? = some x :=
  ⟨fun i H hi h => ⟨xs, xs[i], h, List.getElem?_eq_getElem hi⟩, fun H h => ⟨xs, h, Nat.le_refl _⟩, fun i H x H' _ h q => ⟨q.1, q.2 xs h⟩⟩
theorem wk_enum {K : PySem.W.Frag} {a : Addr} {xs : List V} : Wk (Ite K a) xs.length (fun H => SqL K H a xs) fun i v H H' => ∃ T x, v = .ref T ∧ H T = none ∧ H' = upd H T (.tup [iV i, x]) ∧ xs[i]? = some x :=
  ⟨fun i H hi h => ⟨xs, xs[i], h, List.getElem?_eq_getElem hi⟩, fun H h => ⟨xs, h, Nat.le_refl _⟩, fun i H x H' _ h q => by
    obtain ⟨T, x, e1, e2, e3, e4⟩ := q
    exact ⟨T, x, e1, e2, e3, e4 xs h⟩⟩
theorem wk_str {z : Str} : Wk (Its z) z.cps.size (fun _ => True) fun i v H H' => H' = H ∧ ∃ c, z.cps[i]? = some c ∧ v = .str ⟨#[c]⟩ :=
  ⟨fun i H hi _ => hi, fun H _ => Nat.le_refl _, fun i H x H' _ _ q => q⟩
theorem wk_keys {d : Addr} {o : Obj} {kvs : List (Key × V)} : Wk (Itk d o kvs) kvs.length (fun H => H d = some (.frz o (.dK kvs))) fun i x H H' => H' = H ∧ ∃ k v, kvs[i]? = some (k, v) ∧ x = kV k :=
  ⟨fun i H hi h => ⟨h, hi⟩, fun H h => ⟨h, Nat.le_refl _⟩, fun i H x H' _ _ q => q⟩
section
variable {J : It} {n : Nat} {G : Hp → Prop} {Y : Nat → V → Hp → Hp → Prop}
theorem for_wk (w : Wk J n G Y) {g : TG} {tb : TS} {D : Ends} {σ : L2.St} {H : Hp} (Pv : Nat → L2.St → Hp → Prop) (h0 : Pv 0 σ H) (hG : ∀ i σ H, i ≤ n → Pv i σ H → G H)
    (hs : ∀ i x σ H H', i < n → Pv i σ H → Y i x H H' → g x σ H' fun σ2 H2 => tb { D with nx := Pv (i + 1), ct := Pv (i + 1), bk := D.nx } σ2 H2) (hd : ∀ σ H, Pv n σ H → D.nx σ H) :
    ∃ W : Nat → Nat → L2.St → Hp → Prop, (∃ m, W 0 m σ H) ∧ ∀ i m σ H, W i m σ H →
      (J.stop i H ∧ D.nx σ H) ∨ (J.go i H ∧ ∃ N : L2.St → Hp → Prop, (∀ σ' H', N σ' H' → ∃ m', m' < m ∧ W (i + 1) m' σ' H') ∧ ∀ x H', J.yld i H x H' → g x σ H' fun σ2 H2 => tb { D with nx := N, ct := N, bk := D.nx } σ2 H2) := by
  refine ⟨fun i m σ H => m + i = n ∧ Pv i σ H, ⟨n, rfl, h0⟩, ?_⟩
  rintro i m σ H ⟨e, p⟩
  rcases Nat.lt_or_ge i n with hi | hi
  · exact .inr ⟨w.go i H hi (hG i σ H (Nat.le_of_lt hi) p), Pv (i + 1), fun σ' H' p' => ⟨m - 1, by omega, by omega, p'⟩, fun x H' y => hs i x σ H H' hi p (w.yld i H x H' hi (hG i σ H (Nat.le_of_lt hi) p) y)⟩
  · have ei : i = n := by omega
    subst ei
    exact .inl ⟨w.stop H (hG i σ H (Nat.le_refl _) p), hd σ H p⟩
theorem lc_wk (w : Wk J n G Y) {g : TG} {tt : TT} {te : TE} {vs : List Nat} {σ : L2.St} {H1 : Hp} {D : Addr} {Qd : Hp → Prop} (Pv : Nat → Hp → Prop) (h0 : Pv 0 (upd H1 D (.lst []))) (hG : ∀ i H, i ≤ n → Pv i H → G H)
    (hs : ∀ i x H H', i < n → Pv i H → Y i x H H' → g x (wipe σ vs) H' fun σ2 H2 => wipe σ2 vs = wipe σ vs ∧ tt σ2 H2 fun b H3 =>
      if b = true then te σ2 H3 fun y H4 => ∃ acc, H4 D = some (.lst acc) ∧ acc.length < sizeLine ∧ Pv (i + 1) (upd H4 D (.lst (acc ++ [y]))) else Pv (i + 1) H3) (hd : ∀ H, Pv n H → Qd H) :
    ∃ W : Nat → Nat → Hp → Prop, (∃ m, W 0 m (upd H1 D (.lst []))) ∧ ∀ i m H, W i m H →
      (J.stop i H ∧ Qd H) ∨ (J.go i H ∧ ∃ Nx : Hp → Prop, (∀ H', Nx H' → ∃ m', m' < m ∧ W (i + 1) m' H') ∧ ∀ x H', J.yld i H x H' → g x (wipe σ vs) H' fun σ2 H2 => wipe σ2 vs = wipe σ vs ∧ tt σ2 H2 fun b H3 =>
        if b = true then te σ2 H3 fun y H4 => ∃ acc, H4 D = some (.lst acc) ∧ acc.length < sizeLine ∧ Nx (upd H4 D (.lst (acc ++ [y]))) else Nx H3) := by
  refine ⟨fun i m H => m + i = n ∧ Pv i H, ⟨n, rfl, h0⟩, ?_⟩
  rintro i m H ⟨e, p⟩
  rcases Nat.lt_or_ge i n with hi | hi
  · exact .inr ⟨w.go i H hi (hG i H (Nat.le_of_lt hi) p), Pv (i + 1), fun H' p' => ⟨m - 1, by omega, by omega, p'⟩, fun x H' y => hs i x H H' hi p (w.yld i H x H' hi (hG i H (Nat.le_of_lt hi) p) y)⟩
  · have ei : i = n := by omega
    subst ei
    exact .inl ⟨w.stop H (hG i H (Nat.le_refl _) p), hd H p⟩
theorem dc_wk (w : Wk J n G Y) {g : TG} {tt : TT} {tk tv : TE} {vs : List Nat} {σ : L2.St} {H1 : Hp} {D : Addr} {Qd : Hp → Prop} (Pv : Nat → Hp → Prop) (h0 : Pv 0 (upd H1 D (.dK []))) (hG : ∀ i H, i ≤ n → Pv i H → G H)
    (hs : ∀ i x H H', i < n → Pv i H → Y i x H H' → g x (wipe σ vs) H' fun σ2 H2 => wipe σ2 vs = wipe σ vs ∧ tt σ2 H2 fun b H3 =>
      if b = true then tk σ2 H3 fun y H4 => tv σ2 H4 fun z H5 => ∃ kvs k, y = kV k ∧ H5 D = some (.dK kvs) ∧ kvs.length < sizeLine ∧ Pv (i + 1) (upd H5 D (.dK (putK kvs k z))) else Pv (i + 1) H3) (hd : ∀ H, Pv n H → Qd H) :
    ∃ W : Nat → Nat → Hp → Prop, (∃ m, W 0 m (upd H1 D (.dK []))) ∧ ∀ i m H, W i m H →
      (J.stop i H ∧ Qd H) ∨ (J.go i H ∧ ∃ Nx : Hp → Prop, (∀ H', Nx H' → ∃ m', m' < m ∧ W (i + 1) m' H') ∧ ∀ x H', J.yld i H x H' → g x (wipe σ vs) H' fun σ2 H2 => wipe σ2 vs = wipe σ vs ∧ tt σ2 H2 fun b H3 =>
        if b = true then tk σ2 H3 fun y H4 => tv σ2 H4 fun z H5 => ∃ kvs k, y = kV k ∧ H5 D = some (.dK kvs) ∧ kvs.length < sizeLine ∧ Nx (upd H5 D (.dK (putK kvs k z))) else Nx H3) := by
  refine ⟨fun i m H => m + i = n ∧ Pv i H, ⟨n, rfl, h0⟩, ?_⟩
  rintro i m H ⟨e, p⟩
  rcases Nat.lt_or_ge i n with hi | hi
  · exact .inr ⟨w.go i H hi (hG i H (Nat.le_of_lt hi) p), Pv (i + 1), fun H' p' => ⟨m - 1, by omega, by omega, p'⟩, fun x H' y => hs i x H H' hi p (w.yld i H x H' hi (hG i H (Nat.le_of_lt hi) p) y)⟩
  · have ei : i = n := by omega
    subst ei
    exact .inl ⟨w.stop H (hG i H (Nat.le_refl _) p), hd H p⟩
theorem dcT_wk (w : Wk J n G Y) {g : TG} {tt : TT} {tk tv : TE} {vs : List Nat} {σ : L2.St} {H1 : Hp} {D : Addr} {Qd : Hp → Prop} (Pv : Nat → Hp → Prop) (h0 : Pv 0 (upd H1 D (.dT []))) (hG : ∀ i H, i ≤ n → Pv i H → G H)
    (hs : ∀ i x H H', i < n → Pv i H → Y i x H H' → g x (wipe σ vs) H' fun σ2 H2 => wipe σ2 vs = wipe σ vs ∧ tt σ2 H2 fun b H3 =>
      if b = true then tk σ2 H3 fun y H4 => tv σ2 H4 fun z H5 => ∃ es ky t, y = .ref t ∧ H5 t = some (.tup (ky.map kV)) ∧ H5 D = some (.dT es) ∧ es.length < sizeLine ∧ Pv (i + 1) (upd H5 D (.dT (putK es ky z))) else Pv (i + 1) H3) (hd : ∀ H, Pv n H → Qd H) :
    ∃ W : Nat → Nat → Hp → Prop, (∃ m, W 0 m (upd H1 D (.dT []))) ∧ ∀ i m H, W i m H →
      (J.stop i H ∧ Qd H) ∨ (J.go i H ∧ ∃ Nx : Hp → Prop, (∀ H', Nx H' → ∃ m', m' < m ∧ W (i + 1) m' H') ∧ ∀ x H', J.yld i H x H' → g x (wipe σ vs) H' fun σ2 H2 => wipe σ2 vs = wipe σ vs ∧ tt σ2 H2 fun b H3 =>
        if b = true then tk σ2 H3 fun y H4 => tv σ2 H4 fun z H5 => ∃ es ky t, y = .ref t ∧ H5 t = some (.tup (ky.map kV)) ∧ H5 D = some (.dT es) ∧ es.length < sizeLine ∧ Nx (upd H5 D (.dT (putK es ky z))) else Nx H3) := by
  refine ⟨fun i m H => m + i = n ∧ Pv i H, ⟨n, rfl, h0⟩, ?_⟩
  rintro i m H ⟨e, p⟩
  rcases Nat.lt_or_ge i n with hi | hi
  · exact .inr ⟨w.go i H hi (hG i H (Nat.le_of_lt hi) p), Pv (i + 1), fun H' p' => ⟨m - 1, by omega, by omega, p'⟩, fun x H' y => hs i x H H' hi p (w.yld i H x H' hi (hG i H (Nat.le_of_lt hi) p) y)⟩
  · have ei : i = n := by omega
    subst ei
    exact .inl ⟨w.stop H (hG i H (Nat.le_refl _) p), hd H p⟩
end
def spBits : Sp := fun vs H Q _ => ∃ n : Nat, vs = [iV n] ∧ ∀ z : Int, Q (.int z) H
def spWeight (K : PySem.W.Frag) : Sp := fun vs H Q _ => ∃ (a : Oa) (n : Nat) (rs : List R4) (js : List J4) (U B : List Nat), vs = [.ref a.p] ∧ OrdAt K H a rs js U B ∧ Wf n U B ∧ n ≤ 60 ∧ ∀ (z : Int) H', Ex H H' → Q (.int z) H'
/-- two values, not compared yet -/
def OpenP (n : Nat) (U B : List Nat) (i j : Nat) : Prop := i < n ∧ j < n ∧ i ≠ j ∧ bt U i j = false ∧ bt B j i = false
/-- a list of pairs of numbers -/
def PairsL (C : Nat → Nat → Prop) (H : Hp) (l : Addr) (ts : List Addr) : Prop := H l = some (.lst (ts.map V.ref)) ∧ ∀ t ∈ ts, ∃ i j, C i j ∧ H t = some (.tup [iV i, iV j])
theorem PairsL.ex {C : Nat → Nat → Prop} {H H' : Hp} {l : Addr} {ts : List Addr} (e : Ex H H') (h : PairsL C H l ts) : PairsL C H' l ts :=
  ⟨e _ _ h.1, fun t ht => by obtain ⟨i, j, c, q⟩ := h.2 t ht; exact ⟨i, j, c, e _ _ q⟩⟩
def spPrem (K : PySem.W.Frag) : Sp := fun vs H Q _ => ∃ (a : Oa) (n : Nat) (rs : List R4) (js : List J4) (U B : List Nat), vs = [.ref a.p] ∧ OrdAt K H a rs js U B ∧ Wf n U B ∧ Idx n rs js ∧ n ≤ 60 ∧ rs.length ≤ 1000 ∧ js.length ≤ 1000 ∧
  ∀ l ts H', Ex H H' → PairsL (OpenP n U B) H' l ts → ts.length ≤ 3000 → Q (.ref l) H'
section
variable {P : Program} {w : World} {K : PySem.W.Frag} {mg : Str → Option Value} {base : Heap}
abbrev N_bits : List Str := ["number", "many"]
theorem sc_bits : FnScope N_bits ["number"] (defScope s_bits) := ⟨rfl, rfl, rfl, by decide +kernel, rfl, by decide +kernel, by decide +kernel⟩
theorem c_bits (T : Tx K mg) : C8.Cal P w K mg base 1 "bits" spBits [] :=
  mkCal T fn_bits rfl rfl rfl T.mg_bits sc_bits (fun _ _ _ _ _ _ us hl => match us, hl with | [_], _ => rfl) (fun vs H Q E h => by obtain ⟨n, rfl, _⟩ := h; rfl) fun f cdv A outer s0 H vs Q E hr h => by
    obtain ⟨n, rfl, k⟩ := h
    refine ⟨_, (pss_cons (ps_set (i := 1) sc_bits.nd rfl (Or.inl rfl) pe_int)
      (pss_cons (ps_while PassesOwn.never (pt_cmpR op_gt (pv 0) pe_int (nomark _)) (pss_cons (ps_aug (i := 0) sc_bits.nd rfl (Or.inl rfl) (pe_op op_sub (pv 0) pe_int) iop_and)
        (pss_one (ps_aug (i := 1) sc_bits.nd rfl (Or.inl rfl) pe_int iop_add))))
      (pss_one (ps_ret (pv 1))))), ?_⟩
    show tWhile _ _ _ _ _
    refine ⟨fun m σ H' => H' = H ∧ ∃ z : Int, σ = [some (iV m), some (.int z)], ⟨n, rfl, 0, rfl⟩, ?_⟩
    rintro m σ H' ⟨rfl, z, rfl⟩
    refine ⟨_, rfl, _, _, rfl, rfl, _, rfl, ?_⟩
    refine ite2 (fun h => ?_) fun _ => ⟨_, rfl, k z⟩
    have h : (0 : Int) < (m : Int) := of_decide_eq_true h
    have hr := bitAnd_range (m : Int) (y := (m : Int) - 1) (by omega)
    refine ⟨_, fun _ _ q => q, _, rfl, _, rfl, _, _, rfl, rfl, _, _, rfl, rfl, ?_⟩
    refine ⟨_, rfl, _, _, rfl, rfl, ?_⟩
    refine ⟨(Builtin.bitAnd (m : Int) ((m : Int) - 1)).toNat, by omega, rfl, z + 1, ?_⟩
    have e : (((Builtin.bitAnd (m : Int) ((m : Int) - 1)).toNat : Nat) : Int) = Builtin.bitAnd (m : Int) ((m : Int) - 1) := Int.toNat_of_nonneg hr.1
    show _ = [some (V.int _), _]
    rw [e]
    rfl
abbrev N_weight : List Str := ["order", "one"]
theorem sc_weight : FnScope N_weight ["order"] (defScope s_weight) := ⟨rfl, rfl, rfl, by decide +kernel, rfl, by decide +kernel, by decide +kernel⟩
theorem c_weight (T : Tx K mg) : C8.Cal P w K mg base 3 "weight" (spWeight K) [] :=
  mkCal T fn_weight rfl rfl rfl T.mg_weight sc_weight (fun _ _ _ _ _ _ us hl => match us, hl with | [_], _ => rfl) (fun vs H Q E h => by obtain ⟨a, n, rs, js, U, B, rfl, _⟩ := h; rfl) fun f cdv A outer s0 H vs Q E hr h => by
    obtain ⟨a, n, rs, js, U, B, rfl, O, wf, hn, k⟩ := h
    obtain ⟨dx, hp⟩ := O.ob
    refine ⟨_, (pss_cons (ps_if (pt_val (C8.pe_mt0 (m_is_contrary T) hr (by decide) (pv 0))) (pss_one (ps_ret (pe_op op_pow pe_int pe_int))) pss_nil)
      (pss_one (ps_ret (pe_op op_add (pe_callB (cr_sum rfl) (by rfl) T.f_sum (by decide +kernel) (pa_cons (pe_lc (own := [("one", 1)]) (g := gName 1) rfl sc_weight.nd (pi_list (pe_fld (pv 0) rfl)) (blkOk_by (own := [("one", 1)]) (N := N_weight) (sc := defScope s_weight) (by decide +kernel)) (fun _ _ _ _ _ => (pg_name (i := 1) sc_weight.nd rfl (Or.inl rfl))) (fun _ _ _ _ _ => pts_nil) (fun _ _ _ _ _ => (C8.pe_c (c_bits T) hr (by decide) (by rfl) (pa_cons (pv 1) pa_nil)))) pa_nil)) (pe_callB (cr_sum rfl) (by rfl) T.f_sum (by decide +kernel) (pa_cons (pe_lc (own := [("one", 1)]) (g := gName 1) rfl sc_weight.nd (pi_list (pe_fld (pv 0) rfl)) (blkOk_by (own := [("one", 1)]) (N := N_weight) (sc := defScope s_weight) (by decide +kernel)) (fun _ _ _ _ _ => (pg_name (i := 1) sc_weight.nd rfl (Or.inl rfl))) (fun _ _ _ _ _ => pts_nil) (fun _ _ _ _ _ => (C8.pe_c (c_bits T) hr (by decide) (by rfl) (pa_cons (pv 1) pa_nil)))) pa_nil)))))), ?_⟩
    refine ⟨_, rfl, a.p, dx, _, rfl, hp, ofl_is_contrary a, a, rs, js, U, B, rfl, O, by have := wf.lb; omega, fun b H1 _ e1 => ⟨b, rfl, ?_⟩⟩
    cases b with
    | true => exact iteT ⟨_, _, rfl, rfl, ⟨by decide, by decide, by decide⟩, k _ H1 e1⟩
    | false =>
      refine iteF ?_
      have O1 := O.ex e1
      obtain ⟨dx1, hp1⟩ := O1.ob
      refine ⟨_, rfl, a.p, _, dx1, _, _, rfl, hp1, T.cls_Order, T.no_upto, ofl_upto a, a.ul, rfl, ⟨_, SqL.of O1.up⟩, fun D nD => ?_⟩
      refine lc_wk (wk_list (K := K) (a := a.ul) (xs := nV U)) (fun i H' => Ex H1 H' ∧ ∃ zs : List Int, H' D = some (.lst (zs.map V.int)) ∧ zs.length = i) ⟨Evl.Ex.new nD, [], upd_same, rfl⟩ (fun i H' _ p => SqL.of (p.1 _ _ O1.up)) ?_ ?_
      · rintro i x H2 H3 hi ⟨e2, zs, hz, hl⟩ ⟨rfl, hx⟩
        rw [nV_len] at hi
        rw [nV_at hi] at hx
        cases hx
        refine ⟨rfl, ?_⟩
        refine ⟨_, rfl, _, rfl, fun z => ?_⟩
        refine ⟨_, hz, lt_line (by rw [List.length_map]; have := wf.lu; omega), Evl.Ex.mut e2 nD, zs ++ [z], ?_, by simp [hl]⟩
        rw [upd_same, List.map_append]; rfl
      · rintro H2 ⟨e2, zs, hz, _⟩
        refine ⟨D, zs, rfl, SqL.of hz, ?_⟩
        have O2 := O1.ex e2
        obtain ⟨dx2, hp2⟩ := O2.ob
        refine ⟨_, rfl, a.p, _, dx2, _, _, rfl, hp2, T.cls_Order, T.no_below, ofl_below a, a.bl, rfl, ⟨_, SqL.of O2.be⟩, fun D' nD' => ?_⟩
        refine lc_wk (wk_list (K := K) (a := a.bl) (xs := nV B)) (fun i H' => Ex H2 H' ∧ ∃ zs : List Int, H' D' = some (.lst (zs.map V.int)) ∧ zs.length = i) ⟨Evl.Ex.new nD', [], upd_same, rfl⟩ (fun i H' _ p => SqL.of (p.1 _ _ O2.be)) ?_ ?_
        · rintro i x H3 H4 hi ⟨e3, zs, hz, hl⟩ ⟨rfl, hx⟩
          rw [nV_len] at hi
          rw [nV_at hi] at hx
          cases hx
          refine ⟨rfl, ?_⟩
          refine ⟨_, rfl, _, rfl, fun z => ?_⟩
          refine ⟨_, hz, lt_line (by rw [List.length_map]; have := wf.lb; omega), Evl.Ex.mut e3 nD', zs ++ [z], ?_, by simp [hl]⟩
          rw [upd_same, List.map_append]; rfl
        · rintro H3 ⟨e3, zs', hz', _⟩
          exact ⟨D', zs', rfl, SqL.of hz', _, _, rfl, rfl, k _ H3 ((e1.trans e2).trans e3)⟩
end
end K35

/-! premises, first_open, chosen, tried, completed. -/
namespace K35
open PySem PySem.Spec PyProof.Rows L2
theorem mem_putK {κ : Type} [DecidableEq κ] {es : List (κ × V)} {k : κ} {v : V} {e : κ × V} (h : e ∈ putK es k v) : e.1 = k ∨ ∃ e' ∈ es, e'.1 = e.1 := by
  unfold putK at h
  split at h
  · obtain ⟨e', he, q⟩ := List.mem_map.mp h
    refine .inr ⟨e', he, ?_⟩
    rw [← q]
    split <;> rfl
  · rcases List.mem_append.mp h with h | h
    · exact .inr ⟨e, h, rfl⟩
    · rw [List.mem_singleton] at h
      exact .inl (by rw [h])
theorem paired_mem {α β : Type} {F : α → β → Prop} : ∀ {l : List α} {m : List β}, Paired F l m → ∀ b ∈ m, ∃ a ∈ l, F a b
  | _, _, .nil, b, h => by cases h
  | a :: l, c :: m, .cons r t, b, h => by
    rcases List.mem_cons.mp h with e | h
    · exact ⟨a, List.mem_cons_self, by rw [e]; exact r⟩
    · obtain ⟨x, hx, q⟩ := paired_mem t b h
      exact ⟨x, List.mem_cons_of_mem _ hx, q⟩
theorem paired_len {α β : Type} {F : α → β → Prop} {l : List α} {m : List β} (h : Paired F l m) : l.length = m.length := Paired.length h
/-- an order, with what the walk asks of it -/
structure Oz (K : PySem.W.Frag) (H : Hp) (a : Oa) (n : Nat) (rs : List R4) (js : List J4) (U B : List Nat) : Prop where
  ob : OrdAt K H a rs js U B
  wf : Wf n U B
  ix : Idx n rs js
  hn : n ≤ 60
  h1 : rs.length ≤ 1000
  h2 : js.length ≤ 1000
theorem Oz.ex {K : PySem.W.Frag} {H H' : Hp} {a : Oa} {n : Nat} {rs : List R4} {js : List J4} {U B : List Nat} (z : Oz K H a n rs js U B) (e : Ex H H') : Oz K H' a n rs js U B := ⟨z.ob.ex e, z.wf, z.ix, z.hn, z.h1, z.h2⟩
/-- a pair that is open, or none: then all is known -/
def Pick (n : Nat) (U B : List Nat) (H : Hp) (Q : VK) : Prop := (∀ H', Ex H H' → Decided n U B → Q .non H') ∧ ∀ t i j H', Ex H H' → H' t = some (.tup [iV i, iV j]) → OpenP n U B i j → Q (.ref t) H'
def spPick (K : PySem.W.Frag) : Sp := fun vs H Q _ => ∃ (a : Oa) (n : Nat) (rs : List R4) (js : List J4) (U B : List Nat), vs = [.ref a.p] ∧ Oz K H a n rs js U B ∧ Pick n U B H Q
def spTried (K : PySem.W.Frag) : Sp := fun vs H Q _ => ∃ (a : Oa) (n : Nat) (rs : List R4) (js : List J4) (U B : List Nat) (i j : Nat), vs = [.ref a.p, iV i, iV j] ∧ Oz K H a n rs js U B ∧ OpenP n U B i j ∧ (∀ H', Ex H H' → Q .non H') ∧
  ∀ a' U' B' H', Ex H H' → Oz K H' a' n rs js U' B' → Okay n rs js U' B' → ¬ Contrary B' → Mono U B U' B' → unk n U' B' < unk n U B → Q (.ref a'.p) H'
def spCompl (K : PySem.W.Frag) : Sp := fun vs H Q _ => ∃ (a : Oa) (n : Nat) (rs : List R4) (js : List J4) (U B : List Nat), vs = [.ref a.p] ∧ Oz K H a n rs js U B ∧ Okay n rs js U B ∧ ¬ Contrary B ∧ (∀ H', Ex H H' → Q .non H') ∧
  ∀ a' U' B' H', Ex H H' → Oz K H' a' n rs js U' B' → Okay n rs js U' B' → ¬ Contrary B' → Mono U B U' B' → Decided n U' B' → Q (.ref a'.p) H'
section
variable {P : Program} {w : World} {K : PySem.W.Frag} {mg : Str → Option Value} {base : Heap}
abbrev N_premises : List Str := ["order", "pairs", "rule", "joint", "pair"]
theorem sc_premises : FnScope N_premises ["order"] (defScope s_premises) := ⟨rfl, rfl, rfl, by decide +kernel, rfl, by decide +kernel, by decide +kernel⟩
theorem c_premises (T : Tx K mg) : C8.Cal P w K mg base 3 "premises" (spPrem K) [] :=
  mkCal T fn_premises rfl rfl rfl T.mg_premises sc_premises (fun _ _ _ _ _ _ us hl => match us, hl with | [_], _ => rfl) (fun vs H Q E h => by obtain ⟨a, n, rs, js, U, B, rfl, _⟩ := h; rfl) fun f cdv A outer s0 H vs Q E hr h => by
    obtain ⟨a, n, rs, js, U, B, rfl, O, wf, x, hn, hr1, hj1, k⟩ := h
    have hu := hu_of hr
    obtain ⟨dx, hp⟩ := O.ob
    refine ⟨_, (pss_cons (ps_set (i := 1) sc_premises.nd rfl (Or.inl rfl) (pe_op op_cat (pe_lc (own := [("rule", 2)]) (g := gName 2) rfl sc_premises.nd (pi_list (pe_fld (pv 0) rfl)) (blkOk_by (own := [("rule", 2)]) (N := N_premises) (sc := defScope s_premises) (by decide +kernel)) (fun _ _ _ _ _ => (pg_name (i := 2) sc_premises.nd rfl (Or.inl rfl))) (fun _ _ _ _ _ => pts_nil) (fun _ _ _ _ _ => (pe_slice (sl_tupK (K := K) rfl) (pv 2) po_none (po_some pe_int)))) (pe_lc (own := [("joint", 3)]) (g := gName 3) rfl sc_premises.nd (pi_list (pe_fld (pv 0) rfl)) (blkOk_by (own := [("joint", 3)]) (N := N_premises) (sc := defScope s_premises) (by decide +kernel)) (fun _ _ _ _ _ => (pg_name (i := 3) sc_premises.nd rfl (Or.inl rfl))) (fun _ _ _ _ _ => pts_nil) (fun _ _ _ _ _ => (pe_slice (sl_tupK (K := K) rfl) (pv 3) (po_some pe_int) (po_some pe_int))))))
      (pss_cons (ps_set (i := 1) sc_premises.nd rfl (Or.inl rfl) (pe_op op_cat (pv 1) (pe_lc (own := [("rule", 2)]) (g := gName 2) rfl sc_premises.nd (pi_list (pe_fld (pv 0) rfl)) (blkOk_by (own := [("rule", 2)]) (N := N_premises) (sc := defScope s_premises) (by decide +kernel)) (fun _ _ _ _ _ => (pg_name (i := 2) sc_premises.nd rfl (Or.inl rfl))) (fun _ _ _ _ _ => pts_nil) (fun _ _ _ _ _ => (pe_slice (sl_tupK (K := K) rfl) (pv 2) (po_some pe_int) po_none)))))
      (pss_one (ps_ret (pe_callTy (call_list_dT rfl) (by rfl) T.f_list (by decide +kernel) (pa_cons (pe_dcT hu (own := [("pair", 4)]) (g := gName 4) rfl sc_premises.nd (pi_list (pv 1)) (blkOk_by (own := [("pair", 4)]) (N := N_premises) (sc := defScope s_premises) (by decide +kernel)) (fun _ _ _ _ _ => (pg_name (i := 4) sc_premises.nd rfl (Or.inl rfl))) (fun _ _ _ _ _ => (pts_one (PW.pt (pw_and (pt_cmpR op_ne (pe_ix (ix_tupK (K := K) rfl) (pv 4) pe_int (fun _ _ => rfl)) (pe_ix (ix_tupK (K := K) rfl) (pv 4) pe_int (fun _ _ => rfl)) (nomark _)) (pw_and1 (pt_val (C8.pe_c (c_is_open T) hr (by decide) (by rfl) (pa_cons (pv 0) (pa_cons (pe_ix (ix_tupK (K := K) rfl) (pv 4) pe_int (fun _ _ => rfl)) (pa_cons (pe_ix (ix_tupK (K := K) rfl) (pv 4) pe_int (fun _ _ => rfl)) pa_nil)))))))))) (fun _ _ _ _ _ => (pv 4)) (fun _ _ _ _ _ => pe_bl)) pa_nil)))))), ?_⟩
    obtain ⟨t1, r1, r2, r3⟩ := id O.ru
    obtain ⟨t2, j1, j2, j3⟩ := id O.jo
    refine ⟨_, rfl, a.p, _, dx, _, _, rfl, hp, T.cls_Order, T.no_rules, ofl_rules a, a.rl, rfl, ⟨_, SqL.of r1⟩, fun D1 n1 => ?_⟩
    refine lc_wk (wk_list (K := K) (a := a.rl) (xs := t1.map V.ref)) (fun i H' => Ex H H' ∧ ∃ ts, PairsL (fun i j => i < n ∧ j < n) H' D1 ts ∧ ts.length = i) ⟨Evl.Ex.new n1, [], ⟨upd_same, fun t h => by cases h⟩, rfl⟩ (fun i H' _ p => SqL.of (p.1 _ _ r1)) ?_ ?_
    · rintro i y H1 H2 hi ⟨e1, ts, hts, hl⟩ ⟨rfl, hy⟩
      rw [List.getElem?_map] at hy
      obtain ⟨t, ht, rfl⟩ := Option.map_eq_some_iff.mp hy
      obtain ⟨r, hr0⟩ : ∃ r, rs[i]? = some r := ⟨rs[i]'(by rw [← r2]; exact (List.getElem?_eq_some_iff.mp ht).1), List.getElem?_eq_getElem _⟩
      have ht1 := e1 _ _ (r3 i t r ht hr0)
      have ix := x.1 r (List.mem_of_getElem? hr0)
      refine ⟨rfl, ?_⟩
      refine ⟨_, rfl, _, rfl, t, _, rfl, SqT.of ht1, (by show ¬ (HT.sIx 4 0 _ = 0 ∧ HT.sIx 4 4 _ = 4); decide), fun p np => ?_⟩
      have e2 : Ex H2 (upd H2 p (.tup [iV r.1, iV r.2.1])) := Evl.Ex.new np
      refine ⟨_, e2 _ _ hts.1, lt_line (by rw [List.length_map, hl]; rw [List.length_map] at hi; omega), Evl.Ex.mut (e1.trans e2) n1, ts ++ [p], ⟨?_, fun t' ht' => ?_⟩, by simp [hl]⟩
      · rw [upd_same, List.map_append]; rfl
      · have nd : ∀ {c : Addr} {vs : List V}, (upd H2 p (.tup [iV r.1, iV r.2.1])) c = some (.tup vs) → (upd (upd H2 p (.tup [iV r.1, iV r.2.1])) D1 (.lst (ts.map V.ref ++ [V.ref p]))) c = some (.tup vs) := fun {c vs} hc => by
          rw [upd_ne (ne_of hc (e2 _ _ hts.1) (fun z => nomatch z))]
          exact hc
        rcases List.mem_append.mp ht' with h | h
        · obtain ⟨i', j', c, q⟩ := hts.2 t' h
          exact ⟨i', j', c, nd (e2 _ _ q)⟩
        · rw [List.mem_singleton] at h
          exact ⟨r.1, r.2.1, ⟨ix.1, ix.2.1⟩, nd (by rw [h]; exact upd_same)⟩
    rintro H1 ⟨e1, ts1, hts1, hl1⟩
    have O1 := O.ex e1
    obtain ⟨dx1, hp1⟩ := O1.ob
    refine ⟨_, rfl, a.p, _, dx1, _, _, rfl, hp1, T.cls_Order, T.no_joints, ofl_joints a, a.jl, rfl, ⟨_, SqL.of (e1 _ _ j1)⟩, fun D2 n2 => ?_⟩
    refine lc_wk (wk_list (K := K) (a := a.jl) (xs := t2.map V.ref)) (fun i H' => Ex H1 H' ∧ ∃ ts, PairsL (fun i j => i < n ∧ j < n) H' D2 ts ∧ ts.length = i) ⟨Evl.Ex.new n2, [], ⟨upd_same, fun t h => by cases h⟩, rfl⟩ (fun i H' _ p => SqL.of (p.1 _ _ (e1 _ _ j1))) ?_ ?_
    · rintro i y H2 H3 hi ⟨e2, ts, hts, hl⟩ ⟨rfl, hy⟩
      rw [List.getElem?_map] at hy
      obtain ⟨t, ht, rfl⟩ := Option.map_eq_some_iff.mp hy
      obtain ⟨r, hr0⟩ : ∃ r, js[i]? = some r := ⟨js[i]'(by rw [← j2]; exact (List.getElem?_eq_some_iff.mp ht).1), List.getElem?_eq_getElem _⟩
      have ht1 := e2 _ _ (e1 _ _ (j3 i t r ht hr0))
      have ix := x.2 r (List.mem_of_getElem? hr0)
      refine ⟨rfl, ?_⟩
      refine ⟨_, rfl, _, rfl, _, rfl, t, _, rfl, SqT.of ht1, (by show ¬ (HT.sIx 4 0 _ = 0 ∧ HT.sIx 4 4 _ = 4); decide), fun p np => ?_⟩
      have e3 : Ex H3 (upd H3 p (.tup [iV r.2.1, iV r.2.2.1])) := Evl.Ex.new np
      refine ⟨_, e3 _ _ hts.1, lt_line (by rw [List.length_map, hl]; rw [List.length_map] at hi; omega), Evl.Ex.mut (e2.trans e3) n2, ts ++ [p], ⟨?_, fun t' ht' => ?_⟩, by simp [hl]⟩
      · rw [upd_same, List.map_append]; rfl
      · have nd : ∀ {c : Addr} {vs : List V}, (upd H3 p (.tup [iV r.2.1, iV r.2.2.1])) c = some (.tup vs) → (upd (upd H3 p (.tup [iV r.2.1, iV r.2.2.1])) D2 (.lst (ts.map V.ref ++ [V.ref p]))) c = some (.tup vs) := fun {c vs} hc => by
          rw [upd_ne (ne_of hc (e3 _ _ hts.1) (fun z => nomatch z))]
          exact hc
        rcases List.mem_append.mp ht' with h | h
        · obtain ⟨i', j', c, q⟩ := hts.2 t' h
          exact ⟨i', j', c, nd (e3 _ _ q)⟩
        · rw [List.mem_singleton] at h
          exact ⟨r.2.1, r.2.2.1, ⟨ix.1, ix.2.1⟩, nd (by rw [h]; exact upd_same)⟩
    rintro H2 ⟨e2, ts2, hts2, hl2⟩
    rw [List.length_map] at hl1 hl2
    refine ⟨D1, D2, _, _, rfl, rfl, e2 _ _ hts1.1, hts2.1, Nat.le_of_lt (Nat.lt_of_le_of_lt (m := 2000) (by rw [List.length_map, List.length_map]; omega) (by decide)), fun D3 n3 => ?_⟩
    have e3 : Ex H2 (upd H2 D3 (.lst (ts1.map V.ref ++ ts2.map V.ref))) := Evl.Ex.new n3
    have p3 : PairsL (fun i j => i < n ∧ j < n) (upd H2 D3 (.lst (ts1.map V.ref ++ ts2.map V.ref))) D3 (ts1 ++ ts2) := by
      refine ⟨by rw [List.map_append]; exact upd_same, fun t ht => ?_⟩
      rcases List.mem_append.mp ht with h | h
      · obtain ⟨i, j, c, q⟩ := hts1.2 t h
        exact ⟨i, j, c, e3 _ _ (e2 _ _ q)⟩
      · obtain ⟨i, j, c, q⟩ := hts2.2 t h
        exact ⟨i, j, c, e3 _ _ q⟩
    show tSeq _ _ _ _ (upd H2 D3 (.lst (ts1.map V.ref ++ ts2.map V.ref)))
    generalize upd H2 D3 (.lst (ts1.map V.ref ++ ts2.map V.ref)) = H3 at e3 p3
    have e03 : Ex H H3 := (e1.trans e2).trans e3
    have O3 := O.ex e03
    obtain ⟨dx3, hp3⟩ := O3.ob
    refine ⟨_, rfl, _, rfl, a.p, _, dx3, _, _, rfl, hp3, T.cls_Order, T.no_rules, ofl_rules a, a.rl, rfl, ⟨_, SqL.of (e03 _ _ r1)⟩, fun D4 n4 => ?_⟩
    refine lc_wk (wk_list (K := K) (a := a.rl) (xs := t1.map V.ref)) (fun i H' => Ex H3 H' ∧ ∃ ts, PairsL (fun i j => i < n ∧ j < n) H' D4 ts ∧ ts.length = i) ⟨Evl.Ex.new n4, [], ⟨upd_same, fun t h => by cases h⟩, rfl⟩ (fun i H' _ p => SqL.of (p.1 _ _ (e03 _ _ r1))) ?_ ?_
    · rintro i y H4 H5 hi ⟨e4, ts, hts, hl⟩ ⟨rfl, hy⟩
      rw [List.getElem?_map] at hy
      obtain ⟨t, ht, rfl⟩ := Option.map_eq_some_iff.mp hy
      obtain ⟨r, hr0⟩ : ∃ r, rs[i]? = some r := ⟨rs[i]'(by rw [← r2]; exact (List.getElem?_eq_some_iff.mp ht).1), List.getElem?_eq_getElem _⟩
      have ht1 := e4 _ _ (e03 _ _ (r3 i t r ht hr0))
      have ix := x.1 r (List.mem_of_getElem? hr0)
      refine ⟨rfl, ?_⟩
      refine ⟨_, rfl, _, rfl, t, _, rfl, SqT.of ht1, (by show ¬ (HT.sIx 4 0 _ = 0 ∧ HT.sIx 4 4 _ = 4); decide), fun p np => ?_⟩
      have e5 : Ex H5 (upd H5 p (.tup [iV r.2.2.1, iV r.2.2.2])) := Evl.Ex.new np
      refine ⟨_, e5 _ _ hts.1, lt_line (by rw [List.length_map, hl]; rw [List.length_map] at hi; omega), Evl.Ex.mut (e4.trans e5) n4, ts ++ [p], ⟨?_, fun t' ht' => ?_⟩, by simp [hl]⟩
      · rw [upd_same, List.map_append]; rfl
      · have nd : ∀ {c : Addr} {vs : List V}, (upd H5 p (.tup [iV r.2.2.1, iV r.2.2.2])) c = some (.tup vs) → (upd (upd H5 p (.tup [iV r.2.2.1, iV r.2.2.2])) D4 (.lst (ts.map V.ref ++ [V.ref p]))) c = some (.tup vs) := fun {c vs} hc => by
          rw [upd_ne (ne_of hc (e5 _ _ hts.1) (fun z => nomatch z))]
          exact hc
        rcases List.mem_append.mp ht' with h | h
        · obtain ⟨i', j', c, q⟩ := hts.2 t' h
          exact ⟨i', j', c, nd (e5 _ _ q)⟩
        · rw [List.mem_singleton] at h
          exact ⟨r.2.2.1, r.2.2.2, ⟨ix.2.2.1, ix.2.2.2⟩, nd (by rw [h]; exact upd_same)⟩
    rintro H4 ⟨e4, ts4, hts4, hl4⟩
    rw [List.length_map] at hl4
    refine ⟨D3, D4, _, _, rfl, rfl, e4 _ _ p3.1, hts4.1, Nat.le_of_lt (Nat.lt_of_le_of_lt (m := 3000) (by rw [List.length_map, List.length_map, List.length_append]; omega) (by decide)), fun D5 n5 => ?_⟩
    have e5 : Ex H4 (upd H4 D5 (.lst ((ts1 ++ ts2).map V.ref ++ ts4.map V.ref))) := Evl.Ex.new n5
    have p5 : PairsL (fun i j => i < n ∧ j < n) (upd H4 D5 (.lst ((ts1 ++ ts2).map V.ref ++ ts4.map V.ref))) D5 ((ts1 ++ ts2) ++ ts4) := by
      refine ⟨upd_same.trans (by simp only [List.map_append]), fun t ht => ?_⟩
      rcases List.mem_append.mp ht with h | h
      · obtain ⟨i, j, c, q⟩ := p3.2 t h
        exact ⟨i, j, c, e5 _ _ (e4 _ _ q)⟩
      · obtain ⟨i, j, c, q⟩ := hts4.2 t h
        exact ⟨i, j, c, e5 _ _ q⟩
    have l5 : ((ts1 ++ ts2) ++ ts4).length ≤ 3000 := by simp only [List.length_append]; omega
    show gName 1 _ _ (upd H4 D5 (.lst ((ts1 ++ ts2).map V.ref ++ ts4.map V.ref))) _
    generalize upd H4 D5 (.lst ((ts1 ++ ts2).map V.ref ++ ts4.map V.ref)) = H5 at e5 p5
    generalize (ts1 ++ ts2) ++ ts4 = ts5 at p5 l5
    have e05 : Ex H H5 := (e03.trans e4).trans e5
    refine ⟨_, rfl, D5, rfl, ⟨_, SqL.of p5.1⟩, fun D6 n6 => ?_⟩
    refine dcT_wk (wk_list (K := K) (a := D5) (xs := ts5.map V.ref)) (fun i H' => Ex H5 H' ∧ ∃ es, H' D6 = some (.dT es) ∧ es.length ≤ i ∧ ∀ e ∈ es, ∃ i j : Nat, OpenP n U B i j ∧ e.1 = [Sum.inl (i : Int), Sum.inl (j : Int)]) ⟨Evl.Ex.new n6, [], upd_same, Nat.le_refl _, fun e h => by cases h⟩ (fun i H' _ p => SqL.of (p.1 _ _ p5.1)) ?_ ?_
    · rintro i y H6 H7 hi ⟨e6, es, hes, hl, hm⟩ ⟨rfl, hy⟩
      rw [List.getElem?_map] at hy
      obtain ⟨t, ht, rfl⟩ := Option.map_eq_some_iff.mp hy
      obtain ⟨i', j', ⟨hi', hj'⟩, q⟩ := p5.2 t (List.mem_of_getElem? ht)
      have ht1 := e6 _ _ q
      have O7 := O.ex (e05.trans e6)
      rw [List.length_map] at hi
      have skip : Ex H5 H7 ∧ ∃ es, H7 D6 = some (.dT es) ∧ es.length ≤ i + 1 ∧ ∀ e ∈ es, ∃ i j : Nat, OpenP n U B i j ∧ e.1 = [Sum.inl (i : Int), Sum.inl (j : Int)] := ⟨e6, es, hes, Nat.le_succ_of_le hl, hm⟩
      refine ⟨rfl, ?_⟩
      refine ⟨_, rfl, t, _, _, _, rfl, rfl, SqT.of ht1, rfl, _, rfl, t, _, _, _, rfl, rfl, SqT.of ht1, rfl, rfl, _, rfl, ?_⟩
      by_cases hij : i' = j'
      · have d : decide (iV i' = iV j') = true := decide_eq_true (by rw [hij])
        show (if (!decide (iV i' = iV j')) = true then _ else _)
        rw [d]
        exact iteF skip
      · have d : decide (iV i' = iV j') = false := decide_eq_false fun z => hij (Int.ofNat_inj.mp (V.int.inj z))
        show (if (!decide (iV i' = iV j')) = true then _ else _)
        rw [d]
        refine iteT ?_
        refine ⟨_, rfl, _, rfl, t, _, _, _, rfl, rfl, SqT.of ht1, rfl, _, rfl, t, _, _, _, rfl, rfl, SqT.of ht1, rfl, a, n, rs, js, U, B, i', j', rfl, O7, wf, hi', hj', _, rfl, ?_⟩
        cases hb : (!bt U i' j' && !bt B j' i') with
        | false => exact iteF skip
        | true =>
          rw [Bool.and_eq_true, Bool.not_eq_true', Bool.not_eq_true'] at hb
          refine iteT ?_
          refine ⟨_, rfl, es, [Sum.inl (i' : Int), Sum.inl (j' : Int)], t, rfl, ht1, hes, Nat.lt_of_le_of_lt (m := 3000) (by omega) (by decide), Evl.Ex.mut e6 n6, _, upd_same, ?_, fun e he => ?_⟩
          · exact Nat.le_trans (length_putK es _ _) (Nat.succ_le_succ hl)
          · rcases mem_putK he with h | ⟨e', he', h⟩
            · exact ⟨i', j', ⟨hi', hj', hij, hb.1, hb.2⟩, h⟩
            · obtain ⟨i2, j2, c, q2⟩ := hm e' he'
              exact ⟨i2, j2, c, by rw [← h]; exact q2⟩
    · rintro H6 ⟨e6, es, hes, hl, hm⟩
      rw [List.length_map] at hl
      refine ⟨D6, es, rfl, .inl hes, fun p bs np hk => ?_⟩
      refine k p bs _ ((e05.trans e6).trans (Evl.Ex.new np)) ⟨upd_same, fun t ht => ?_⟩ (by rw [← paired_len hk]; omega)
      obtain ⟨e, he, q⟩ := paired_mem hk t ht
      obtain ⟨i, j, c, ek⟩ := hm e he
      refine ⟨i, j, c, ?_⟩
      rw [ek] at q
      exact Evl.Ex.new np _ _ q
abbrev N_first_open : List Str := ["order", "many", "i", "j"]
theorem sc_first_open : FnScope N_first_open ["order"] (defScope s_first_open) := ⟨rfl, rfl, rfl, by decide +kernel, rfl, by decide +kernel, by decide +kernel⟩
theorem c_first_open (T : Tx K mg) : C8.Cal P w K mg base 3 "first_open" (spPick K) [] :=
  mkCal T fn_first_open rfl rfl rfl T.mg_first_open sc_first_open (fun _ _ _ _ _ _ us hl => match us, hl with | [_], _ => rfl) (fun vs H Q E h => by obtain ⟨a, n, rs, js, U, B, rfl, _⟩ := h; rfl) fun f cdv A outer s0 H vs Q E hr h => by
    obtain ⟨a, n, rs, js, U, B, rfl, z, k1, k2⟩ := h
    have O := z.ob
    obtain ⟨dx, hp⟩ := O.ob
    have hl : (nV U).length = n := (nV_len U).trans z.wf.lu
    have hn := z.hn
    refine ⟨_, (pss_cons (ps_set (i := 1) sc_first_open.nd rfl (Or.inl rfl) (pe_callB call_len_seq (by rfl) T.f_len (by decide +kernel) (pa_cons (pe_fld (pv 0) rfl) pa_nil)))
      (pss_cons (ps_for PassesOwn.never rfl (pi_range1 rfl T.f_range (pa_cons (pv 1) pa_nil)) (pg_name (i := 2) sc_first_open.nd rfl (Or.inl rfl)) (pss_one (ps_for PassesOwn.never rfl (pi_range1 rfl T.f_range (pa_cons (pv 1) pa_nil)) (pg_name (i := 3) sc_first_open.nd rfl (Or.inl rfl)) (pss_one (ps_if (PW.pt (pw_and (pt_cmpR op_ne (pv 2) (pv 3) (nomark _)) (pw_and1 (pt_val (C8.pe_c (c_is_open T) hr (by decide) (by rfl) (pa_cons (pv 0) (pa_cons (pv 2) (pa_cons (pv 3) pa_nil)))))))) (pss_one (ps_ret (pe_tup (pa_cons (pv 2) (pa_cons (pv 3) pa_nil))))) pss_nil)))))
      (pss_one (ps_ret pe_non)))), ?_⟩
    refine ⟨_, rfl, a.p, _, dx, _, _, rfl, hp, T.cls_Order, T.no_upto, ofl_upto a, a.ul, _, rfl, .inl (SqL.of O.up), ?_⟩
    refine ⟨_, rfl, _, rfl, (b62 (by omega)).1, (b62 (by omega)).2, ?_⟩
    refine for_rng (n := (nV U).length) (fun i σ H' => H' = H ∧ (∃ v1 v2, σ = [some (.ref a.p), some (iV (nV U).length), v1, v2]) ∧ ∀ i' j', i' < i → j' < n → i' ≠ j' → bt U i' j' = true ∨ bt B j' i' = true) ⟨rfl, ⟨none, none, rfl⟩, fun i' _ h => absurd h (Nat.not_lt_zero _)⟩ ?_ ?_
    · rintro i σ H1 hi ⟨rfl, ⟨v1, v2, rfl⟩, hd⟩
      refine ⟨_, rfl, _, rfl, (b62 (by omega)).1, (b62 (by omega)).2, ?_⟩
      refine for_rng (n := (nV U).length) (fun j σ H' => H' = H1 ∧ (∃ v2, σ = [some (.ref a.p), some (iV (nV U).length), some (iV i), v2]) ∧ ∀ j', j' < j → i ≠ j' → bt U i j' = true ∨ bt B j' i = true) ⟨rfl, ⟨v2, rfl⟩, fun j' h => absurd h (Nat.not_lt_zero _)⟩ ?_ ?_
      · rintro j σ H2 hj ⟨rfl, ⟨v2', rfl⟩, hd2⟩
        refine ⟨_, rfl, _, rfl, rfl, _, rfl, ?_⟩
        have next : (i ≠ j → bt U i j = true ∨ bt B j i = true) → H2 = H2 ∧ (∃ v2, ([some (.ref a.p), some (iV (nV U).length), some (iV i), some (iV j)] : L2.St) = [some (.ref a.p), some (iV (nV U).length), some (iV i), v2]) ∧ ∀ j', j' < j + 1 → i ≠ j' → bt U i j' = true ∨ bt B j' i = true := fun q =>
          ⟨rfl, ⟨_, rfl⟩, fun j' h hne => by
            by_cases e : j' = j
            · subst e; exact q hne
            · exact hd2 j' (by omega) hne⟩
        by_cases hij : i = j
        · have d : decide (iV i = iV j) = true := decide_eq_true (by rw [hij])
          show (if (!decide (iV i = iV j)) = true then _ else _)
          rw [d]
          exact iteF (next fun h => absurd hij h)
        · have d : decide (iV i = iV j) = false := decide_eq_false fun z => hij (Int.ofNat_inj.mp (V.int.inj z))
          show (if (!decide (iV i = iV j)) = true then _ else _)
          rw [d]
          refine iteT ?_
          refine ⟨_, rfl, _, rfl, _, rfl, a, n, rs, js, U, B, i, j, rfl, O, z.wf, by omega, by omega, _, rfl, ?_⟩
          cases hb : (!bt U i j && !bt B j i) with
          | false =>
            refine iteF (next fun _ => ?_)
            cases e1 : bt U i j with
            | true => exact .inl rfl
            | false =>
              rw [e1] at hb
              cases e2 : bt B j i with
              | true => exact .inr rfl
              | false => rw [e2] at hb; cases hb
          | true =>
            rw [Bool.and_eq_true, Bool.not_eq_true', Bool.not_eq_true'] at hb
            refine iteT ?_
            refine ⟨_, rfl, _, rfl, by show 2 ≤ sizeLine; decide, fun p np => ?_⟩
            exact k2 p i j _ (Evl.Ex.new np) upd_same ⟨by omega, by omega, hij, hb.1, hb.2⟩
      · rintro σ H2 ⟨rfl, ⟨v2', rfl⟩, hd2⟩
        exact ⟨rfl, ⟨_, _, rfl⟩, fun i' j' h h2 hne => by
          by_cases e : i' = i
          · subst e; exact hd2 j' (by omega) hne
          · exact hd i' j' (by omega) h2 hne⟩
    · rintro σ H1 ⟨rfl, ⟨v1, v2, rfl⟩, hd⟩
      exact k1 H1 (Evl.Ex.refl _) fun i j hi hj hne => hd i j (by omega) hj hne
end
end K35

/-! chosen, tried, completed. -/
namespace K35
open PySem PySem.Spec PyProof.Rows L2
/-- the best so far: none, or an open pair -/
def Bst (n : Nat) (U B : List Nat) (H : Hp) (b : V) : Prop := b = .non ∨ ∃ t i j, b = .ref t ∧ H t = some (.tup [iV i, iV j]) ∧ OpenP n U B i j
theorem Bst.ex {n : Nat} {U B : List Nat} {H H' : Hp} {b : V} (e : Ex H H') (h : Bst n U B H b) : Bst n U B H' b := by
  rcases h with h | ⟨t, i, j, h1, h2, h3⟩
  · exact .inl h
  · exact .inr ⟨t, i, j, h1, e _ _ h2, h3⟩
def TwoZ (H : Hp) (b : V) : Prop := ∃ t x y, b = .ref t ∧ H t = some (.tup [.int x, .int y])
theorem TwoZ.ex {H H' : Hp} {b : V} (e : Ex H H') (h : TwoZ H b) : TwoZ H' b := by
  obtain ⟨t, x, y, h1, h2⟩ := h
  exact ⟨t, x, y, h1, e _ _ h2⟩
theorem mem_cutV {l : List Addr} {lo hi : Option Int} {y : V} {i : Nat} (h : (cutV (l.map V.ref) lo hi)[i]? = some y) : ∃ t ∈ l, y = .ref t := by
  have m := List.mem_of_getElem? h
  unfold cutV at m
  have m := List.mem_of_mem_drop (List.mem_of_mem_take m)
  obtain ⟨t, ht, rfl⟩ := List.mem_map.mp m
  exact ⟨t, ht, rfl⟩
/-- a test that reads and changes nothing -/
def Pur (t : TT) (σ : L2.St) (H : Hp) : Prop := ∃ b, ∀ Q : Bool → Hp → Prop, Q b H → t σ H Q
theorem Pur.or {t u : TT} {σ : L2.St} {H : Hp} (h1 : Pur t σ H) (h2 : Pur u σ H) : Pur (tOr t u) σ H := by
  obtain ⟨b1, h1⟩ := h1
  obtain ⟨b2, h2⟩ := h2
  refine ⟨b1 || b2, fun Q q => h1 _ ?_⟩
  cases b1 with
  | true => exact iteT q
  | false => exact iteF (h2 _ q)
theorem Pur.and {t u : TT} {σ : L2.St} {H : Hp} (h1 : Pur t σ H) (h2 : Pur u σ H) : Pur (tAnd t u) σ H := by
  obtain ⟨b1, h1⟩ := h1
  obtain ⟨b2, h2⟩ := h2
  refine ⟨b1 && b2, fun Q q => h1 _ ?_⟩
  cases b1 with
  | true => exact iteT (h2 _ q)
  | false => exact iteF q
theorem Pur.ifS {t : TT} {σ : L2.St} {H : Hp} {tb te : TS} {D : Ends} (h : Pur t σ H) (h1 : tb D σ H) (h2 : te D σ H) : tIfS t tb te D σ H := by
  obtain ⟨b, h⟩ := h
  refine h _ ?_
  cases b with
  | true => exact iteT h1
  | false => exact iteF h2
def chEnd (K : PySem.W.Frag) : TS := tIfS (tTest (tOp rEq (tOp (rIxT K) (tVar 7) (tC (V.int 1))) (tOp (rI CPow fun i j => V.int (i ^ j.toNat)) (tC (V.int 10)) (tC (V.int 6))))) (tRet (tVar 1)) tNext
def chAll (K : PySem.W.Frag) : TS := tSeq
              (tIfS
                (tOr (tTest (tOp (fun x y H Q => y = V.non ∧ Q (V.bl (decide (x = V.non))) H) (tVar 1) (tC V.non)))
                  (tOr
                    (tAnd
                      (tTest
                        (tOp rEq (tOp (rIxT K) (tVar 7) (tC (V.int 1)))
                          (tOp (rI CPow fun i j => V.int (i ^ j.toNat)) (tC (V.int 10)) (tC (V.int 6)))))
                      (tTest
                        (tOp (rI0 fun i j => V.bl (decide (i < j))) (tOp (rIxT K) (tVar 2) (tC (V.int 1)))
                          (tOp (rI CPow fun i j => V.int (i ^ j.toNat)) (tC (V.int 10)) (tC (V.int 6))))))
                    (tAnd
                      (tTest
                        (tOp (rI0 fun i j => V.bl (decide (j < i))) (tOp (rIxT K) (tVar 7) (tC (V.int 0)))
                          (tOp (rIxT K) (tVar 2) (tC (V.int 0)))))
                      (tTest
                        (tOp (rI0 fun i j => V.bl (decide (i < j))) (tOp (rIxT K) (tVar 2) (tC (V.int 1)))
                          (tOp (rI CPow fun i j => V.int (i ^ j.toNat)) (tC (V.int 10)) (tC (V.int 6))))))))
                (tPar 1 2 (tCons (tTup (tCons (tVar 3) (tCons (tVar 4) tNil))) (tCons (tVar 7) tNil))) tNext)
              (chEnd K)
section
variable {P : Program} {w : World} {K : PySem.W.Frag} {mg : Str → Option Value} {base : Heap}
abbrev N_chosen : List Str := ["order", "best", "most", "i", "j", "one", "other", "found"]
theorem sc_chosen : FnScope N_chosen ["order"] (defScope s_chosen) := ⟨rfl, rfl, rfl, by decide +kernel, rfl, by decide +kernel, by decide +kernel⟩
theorem c_chosen (T : Tx K mg) : C8.Cal P w K mg base 5 "chosen" (spPick K) [] :=
  mkCal T fn_chosen rfl rfl rfl T.mg_chosen sc_chosen (fun _ _ _ _ _ _ us hl => match us, hl with | [_], _ => rfl) (fun vs H Q E h => by obtain ⟨a, n, rs, js, U, B, rfl, _⟩ := h; rfl) fun f cdv A outer s0 H vs Q E hr h => by
    obtain ⟨a, n, rs, js, U, B, rfl, z, k1, k2⟩ := h
    refine ⟨_, (pss_cons (ps_asg (pe_tup (pa_cons pe_non (pa_cons (pe_tup (pa_cons pe_int (pa_cons pe_int pa_nil))) pa_nil))) (pg_tup rfl (pgs_cons (pg_name (i := 1) sc_chosen.nd rfl (Or.inl rfl)) (pgs_cons (pg_name (i := 2) sc_chosen.nd rfl (Or.inl rfl)) pgs_nil))))
      (pss_cons (ps_for PassesOwn.never rfl (pi_list (pe_slice sl_list (C8.pe_c (c_premises T) hr (by decide) (by rfl) (pa_cons (pv 0) pa_nil)) po_none (po_some (C8.pe_gc rfl T.i_MOST_LOOKED_AT)))) (pg_tup rfl (pgs_cons (pg_name (i := 3) sc_chosen.nd rfl (Or.inl rfl)) (pgs_cons (pg_name (i := 4) sc_chosen.nd rfl (Or.inl rfl)) pgs_nil))) (pss_cons (ps_par (i := 5) (j := 6) (by rfl) sc_chosen.nd rfl rfl (by decide) rfl rfl (pa_cons (C8.pe_c (c_weight T) hr (by decide) (by rfl) (pa_cons (C8.pe_mt (m_with_more T) hr (by decide) (pv 0) (pa_cons (pv 3) (pa_cons (pv 4) (pa_cons pe_bl pa_nil)))) pa_nil)) (pa_cons (C8.pe_c (c_weight T) hr (by decide) (by rfl) (pa_cons (C8.pe_mt (m_with_more T) hr (by decide) (pv 0) (pa_cons (pv 4) (pa_cons (pv 3) (pa_cons pe_bl pa_nil)))) pa_nil)) pa_nil)) (by rfl))
        (pss_cons (ps_set (i := 7) sc_chosen.nd rfl (Or.inl rfl) (pe_ifExp (pt_cmpR op_lt (pv 5) (pv 6) (nomark _)) (pe_tup (pa_cons (pv 5) (pa_cons (pv 6) pa_nil))) (pe_tup (pa_cons (pv 6) (pa_cons (pv 5) pa_nil)))))
        (pss_cons (ps_if (PW.pt (pw_or (pt_cmpR op_isN (pv 1) pe_non (nomark _)) (pw_or (PW.pt (pw_and (pt_cmpR op_eq (pe_ix (ix_tupK (K := K) rfl) (pv 7) pe_int (fun _ _ => rfl)) (pe_op op_pow pe_int pe_int) (nomark _)) (pw_and1 (pt_cmpR op_lt (pe_ix (ix_tupK (K := K) rfl) (pv 2) pe_int (fun _ _ => rfl)) (pe_op op_pow pe_int pe_int) (nomark _))))) (pw_or1 (PW.pt (pw_and (pt_cmpR op_gt (pe_ix (ix_tupK (K := K) rfl) (pv 7) pe_int (fun _ _ => rfl)) (pe_ix (ix_tupK (K := K) rfl) (pv 2) pe_int (fun _ _ => rfl)) (nomark _)) (pw_and1 (pt_cmpR op_lt (pe_ix (ix_tupK (K := K) rfl) (pv 2) pe_int (fun _ _ => rfl)) (pe_op op_pow pe_int pe_int) (nomark _))))))))) (pss_one (ps_par (i := 1) (j := 2) (by rfl) sc_chosen.nd rfl rfl (by decide) rfl rfl (pa_cons (pe_tup (pa_cons (pv 3) (pa_cons (pv 4) pa_nil))) (pa_cons (pv 7) pa_nil)) (by rfl))) pss_nil)
        (pss_one (ps_if (pt_cmpR op_eq (pe_ix (ix_tupK (K := K) rfl) (pv 7) pe_int (fun _ _ => rfl)) (pe_op op_pow pe_int pe_int) (nomark _)) (pss_one (ps_ret (pv 1))) pss_nil))))))
      (pss_cons (ps_if (pt_cmpR op_notN (pv 1) pe_non (nomark _)) (pss_one (ps_ret (pv 1))) pss_nil)
      (pss_one (ps_ret (C8.pe_c (c_first_open T) hr (by decide) (by rfl) (pa_cons (pv 0) pa_nil))))))), ?_⟩
    refine ⟨by show 2 ≤ sizeLine; decide, fun p1 n1 => ⟨by show 2 ≤ sizeLine; decide, fun p2 n2 => ?_⟩⟩
    have e1 : Ex H (upd H p1 (.tup [.int 0, .int 0])) := Evl.Ex.new n1
    have e2 : Ex H (upd (upd H p1 (.tup [.int 0, .int 0])) p2 (.tup [.non, .ref p1])) := e1.trans (Evl.Ex.new n2)
    have g1 : (upd (upd H p1 (.tup [.int 0, .int 0])) p2 (.tup [.non, .ref p1])) p1 = some (.tup [.int 0, .int 0]) := Evl.Ex.new n2 _ _ upd_same
    refine ⟨p2, _, rfl, SqT.of upd_same, rfl, _, _, rfl, _, _, rfl, rfl, ?_⟩
    show tSeq _ _ _ _ (upd (upd H p1 (.tup [.int 0, .int 0])) p2 (.tup [.non, .ref p1]))
    generalize upd (upd H p1 (.tup [.int 0, .int 0])) p2 (.tup [.non, .ref p1]) = H2 at e2 g1
    have z2 := z.ex e2
    refine ⟨_, rfl, a, n, rs, js, U, B, rfl, z2.ob, z2.wf, z2.ix, z2.hn, z2.h1, z2.h2, fun l ts H3 e3 pl hl => ?_⟩
    refine ⟨12, rfl, l, _, rfl, SqL.of pl.1, fun q nq => ?_⟩
    have e4 : Ex H2 (upd H3 q (.lst (cutV (ts.map V.ref) none (some 12)))) := e3.trans (Evl.Ex.new nq)
    have q4 : (upd H3 q (.lst (cutV (ts.map V.ref) none (some 12)))) q = some (.lst (cutV (ts.map V.ref) none (some 12))) := upd_same
    have p4 := pl.ex (Evl.Ex.new nq : Ex H3 (upd H3 q (.lst (cutV (ts.map V.ref) none (some 12)))))
    generalize upd H3 q (.lst (cutV (ts.map V.ref) none (some 12))) = H4 at e4 q4 p4
    refine ⟨_, rfl, ⟨_, SqL.of q4⟩, ?_⟩
    refine for_wk (wk_list (K := K) (a := q) (xs := cutV (ts.map V.ref) none (some 12))) (fun i σ H' => Ex H4 H' ∧ ∃ b m v3 v4 v5 v6 v7, σ = [some (.ref a.p), some b, some m, v3, v4, v5, v6, v7] ∧ Bst n U B H' b ∧ TwoZ H' m)
      ⟨.refl _, _, _, none, none, none, none, none, rfl, .inl rfl, p1, 0, 0, rfl, e4 _ _ g1⟩ (fun i σ H' _ p => SqL.of (p.1 _ _ q4)) ?_ ?_
    · rintro i y σ H5 H6 hi ⟨e5, b, m, v3, v4, v5, v6, v7, rfl, hb, hm⟩ ⟨rfl, hy⟩
      obtain ⟨t, ht, rfl⟩ := mem_cutV hy
      obtain ⟨i', j', oo, hq⟩ := p4.2 t ht
      have ht1 := e5 _ _ hq
      have z5 := z2.ex (e4.trans e5)
      obtain ⟨dx5, hp5⟩ := z5.ob.ob
      refine ⟨t, _, rfl, SqT.of ht1, rfl, _, _, rfl, _, _, rfl, rfl, ?_⟩
      refine ⟨_, rfl, a.p, dx5, _, rfl, hp5, ofl_with_more a, _, rfl, _, rfl, a, n, rs, js, U, B, i', j', false, rfl, z5.ob, z5.wf, z5.ix, z5.hn, oo.1, oo.2.1, fun a1 U1 B1 H6b e6 O6 M6 _ => ?_⟩
      refine ⟨a1, n, rs, js, U1, B1, rfl, O6, M6.ok.wf, z.hn, fun x1 H7 e7 => ?_⟩
      have z7 := z5.ex (e6.trans e7)
      obtain ⟨dx7, hp7⟩ := z7.ob.ob
      refine ⟨_, rfl, a.p, dx7, _, rfl, hp7, ofl_with_more a, _, rfl, _, rfl, a, n, rs, js, U, B, j', i', true, rfl, z7.ob, z7.wf, z7.ix, z7.hn, oo.2.1, oo.1, fun a2 U2 B2 H8 e8 O8 M8 _ => ?_⟩
      refine ⟨a2, n, rs, js, U2, B2, rfl, O8, M8.ok.wf, z.hn, fun x2 H9 e9 => ?_⟩
      refine ⟨_, _, rfl, ?_⟩
      have e69 : Ex H6 H9 := ((e6.trans e7).trans e8).trans e9
      have fin : ∀ (D : Ends), (∀ σ H', (Ex H4 H' ∧ ∃ b m v3 v4 v5 v6 v7, σ = [some (.ref a.p), some b, some m, v3, v4, v5, v6, v7] ∧ Bst n U B H' b ∧ TwoZ H' m) → D.nx σ H') → D.rt = Q → ∀ (t2 : Addr) (y1 y2 : Int) (H10 : Hp), Ex H9 H10 → H10 t2 = some (.tup [.int y1, .int y2]) → chAll K D  [some (.ref a.p), some b, some m, some (iV i'), some (iV j'), some (.int x1), some (.int x2), some (.ref t2)] H10 := by
        intro D hD hQ t2 y1 y2 H10 e10 h2
        have e0 : Ex H6 H10 := e69.trans e10
        have hb := hb.ex e0
        have hm := hm.ex e0
        have last : ∀ (b m : V) (H11 : Hp), Ex H10 H11 → b ≠ .non → Bst n U B H11 b → TwoZ H11 m → chEnd K D [some (.ref a.p), some b, some m, some (iV i'), some (iV j'), some (.int x1), some (.int x2), some (.ref t2)] H11 := by
          intro b m H11 e11 hne hb hm
          refine Pur.ifS ⟨_, fun Q q => ⟨_, rfl, t2, _, _, _, rfl, rfl, SqT.of (e11 _ _ h2), rfl, _, _, rfl, rfl, ⟨by decide, by decide, by decide⟩, rfl, _, rfl, q⟩⟩ ?_ (hD _ _ ⟨(e5.trans e0).trans e11, _, _, _, _, _, _, _, rfl, hb, hm⟩)
          rcases hb with rfl | ⟨t, i, j, rfl, ht, oo⟩
          · exact absurd rfl hne
          · refine ⟨_, rfl, ?_⟩
            show D.rt _ _
            rw [hQ]
            exact k2 t i j _ ((((e2.trans e4).trans e5).trans e0).trans e11) ht oo
        have set : (tPar 1 2 (tCons (tTup (tCons (tVar 3) (tCons (tVar 4) tNil))) (tCons (tVar 7) tNil))) { D with nx := chEnd K D } [some (.ref a.p), some b, some m, some (iV i'), some (iV j'), some (.int x1), some (.int x2), some (.ref t2)] H10 := by
          refine ⟨_, rfl, _, rfl, by show 2 ≤ sizeLine; decide, fun p np => ⟨_, rfl, _, _, rfl, ?_⟩⟩
          have en : Ex H10 (upd H10 p (.tup [iV i', iV j'])) := Evl.Ex.new np
          exact last (.ref p) (.ref t2) _ en (fun z => nomatch z) (.inr ⟨p, i', j', rfl, upd_same, oo⟩) ⟨t2, y1, y2, rfl, en _ _ h2⟩
        obtain ⟨tm, m1, m2, rfl, hm'⟩ := id hm
        rcases id hb with rfl | ⟨t, i, j, rfl, ht, oo'⟩
        · refine ⟨_, rfl, rfl, _, rfl, iteT (iteT set)⟩
        · refine ⟨_, rfl, rfl, _, rfl, iteF ?_⟩
          refine Pur.ifS (Pur.or (Pur.and ?_ ?_) (Pur.and ?_ ?_)) set (last _ _ _ (.refl _) (fun z => nomatch z) hb hm)
          · exact ⟨_, fun Q q => ⟨_, rfl, t2, _, _, _, rfl, rfl, SqT.of h2, rfl, _, _, rfl, rfl, ⟨by decide, by decide, by decide⟩, rfl, _, rfl, q⟩⟩
          · exact ⟨_, fun Q q => ⟨_, rfl, tm, _, _, _, rfl, rfl, SqT.of hm', rfl, _, _, rfl, rfl, ⟨by decide, by decide, by decide⟩, _, _, rfl, rfl, _, rfl, q⟩⟩
          · exact ⟨_, fun Q q => ⟨_, rfl, t2, _, _, _, rfl, rfl, SqT.of h2, rfl, _, rfl, tm, _, _, _, rfl, rfl, SqT.of hm', rfl, _, _, rfl, rfl, _, rfl, q⟩⟩
          · exact ⟨_, fun Q q => ⟨_, rfl, tm, _, _, _, rfl, rfl, SqT.of hm', rfl, _, _, rfl, rfl, ⟨by decide, by decide, by decide⟩, _, _, rfl, rfl, _, rfl, q⟩⟩
      refine ⟨_, rfl, _, rfl, _, _, rfl, rfl, _, rfl, ?_⟩
      cases decide (x1 < x2) with
      | true => exact iteT ⟨_, rfl, _, rfl, by show 2 ≤ sizeLine; decide, fun p np => fin _ (fun σ H' z => z) rfl p x1 x2 _ (Evl.Ex.new np) upd_same⟩
      | false => exact iteF ⟨_, rfl, _, rfl, by show 2 ≤ sizeLine; decide, fun p np => fin _ (fun σ H' z => z) rfl p x2 x1 _ (Evl.Ex.new np) upd_same⟩
    · rintro σ H5 ⟨e5, b, m, v3, v4, v5, v6, v7, rfl, hb, hm⟩
      have z5 := z2.ex (e4.trans e5)
      rcases hb with rfl | ⟨t, i, j, rfl, ht, oo⟩
      · refine ⟨_, rfl, rfl, _, rfl, iteF ?_⟩
        exact ⟨_, rfl, a, n, rs, js, U, B, rfl, z5, fun H6 e6 => k1 H6 (((e2.trans e4).trans e5).trans e6), fun t i j H6 e6 => k2 t i j H6 (((e2.trans e4).trans e5).trans e6)⟩
      · refine ⟨_, rfl, rfl, _, rfl, iteT ⟨_, rfl, k2 t i j _ ((e2.trans e4).trans e5) ht oo⟩⟩
abbrev N_tried : List Str := ["order", "i", "j", "one", "other", "found"]
theorem sc_tried : FnScope N_tried ["order", "i", "j"] (defScope s_tried) := ⟨rfl, rfl, rfl, by decide +kernel, rfl, by decide +kernel, by decide +kernel⟩
theorem c_tried (T : Tx K mg) : C8.Cal P w K mg base 5 "tried" (spTried K) [] :=
  mkCal T fn_tried rfl rfl rfl T.mg_tried sc_tried (fun _ _ _ _ _ _ us hl => match us, hl with | [_, _, _], _ => rfl) (fun vs H Q E h => by obtain ⟨a, n, rs, js, U, B, i, j, rfl, _⟩ := h; rfl) fun f cdv A outer s0 H vs Q E hr h => by
    obtain ⟨a, n, rs, js, U, B, i, j, rfl, z, oo, q1, q2⟩ := h
    obtain ⟨oi, oj, on, o1, o2⟩ := id oo
    refine ⟨_, (pss_cons (ps_for PassesOwn.never rfl (pi_tup (pe_tup (pa_cons (pe_tup (pa_cons (pv 1) (pa_cons (pv 2) pa_nil))) (pa_cons (pe_tup (pa_cons (pv 2) (pa_cons (pv 1) pa_nil))) pa_nil)))) (pg_tup rfl (pgs_cons (pg_name (i := 3) sc_tried.nd rfl (Or.inl rfl)) (pgs_cons (pg_name (i := 4) sc_tried.nd rfl (Or.inl rfl)) pgs_nil))) (pss_cons (ps_set (i := 5) sc_tried.nd rfl (Or.inl rfl) (C8.pe_mt (m_with_more T) hr (by decide) (pv 0) (pa_cons (pv 3) (pa_cons (pv 4) (pa_cons pe_bl pa_nil)))))
        (pss_one (ps_if (pt_not (pt_val (C8.pe_mt0 (m_is_contrary T) hr (by decide) (pv 5)))) (pss_one (ps_ret (pv 5))) pss_nil))))
      (pss_cons (ps_set (i := 5) sc_tried.nd rfl (Or.inl rfl) (C8.pe_mt (m_with_more T) hr (by decide) (C8.pe_mt (m_with_more T) hr (by decide) (pv 0) (pa_cons (pv 1) (pa_cons (pv 2) (pa_cons pe_bl pa_nil)))) (pa_cons (pv 2) (pa_cons (pv 1) (pa_cons pe_bl pa_nil)))))
      (pss_one (ps_ret (pe_ifExp (pt_val (C8.pe_mt0 (m_is_contrary T) hr (by decide) (pv 5))) pe_non (pv 5)))))), ?_⟩
    refine ⟨_, rfl, _, rfl, by show 2 ≤ sizeLine; decide, fun t1 n1 => ?_⟩
    refine ⟨_, rfl, _, rfl, by show 2 ≤ sizeLine; decide, fun t2 n2 => ?_⟩
    refine ⟨by show 2 ≤ sizeLine; decide, fun t3 n3 => ?_⟩
    have n2' : (upd H t1 (.tup [iV i, iV j])) t2 = none := n2
    have e1 : Ex H (upd H t1 (.tup [iV i, iV j])) := Evl.Ex.new n1
    have e2 : Ex (upd H t1 (.tup [iV i, iV j])) (upd (upd H t1 (.tup [iV i, iV j])) t2 (.tup [iV j, iV i])) := Evl.Ex.new n2
    have e3 : Ex (upd (upd H t1 (.tup [iV i, iV j])) t2 (.tup [iV j, iV i])) (upd (upd (upd H t1 (.tup [iV i, iV j])) t2 (.tup [iV j, iV i])) t3 (.tup [.ref t1, .ref t2])) := Evl.Ex.new n3
    have e13 := (e1.trans e2).trans e3
    generalize hH3 : upd (upd (upd H t1 (.tup [iV i, iV j])) t2 (.tup [iV j, iV i])) t3 (.tup [.ref t1, .ref t2]) = H3 at e3 e13
    have k1 : H3 t1 = some (.tup [iV i, iV j]) := e3 _ _ (e2 _ _ upd_same)
    have k2 : H3 t2 = some (.tup [iV j, iV i]) := e3 _ _ upd_same
    have k3 : H3 t3 = some (.tup [.ref t1, .ref t2]) := by rw [← hH3]; exact upd_same
    refine ⟨t3, rfl, ⟨_, SqT.of k3⟩, ?_⟩
    refine for_tup (K := K) (a := t3) (xs := [.ref t1, .ref t2]) (fun m σ H' => ∃ v3 v4 v5, σ = [some (.ref a.p), some (iV i), some (iV j), v3, v4, v5] ∧ Ex H3 H')
      ⟨none, none, none, rfl, .refl _⟩ (fun m σ H' _ ⟨_, _, _, _, e⟩ => SqT.of (e _ _ k3)) ?_ ?_
    · have body : ∀ (i' j' : Nat) (D : Ends), D.rt = Q → i' < n → j' < n → (∀ U' B', Mono U B U' B' → bt U' i' j' = true → bt B' i' j' = true → unk n U' B' < unk n U B) → ∀ σ H', (∃ v5, σ = [some (.ref a.p), some (iV i), some (iV j), some (iV i'), some (iV j'), v5] ∧ Ex H3 H') →
          (∀ σ H', (∃ v3 v4 v5, σ = [some (.ref a.p), some (iV i), some (iV j), v3, v4, v5] ∧ Ex H3 H') → D.nx σ H') →
          (tSeq (tAsg (tMeth (He.ga K "Order") "with_more" (spWith K) [] C8.E0 (tVar 0) (tCons (tVar 3) (tCons (tVar 4) (tCons (tC (V.bl true)) tNil)))) (gName 5)) (tIfS (tNot (tB (tMeth (He.ga K "Order") "is_contrary" (spContr K) [] C8.E0 (tVar 5) tNil))) (tRet (tVar 5)) tNext)) D σ H' := by
        intro i' j' D hQ hi hj less σ H4 ⟨v5, eσ, e4⟩ hD
        subst eσ
        have z4 := z.ex (e13.trans e4)
        obtain ⟨dx4, hp4⟩ := z4.ob.ob
        refine ⟨_, rfl, a.p, dx4, _, rfl, hp4, ofl_with_more a, _, rfl, _, rfl, a, n, rs, js, U, B, i', j', true, rfl, z4.ob, z4.wf, z4.ix, z4.hn, hi, hj, fun a1 U1 B1 H5 e5 O5 M5 _ => ?_⟩
        obtain ⟨dx5, hp5⟩ := O5.ob
        refine ⟨_, rfl, a1.p, dx5, _, rfl, hp5, ofl_is_contrary a1, a1, rs, js, U1, B1, rfl, O5, by have := M5.ok.wf.lb; have := z.hn; omega, fun b H6 hb e6 => ⟨b, rfl, ?_⟩⟩
        cases b with
        | true => exact iteF (hD _ _ ⟨_, _, _, rfl, (e4.trans e5).trans e6⟩)
        | false =>
          refine iteT ⟨_, rfl, ?_⟩
          show D.rt _ _
          rw [hQ]
          exact q2 a1 U1 B1 H6 (((e13.trans e4).trans e5).trans e6) ⟨O5.ex e6, M5.ok.wf, z.ix, z.hn, z.h1, z.h2⟩ M5.ok (fun c => Bool.noConfusion (hb.mpr c)) M5.mono (less U1 B1 M5.mono M5.u (M5.b rfl))
      rintro m y σ H' hm ⟨v3', v4', v5', rfl, e⟩
      match m, hm with
      | 0, hm =>
        have ey : V.ref t1 = y := Option.some.inj hm
        subst ey
        refine ⟨t1, _, rfl, SqT.of (e _ _ k1), rfl, _, _, rfl, _, _, rfl, rfl, ?_⟩
        exact body i j { nx := _, rt := _, ct := _, bk := _ } rfl oi oj (fun U' B' m u b => unk_ltU m oi oj o1 u) _ H' ⟨_, rfl, e⟩ fun σ H' z => z
      | 1, hm =>
        have ey : V.ref t2 = y := Option.some.inj hm
        subst ey
        refine ⟨t2, _, rfl, SqT.of (e _ _ k2), rfl, _, _, rfl, _, _, rfl, rfl, ?_⟩
        exact body j i { nx := _, rt := _, ct := _, bk := _ } rfl oj oi (fun U' B' m u b => unk_ltB m oj oi o2 b) _ H' ⟨_, rfl, e⟩ fun σ H' z => z
    rintro σ H4 ⟨v3, v4, v5, rfl, e4⟩
    have z4 := z.ex (e13.trans e4)
    obtain ⟨dx4, hp4⟩ := z4.ob.ob
    refine ⟨_, rfl, a.p, dx4, _, rfl, hp4, ofl_with_more a, _, rfl, _, rfl, a, n, rs, js, U, B, i, j, false, rfl, z4.ob, z4.wf, z4.ix, z4.hn, oi, oj, fun a1 U1 B1 H5 e5 O5 M5 _ => ?_⟩
    obtain ⟨dx5, hp5⟩ := O5.ob
    have z5 := z4.ex e5
    refine ⟨a1.p, dx5, _, rfl, hp5, ofl_with_more a1, _, rfl, _, rfl, a1, n, rs, js, U1, B1, j, i, false, rfl, O5, M5.ok.wf, z.ix, z.hn, oj, oi, fun a2 U2 B2 H6 e6 O6 M6 _ => ?_⟩
    obtain ⟨dx6, hp6⟩ := O6.ob
    refine ⟨_, rfl, a2.p, dx6, _, rfl, hp6, ofl_is_contrary a2, a2, rs, js, U2, B2, rfl, O6, by have := M6.ok.wf.lb; have := z.hn; omega, fun b H7 hb e7 => ⟨b, rfl, ?_⟩⟩
    have e07 := (((e13.trans e4).trans e5).trans e6).trans e7
    cases b with
    | true => exact iteT (q1 _ e07)
    | false =>
      refine iteF ⟨_, rfl, ?_⟩
      exact q2 a2 U2 B2 H7 e07 ⟨O6.ex e7, M6.ok.wf, z.ix, z.hn, z.h1, z.h2⟩ M6.ok (fun c => Bool.noConfusion (hb.mpr c)) (M5.mono.trans M6.mono) (Nat.lt_of_le_of_lt (unk_le M6.mono) (unk_ltU M5.mono oi oj o1 M5.u))
abbrev N_completed : List Str := ["order", "pairs", "pair"]
theorem sc_completed : FnScope N_completed ["order"] (defScope s_completed) := ⟨rfl, rfl, rfl, by decide +kernel, rfl, by decide +kernel, by decide +kernel⟩
theorem c_completed (T : Tx K mg) : C8.Cal P w K mg base 6 "completed" (spCompl K) [] :=
  mkCal T fn_completed rfl rfl rfl T.mg_completed sc_completed (fun _ _ _ _ _ _ us hl => match us, hl with | [_], _ => rfl) (fun vs H Q E h => by obtain ⟨a, n, rs, js, U, B, rfl, _⟩ := h; rfl) fun f cdv A outer s0 H vs Q E hr h => by
    obtain ⟨a, n, rs, js, U, B, rfl, z, ok, nc, q1, q2⟩ := h
    refine ⟨_, (pss_cons (ps_while PassesOwn.never (pt_cmpR op_notN (pv 0) pe_non (nomark _)) (pss_cons (ps_set (i := 1) sc_completed.nd rfl (Or.inl rfl) (C8.pe_c (c_premises T) hr (by decide) (by rfl) (pa_cons (pv 0) pa_nil)))
        (pss_cons (ps_set (i := 2) sc_completed.nd rfl (Or.inl rfl) (pe_ifExp (pt_cmpR (op_neNil (hu64 hr)) (pv 1) (pe_lst pa_nil) (nomark _)) (pe_ix (ix_listK (K := K) rfl) (pv 1) pe_int (fun _ _ => rfl)) (C8.pe_c (c_first_open T) hr (by decide) (by rfl) (pa_cons (pv 0) pa_nil))))
        (pss_cons (ps_if (pt_cmpR op_isN (pv 2) pe_non (nomark _)) (pss_one (ps_ret (pv 0))) pss_nil)
        (pss_one (ps_set (i := 0) sc_completed.nd rfl (Or.inl rfl) (C8.pe_c (c_tried T) hr (by decide) (by rfl) (pa_cons (pv 0) (pa_cons (pe_ix (ix_tupK (K := K) rfl) (pv 2) pe_int (fun _ _ => rfl)) (pa_cons (pe_ix (ix_tupK (K := K) rfl) (pv 2) pe_int (fun _ _ => rfl)) pa_nil))))))))))
      (pss_one (ps_ret pe_non))), ?_⟩
    show tWhile _ _ _ _ _
    refine ⟨fun m σ H' => ∃ o v1 v2, σ = [some o, v1, v2] ∧ Ex H H' ∧ ((o = .non) ∨ ∃ a' U' B', o = .ref a'.p ∧ Oz K H' a' n rs js U' B' ∧ Okay n rs js U' B' ∧ ¬ Contrary B' ∧ Mono U B U' B' ∧ unk n U' B' + 1 ≤ m), ⟨unk n U B + 1, _, none, none, rfl, .refl _, .inr ⟨a, U, B, rfl, z, ok, nc, .refl _ _, Nat.le_refl _⟩⟩, ?_⟩
    rintro m σ H1 ⟨o, v1, v2, rfl, e1, ho⟩
    rcases ho with rfl | ⟨a1, U1, B1, rfl, z1, ok1, nc1, m1, hm⟩
    · exact ⟨_, rfl, rfl, _, rfl, iteF (q1 _ e1)⟩
    refine ⟨_, rfl, rfl, _, rfl, iteT ?_⟩
    refine ⟨_, fun _ _ q => q, _, rfl, a1, n, rs, js, U1, B1, rfl, z1.ob, z1.wf, z1.ix, z1.hn, z1.h1, z1.h2, fun l ts H2 e2 pl hl => ?_⟩
    have z2 := z1.ex e2
    have rest : ∀ (D : Ends) (v : V) (H3 : Hp), Ex H2 H3 → D.rt = Q → (∀ σ H', (∃ m', m' < m ∧ ∃ o v1 v2, σ = [some o, v1, v2] ∧ Ex H H' ∧ ((o = .non) ∨ ∃ a' U' B', o = .ref a'.p ∧ Oz K H' a' n rs js U' B' ∧ Okay n rs js U' B' ∧ ¬ Contrary B' ∧ Mono U B U' B' ∧ unk n U' B' + 1 ≤ m')) → D.nx σ H') →
        ((v = .non ∧ Decided n U1 B1) ∨ ∃ t i j, v = .ref t ∧ H3 t = some (.tup [iV i, iV j]) ∧ OpenP n U1 B1 i j) →
        (tSeq (tIfS (tTest (tOp (fun x y H Q => y = V.non ∧ Q (V.bl (decide (x = V.non))) H) (tVar 2) (tC V.non))) (tRet (tVar 0)) tNext)
          (tAsg (tCall (spTried K) [] C8.E0 (tCons (tVar 0) (tCons (tOp (rIxT K) (tVar 2) (tC (V.int 0))) (tCons (tOp (rIxT K) (tVar 2) (tC (V.int 1))) tNil)))) (gName 0))) D [some (.ref a1.p), some (.ref l), some v] H3 := by
      intro D v H3 e3 hQ hD hv
      have e03 := (e1.trans e2).trans e3
      have z3 := z2.ex e3
      rcases hv with ⟨rfl, dec⟩ | ⟨t, i, j, rfl, ht, oo⟩
      · refine ⟨_, rfl, rfl, _, rfl, iteT ⟨_, rfl, ?_⟩⟩
        show D.rt _ _
        rw [hQ]
        exact q2 a1 U1 B1 H3 e03 z3 ok1 nc1 m1 dec
      · refine ⟨_, rfl, rfl, _, rfl, iteF ?_⟩
        refine ⟨_, rfl, _, rfl, t, _, _, _, rfl, rfl, SqT.of ht, rfl, _, rfl, t, _, _, _, rfl, rfl, SqT.of ht, rfl, a1, n, rs, js, U1, B1, i, j, rfl, z3, oo, fun H4 e4 => ?_, fun a2 U2 B2 H4 e4 z4 ok4 nc4 m4 lt => ?_⟩
        · exact hD _ _ ⟨0, by omega, _, _, _, rfl, e03.trans e4, .inl rfl⟩
        · exact hD _ _ ⟨unk n U2 B2 + 1, Nat.lt_of_lt_of_le (Nat.succ_lt_succ lt) hm, _, _, _, rfl, e03.trans e4, .inr ⟨a2, U2, B2, rfl, z4, ok4, nc4, m1.trans m4, Nat.le_refl _⟩⟩
    refine ⟨_, rfl, by show 0 ≤ sizeLine; decide, fun p np => ?_⟩
    have ep : Ex H2 (upd H2 p (.lst [])) := Evl.Ex.new np
    refine ⟨l, p, _, rfl, rfl, SqL.of (ep _ _ pl.1), SqL.of upd_same, _, rfl, ?_⟩
    have zp := z2.ex ep
    have plp := pl.ex ep
    cases ts with
    | nil => exact iteF ⟨_, rfl, a1, n, rs, js, U1, B1, rfl, zp, fun H3 e3 d => rest _ _ H3 (ep.trans e3) rfl (fun σ H' z => z) (.inl ⟨rfl, d⟩), fun t i j H3 e3 ht oo => rest _ _ H3 (ep.trans e3) rfl (fun σ H' z => z) (.inr ⟨t, i, j, rfl, ht, oo⟩)⟩
    | cons t ts =>
      obtain ⟨i, j, oo, ht⟩ := plp.2 t List.mem_cons_self
      exact iteT ⟨_, rfl, l, _, _, _, rfl, rfl, SqL.of plp.1, atI_nat (xs := (t :: ts).map V.ref) (j := 0) (v := .ref t) rfl, rest _ _ _ ep rfl (fun σ H' z => z) (.inr ⟨t, i, j, rfl, ht, oo⟩)⟩
end
end K35

/-! step_rules and first_order. -/
namespace K35
open PySem PySem.Spec PyProof.Rows L2
/-- a letter as text -/
def chr (c : Nat) : Str := ⟨#[c]⟩
def tlV : Tl → List V
  | .beg => [.str "begin"]
  | .st c i => [.str "step", .str (chr c), iV i]
  | .lat i j => [.str "later", iV i, iV j]
  | .son i j => [.str "sooner", iV i, iV j]
abbrev LAt (H : Hp) (l : Addr) (L : List Tl) : Prop := RowsAt tlV H l L
def sk (a b : Nat) : List Key := [.inr (chr a), .inr (chr b)]
def SlowAt (slow : Nat → Nat → Bool) (H : Hp) (d : Addr) : Prop := ∃ es, H d = some (.dT es) ∧ ∀ a b, 97 ≤ a → a ≤ 100 → 97 ≤ b → b ≤ 100 → (valV es (sk a b)).isSome = slow a b
theorem SlowAt.ex {slow : Nat → Nat → Bool} {H H' : Hp} {d : Addr} (e : Ex H H') (h : SlowAt slow H d) : SlowAt slow H' d := by
  obtain ⟨es, h1, h2⟩ := h
  exact ⟨es, e _ _ h1, h2⟩
def spSteps : Sp := fun vs H Q _ => ∃ (l d : Addr) (slow : Nat → Nat → Bool) (L : List Tl), vs = [.ref l, .ref d] ∧ LAt H l L ∧ WFL L ∧ L.length ≤ 30 ∧ SlowAt slow H d ∧
  ∀ rl rs H', Ex H H' → RowsAt r4V H' rl rs → rs.length ≤ 900 → (∀ r ∈ rs, ∃ k l c d i j, L[k]? = some (.st c i) ∧ L[l]? = some (.st d j) ∧ slow (lo c) (lo d) = true ∧ r = rul c d i j k l) →
    (∀ k l c d i j, L[k]? = some (.st c i) → L[l]? = some (.st d j) → slow (lo c) (lo d) = true → rul c d i j k l ∈ rs ∨ ((rul c d i j k l).1 = (rul c d i j k l).2.2.1 ∧ (rul c d i j k l).2.1 = (rul c d i j k l).2.2.2)) → Q (.ref rl) H'
theorem okc_cases {c : Nat} (h : okc c) : c = 65 ∨ c = 66 ∨ c = 67 ∨ c = 68 ∨ c = 97 ∨ c = 98 ∨ c = 99 ∨ c = 100 := by unfold okc at h; omega
theorem low_chr {c : Nat} (h : okc c) : Txt.lower (chr c) = chr (lo c) := by
  rcases okc_cases h with h | h | h | h | h | h | h | h <;> subst h <;> decide +kernel
theorem islow_chr {c : Nat} (h : okc c) : Txt.islower (chr c) = isF c := by
  rcases okc_cases h with h | h | h | h | h | h | h | h <;> subst h <;> decide +kernel
theorem isupp_chr {c : Nat} (h : okc c) : Txt.isupper (chr c) = !isF c := by
  rcases okc_cases h with h | h | h | h | h | h | h | h <;> subst h <;> decide +kernel
theorem lo_bd {c : Nat} (h : okc c) : 97 ≤ lo c ∧ lo c ≤ 100 := by
  rcases okc_cases h with h | h | h | h | h | h | h | h <;> subst h <;> decide
/-! lists of things -/
section
variable {α : Type} {F : Hp → Addr → α → Prop} {H H' : Hp} {l p : Addr} {xs : List α} {x : α}
def RowsP (F : Hp → Addr → α → Prop) (H : Hp) (l : Addr) (xs : List α) : Prop := ∃ ts : List Addr, H l = some (.lst (ts.map V.ref)) ∧ ts.length = xs.length ∧ ∀ (i : Nat) (t : Addr) (x : α), ts[i]? = some t → xs[i]? = some x → F H t x
theorem RowsP.nil (h : H l = some (.lst [])) : RowsP F H l [] := ⟨[], h, rfl, fun i t x e => by cases e⟩
theorem RowsP.ex (e : Ex H H') (hF : ∀ t x, F H t x → F H' t x) (h : RowsP F H l xs) : RowsP F H' l xs := by
  obtain ⟨ts, h1, h2, h3⟩ := h
  exact ⟨ts, e _ _ h1, h2, fun i t x a b => hF t x (h3 i t x a b)⟩
theorem RowsP.snoc (st : ∀ ys zs t x, H l = some (.lst ys) → F H t x → F (upd H l (.lst zs)) t x) (h : RowsP F H l xs) (hp : F H p x) : ∃ acc, H l = some (.lst acc) ∧ acc.length = xs.length ∧ RowsP F (upd H l (.lst (acc ++ [V.ref p]))) l (xs ++ [x]) := by
  obtain ⟨ts, h1, h2, h3⟩ := h
  refine ⟨_, h1, by rw [List.length_map, h2], ts ++ [p], by rw [upd_same, List.map_append]; rfl, by simp [h2], fun i t y a b => st _ _ _ _ h1 ?_⟩
  rcases Nat.lt_trichotomy i ts.length with hi | hi | hi
  · rw [List.getElem?_append_left hi] at a
    rw [List.getElem?_append_left (by omega)] at b
    exact h3 i t y a b
  · rw [hi, List.getElem?_append_right (Nat.le_refl _), Nat.sub_self] at a
    rw [hi, h2, List.getElem?_append_right (Nat.le_refl _), Nat.sub_self] at b
    cases a
    cases b
    exact hp
  · rw [List.getElem?_eq_none (by rw [List.length_append, List.length_singleton]; omega)] at a
    cases a
def FT (f : α → List V) : Hp → Addr → α → Prop := fun H t x => H t = some (.tup (f x))
theorem FT.st {f : α → List V} (ys zs : List V) (t : Addr) (x : α) (h : H l = some (.lst ys)) (g : FT f H t x) : FT f (upd H l (.lst zs)) t x := by
  show (upd H l (.lst zs)) t = _
  rw [upd_ne (ne_of g h fun z => nomatch z)]
  exact g
theorem FT.ex {f : α → List V} (e : Ex H H') (t : Addr) (x : α) (g : FT f H t x) : FT f H' t x := e _ _ g
theorem rowsAt_iff {f : α → List V} : RowsAt f H l xs ↔ RowsP (FT f) H l xs := Iff.rfl
end
/-- a step with its place: the tuple of a place and the step's tuple -/
def FS : Hp → Addr → Nat × Nat × Nat → Prop := fun H t x => ∃ u, H t = some (.tup [iV x.1, .ref u]) ∧ H u = some (.tup (tlV (.st x.2.1 x.2.2)))
theorem FS.st {H : Hp} {l : Addr} (ys zs : List V) (t : Addr) (x : Nat × Nat × Nat) (h : H l = some (.lst ys)) (g : FS H t x) : FS (upd H l (.lst zs)) t x := by
  obtain ⟨u, g1, g2⟩ := g
  exact ⟨u, by rw [upd_ne (ne_of g1 h fun z => nomatch z)]; exact g1, by rw [upd_ne (ne_of g2 h fun z => nomatch z)]; exact g2⟩
theorem FS.ex {H H' : Hp} (e : Ex H H') (t : Addr) (x : Nat × Nat × Nat) (g : FS H t x) : FS H' t x := by
  obtain ⟨u, g1, g2⟩ := g
  exact ⟨u, e _ _ g1, e _ _ g2⟩
def rulS (x y : Nat × Nat × Nat) : R4 := rul x.2.1 y.2.1 x.2.2 y.2.2 x.1 y.1
structure SR (slow : Nat → Nat → Bool) (S : List (Nat × Nat × Nat)) (rs : List R4) (D : Nat → Nat → Prop) : Prop where
  snd : ∀ r ∈ rs, ∃ x ∈ S, ∃ y ∈ S, slow (lo x.2.1) (lo y.2.1) = true ∧ r = rulS x y
  cmp : ∀ (a b : Nat) x y, S[a]? = some x → S[b]? = some y → D a b → slow (lo x.2.1) (lo y.2.1) = true → rulS x y ∈ rs
section
variable {P : Program} {w : World} {K : PySem.W.Frag} {mg : Str → Option Value} {base : Heap}
abbrev N_step_rules : List Str := ["listed", "slower", "steps", "found", "k", "word", "one", "i", "l", "name", "two", "j", "at", "told", "rule"]
theorem sc_step_rules : FnScope N_step_rules ["listed", "slower"] (defScope s_step_rules) := ⟨rfl, rfl, rfl, by decide +kernel, rfl, by decide +kernel, by decide +kernel⟩
theorem c_step_rules (T : Tx K mg) : C8.Cal P w K mg base 1 "step_rules" spSteps [] :=
  mkCal T fn_step_rules rfl rfl rfl T.mg_step_rules sc_step_rules (fun _ _ _ _ _ _ us hl => match us, hl with | [_, _], _ => rfl) (fun vs H Q E h => by obtain ⟨l, d, slow, L, rfl, _⟩ := h; rfl) fun f cdv A outer s0 H vs Q E hr h => by
    obtain ⟨l, d, slow, L, rfl, hL, wl, hn, hs, k⟩ := h
    have hu := hu_of hr
    refine ⟨_, (pss_cons (ps_par (i := 2) (j := 3) (by rfl) sc_step_rules.nd rfl rfl (by decide) rfl rfl (pa_cons (pe_lc (own := [("at", 12), ("told", 13)]) (g := _) rfl sc_step_rules.nd (pi_enum (by rfl) T.f_enumerate (pa_cons (pv 0) pa_nil)) (blkOk_by (own := [("at", 12), ("told", 13)]) (N := N_step_rules) (sc := defScope s_step_rules) (by decide +kernel)) (fun _ _ _ _ _ => (pg_tupK (K := K) (n := 2) rfl rfl (pgs_cons (pg_name (i := 12) sc_step_rules.nd rfl (Or.inl rfl)) (pgs_cons (pg_name (i := 13) sc_step_rules.nd rfl (Or.inl rfl)) pgs_nil)) rfl)) (fun _ _ _ _ _ => (pts_one (pt_cmpR op_eq (pe_ix (ix_tupK (K := K) rfl) (pv 13) pe_int (fun _ _ => rfl)) pe_str (nomark _)))) (fun _ _ _ _ _ => (pe_tup (pa_cons (pv 12) (pa_cons (pv 13) pa_nil))))) (pa_cons (pe_lst pa_nil) pa_nil)) (by rfl))
      (pss_cons (ps_for PassesOwn.never rfl (pi_list (pv 2)) (pg_tup rfl (pgs_cons (pg_name (i := 4) sc_step_rules.nd rfl (Or.inl rfl)) (pgs_cons (pg_tup rfl (pgs_cons (pg_name (i := 5) sc_step_rules.nd rfl (Or.inl rfl)) (pgs_cons (pg_name (i := 6) sc_step_rules.nd rfl (Or.inl rfl)) (pgs_cons (pg_name (i := 7) sc_step_rules.nd rfl (Or.inl rfl)) pgs_nil)))) pgs_nil))) (pss_one (ps_for PassesOwn.never rfl (pi_list (pv 2)) (pg_tup rfl (pgs_cons (pg_name (i := 8) sc_step_rules.nd rfl (Or.inl rfl)) (pgs_cons (pg_tup rfl (pgs_cons (pg_name (i := 9) sc_step_rules.nd rfl (Or.inl rfl)) (pgs_cons (pg_name (i := 10) sc_step_rules.nd rfl (Or.inl rfl)) (pgs_cons (pg_name (i := 11) sc_step_rules.nd rfl (Or.inl rfl)) pgs_nil)))) pgs_nil))) (pss_one (ps_if (pt_cmp (pc_din hu (pe_tup (pa_cons (pe_lower (pv 6)) (pa_cons (pe_lower (pv 10)) pa_nil))) (pv 1))) (pss_one (ps_if (PW.pt (pw_and (pt_val (pe_bm0 PySem.F.plainAttrs_str PySem.F.slot_str_islower PySem.F.type_str_islower mt_islower (pv 6))) (pw_and1 (pt_val (pe_bm0 PySem.F.plainAttrs_str PySem.F.slot_str_islower PySem.F.type_str_islower mt_islower (pv 10)))))) (pss_one (ps_expr (pe_bm PySem.F.plainAttrs_list PySem.F.slot_list_append PySem.F.type_list_append mt_append (pv 3) (pa_cons (pe_tup (pa_cons (pv 7) (pa_cons (pv 11) (pa_cons (pv 4) (pa_cons (pv 8) pa_nil))))) pa_nil)))) (pss_one (ps_if (PW.pt (pw_and (pt_val (pe_bm0 PySem.F.plainAttrs_str PySem.F.slot_str_isupper PySem.F.type_str_isupper mt_isupper (pv 6))) (pw_and1 (pt_val (pe_bm0 PySem.F.plainAttrs_str PySem.F.slot_str_isupper PySem.F.type_str_isupper mt_isupper (pv 10)))))) (pss_one (ps_expr (pe_bm PySem.F.plainAttrs_list PySem.F.slot_list_append PySem.F.type_list_append mt_append (pv 3) (pa_cons (pe_tup (pa_cons (pv 11) (pa_cons (pv 7) (pa_cons (pv 8) (pa_cons (pv 4) pa_nil))))) pa_nil)))) (pss_one (ps_if (pt_val (pe_bm0 PySem.F.plainAttrs_str PySem.F.slot_str_islower PySem.F.type_str_islower mt_islower (pv 6))) (pss_one (ps_expr (pe_bm PySem.F.plainAttrs_list PySem.F.slot_list_append PySem.F.type_list_append mt_append (pv 3) (pa_cons (pe_tup (pa_cons (pv 7) (pa_cons (pv 8) (pa_cons (pv 4) (pa_cons (pv 11) pa_nil))))) pa_nil)))) (pss_one (ps_expr (pe_bm PySem.F.plainAttrs_list PySem.F.slot_list_append PySem.F.type_list_append mt_append (pv 3) (pa_cons (pe_tup (pa_cons (pv 8) (pa_cons (pv 7) (pa_cons (pv 11) (pa_cons (pv 4) pa_nil))))) pa_nil)))))))))) pss_nil)))))
      (pss_one (ps_ret (pe_lc (own := [("rule", 14)]) (g := gName 14) rfl sc_step_rules.nd (pi_list (pv 3)) (blkOk_by (own := [("rule", 14)]) (N := N_step_rules) (sc := defScope s_step_rules) (by decide +kernel)) (fun _ _ _ _ _ => (pg_name (i := 14) sc_step_rules.nd rfl (Or.inl rfl))) (fun _ _ _ _ _ => (pts_one (pt_cmpR (op_neDK (K := K) rfl hr.units) (pe_slice (sl_tupK (K := K) rfl) (pv 14) po_none (po_some pe_int)) (pe_slice (sl_tupK (K := K) rfl) (pv 14) (po_some pe_int) po_none) (nomark _)))) (fun _ _ _ _ _ => (pv 14))))))), ?_⟩
    obtain ⟨tl, l1, l2, l3⟩ := id hL
    refine ⟨_, rfl, l, _, rfl, SqL.of l1, fun D1 n1 => ?_⟩
    refine lc_wk (wk_enum (K := K) (a := l) (xs := tl.map V.ref)) (fun i H' => Ex H H' ∧ ∃ S, RowsP FS H' D1 S ∧ S.length ≤ i ∧ (∀ x ∈ S, L[x.1]? = some (.st x.2.1 x.2.2)) ∧ ∀ a c j, a < i → L[a]? = some (.st c j) → (a, c, j) ∈ S)
      ⟨Evl.Ex.new n1, [], RowsP.nil upd_same, Nat.le_refl _, (fun x h => by cases h), fun a c j h => absurd h (Nat.not_lt_zero _)⟩ (fun i H' _ p => SqL.of (p.1 _ _ l1)) ?_ ?_
    · rintro i y H1 H2 hi ⟨e1, S, hS, hl, hm, hc⟩ ⟨E1, x1, rfl, nE, rfl, hy⟩
      rw [List.getElem?_map] at hy
      obtain ⟨t, ht, rfl⟩ := Option.map_eq_some_iff.mp hy
      obtain ⟨tv, htv⟩ : ∃ r, L[i]? = some r := ⟨L[i]'(by rw [← l2]; exact (List.getElem?_eq_some_iff.mp ht).1), List.getElem?_eq_getElem _⟩
      have eE : Ex H1 (upd H1 E1 (.tup [iV i, .ref t])) := Evl.Ex.new nE
      have ht1 := eE _ _ (e1 _ _ (l3 i t tv ht htv))
      rw [List.length_map] at hi
      have hS' := hS.ex eE (FS.ex eE)
      have skip : (∀ c j, tv ≠ .st c j) → Ex H (upd H1 E1 (.tup [iV i, .ref t])) ∧ ∃ S, RowsP FS (upd H1 E1 (.tup [iV i, .ref t])) D1 S ∧ S.length ≤ i + 1 ∧ (∀ x ∈ S, L[x.1]? = some (.st x.2.1 x.2.2)) ∧ ∀ a c j, a < i + 1 → L[a]? = some (.st c j) → (a, c, j) ∈ S := fun q =>
        ⟨e1.trans eE, S, hS', Nat.le_succ_of_le hl, hm, fun a c j h g => by
          by_cases e : a = i
          · subst e
            rw [htv] at g
            exact absurd (Option.some.inj g) (q c j)
          · exact hc a c j (by omega) g⟩
      refine ⟨E1, _, rfl, SqT.of upd_same, rfl, _, _, rfl, _, _, rfl, rfl, ?_⟩
      refine ⟨rfl, ?_⟩
      cases tv with
      | beg =>
        refine ⟨_, rfl, t, _, _, _, rfl, rfl, SqT.of ht1, rfl, rfl, _, rfl, ?_⟩
        have d : decide (V.str "begin" = V.str "step") = false := by decide +kernel
        show (if decide (V.str "begin" = V.str "step") = true then _ else _)
        rw [d]
        exact iteF (skip fun c j z => nomatch z)
      | lat a b =>
        refine ⟨_, rfl, t, _, _, _, rfl, rfl, SqT.of ht1, rfl, rfl, _, rfl, ?_⟩
        have d : decide (V.str "later" = V.str "step") = false := by decide +kernel
        show (if decide (V.str "later" = V.str "step") = true then _ else _)
        rw [d]
        exact iteF (skip fun c j z => nomatch z)
      | son a b =>
        refine ⟨_, rfl, t, _, _, _, rfl, rfl, SqT.of ht1, rfl, rfl, _, rfl, ?_⟩
        have d : decide (V.str "sooner" = V.str "step") = false := by decide +kernel
        show (if decide (V.str "sooner" = V.str "step") = true then _ else _)
        rw [d]
        exact iteF (skip fun c j z => nomatch z)
      | st c j =>
        refine ⟨_, rfl, t, _, _, _, rfl, rfl, SqT.of ht1, rfl, rfl, _, rfl, ?_⟩
        have d : decide (V.str "step" = V.str "step") = true := by decide +kernel
        show (if decide (V.str "step" = V.str "step") = true then _ else _)
        rw [d]
        refine iteT ⟨_, rfl, _, rfl, by show 2 ≤ sizeLine; decide, fun p np => ?_⟩
        have ep : Ex (upd H1 E1 (.tup [iV i, .ref t])) (upd (upd H1 E1 (.tup [iV i, .ref t])) p (.tup [iV i, .ref t])) := Evl.Ex.new np
        obtain ⟨acc, a1, a2, a3⟩ := (hS'.ex ep (FS.ex ep)).snoc FS.st (x := (i, c, j)) ⟨t, upd_same, ep _ _ ht1⟩
        refine ⟨acc, a1, lt_line (by rw [a2]; omega), Evl.Ex.mut ((e1.trans eE).trans ep) n1, _, a3, by simp; exact hl, fun x hx => ?_, fun a c' j' h g => ?_⟩
        · rcases List.mem_append.mp hx with h | h
          · exact hm x h
          · rw [List.mem_singleton] at h
            rw [h]
            exact htv
        · by_cases e : a = i
          · subst e
            rw [htv] at g
            cases g
            exact List.mem_append_right _ (List.mem_singleton.mpr rfl)
          · exact List.mem_append_left _ (hc a c' j' (by omega) g)
    · rintro H1 ⟨e1, S, hS, hl, hm, hc⟩
      rw [List.length_map] at hl hc
      have hSl : S.length ≤ 30 := by omega
      refine ⟨by show 0 ≤ sizeLine; decide, fun fl nf => ?_⟩
      refine ⟨_, _, rfl, ?_⟩
      obtain ⟨ts, s1, s2, s3⟩ := id hS
      have ef : Ex H1 (upd H1 fl (.lst [])) := Evl.Ex.new nf
      refine ⟨_, rfl, _, rfl, ⟨_, SqL.of (ef _ _ s1)⟩, ?_⟩
      refine for_wk (wk_list (K := K) (a := D1) (xs := ts.map V.ref)) (fun i σ H' => Ex H1 H' ∧ ∃ v4 v5 v6 v7 v8 v9 v10 v11 rs, σ = [some (.ref l), some (.ref d), some (.ref D1), some (.ref fl), v4, v5, v6, v7, v8, v9, v10, v11, none, none, none] ∧ RowsAt r4V H' fl rs ∧ rs.length ≤ i * 30 ∧ SR slow S rs (fun a b => a < i))
        ⟨ef, none, none, none, none, none, none, none, none, [], rfl, RowsP.nil (F := FT r4V) upd_same, Nat.zero_le _, ⟨(fun r h => by cases h), fun a b x y _ _ h => absurd h (Nat.not_lt_zero _)⟩⟩ (fun i σ H' _ p => SqL.of (p.1 _ _ s1)) ?_ ?_
      · rintro i y σ H2 H3 hi ⟨e2, v4, v5, v6, v7, v8, v9, v10, v11, rs, rfl, hR, hRl, hSR⟩ ⟨rfl, hy⟩
        rw [List.getElem?_map] at hy
        obtain ⟨t, ht, rfl⟩ := Option.map_eq_some_iff.mp hy
        obtain ⟨x, hx⟩ : ∃ r, S[i]? = some r := ⟨S[i]'(by rw [← s2]; exact (List.getElem?_eq_some_iff.mp ht).1), List.getElem?_eq_getElem _⟩
        obtain ⟨u, ux, uy⟩ := FS.ex e2 t x (s3 i t x ht hx)
        have hxL := hm x (List.mem_of_getElem? hx)
        have okx := (wl.ok _ _ hxL).1
        refine ⟨t, _, rfl, SqT.of ux, rfl, _, _, rfl, _, _, rfl, u, _, rfl, SqT.of uy, rfl, _, _, rfl, _, _, rfl, _, _, rfl, rfl, rfl, ?_⟩
        refine ⟨_, rfl, _, rfl, ⟨_, SqL.of (e2 _ _ s1)⟩, ?_⟩
        refine for_wk (wk_list (K := K) (a := D1) (xs := ts.map V.ref)) (fun j σ H' => Ex H1 H' ∧ ∃ v8 v9 v10 v11 rs, σ = [some (.ref l), some (.ref d), some (.ref D1), some (.ref fl), some (iV x.1), some (.str "step"), some (.str (chr x.2.1)), some (iV x.2.2), v8, v9, v10, v11, none, none, none] ∧ RowsAt r4V H' fl rs ∧ rs.length ≤ i * 30 + j ∧ SR slow S rs (fun a b => a < i ∨ (a = i ∧ b < j)))
          ⟨e2, v8, v9, v10, v11, rs, rfl, hR, hRl, ⟨hSR.snd, fun a b x y h1 h2 h => hSR.cmp a b x y h1 h2 (by omega)⟩⟩ (fun i σ H' _ p => SqL.of (p.1 _ _ s1)) ?_ ?_
        · rintro j y σ H4 H5 hj ⟨e4, w8, w9, w10, w11, rs, rfl, hR, hRl, hSR⟩ ⟨rfl, hy⟩
          rw [List.getElem?_map] at hy
          obtain ⟨t2, ht2, rfl⟩ := Option.map_eq_some_iff.mp hy
          obtain ⟨z, hz⟩ : ∃ r, S[j]? = some r := ⟨S[j]'(by rw [← s2]; exact (List.getElem?_eq_some_iff.mp ht2).1), List.getElem?_eq_getElem _⟩
          obtain ⟨u2, zx, zy⟩ := FS.ex e4 t2 z (s3 j t2 z ht2 hz)
          have hzL := hm z (List.mem_of_getElem? hz)
          have okz := (wl.ok _ _ hzL).1
          rw [List.length_map] at hi hj
          refine ⟨t2, _, rfl, SqT.of zx, rfl, _, _, rfl, _, _, rfl, u2, _, rfl, SqT.of zy, rfl, _, _, rfl, _, _, rfl, _, _, rfl, rfl, rfl, ?_⟩
          refine ⟨_, rfl, ⟨_, rfl⟩, _, rfl, rfl, (by show 1 ≤ 5592405; decide), _, rfl, ⟨_, rfl⟩, _, rfl, rfl, (by show 1 ≤ 5592405; decide), by show 2 ≤ sizeLine; decide, fun p np => ?_⟩
          have ep : Ex H5 (upd H5 p (.tup [.str (Txt.lower (chr x.2.1)), .str (Txt.lower (chr z.2.1))])) := Evl.Ex.new np
          have hk : (upd H5 p (.tup [.str (Txt.lower (chr x.2.1)), .str (Txt.lower (chr z.2.1))])) p = some (.tup ((sk (lo x.2.1) (lo z.2.1)).map kV)) := by
            rw [upd_same, low_chr okx, low_chr okz]
            rfl
          generalize upd H5 p (.tup [.str (Txt.lower (chr x.2.1)), .str (Txt.lower (chr z.2.1))]) = H6 at ep hk
          have hR := RowsAt.ex ep hR
          have e6 := e4.trans ep
          obtain ⟨es, he1, he2⟩ := hs.ex (e1.trans e6)
          have hv := he2 (lo x.2.1) (lo z.2.1) (lo_bd okx).1 (lo_bd okx).2 (lo_bd okz).1 (lo_bd okz).2
          refine ⟨_, rfl, d, _, rfl, .inr ⟨es, _, p, .inl he1, rfl, hk, rfl⟩, _, rfl, ?_⟩
          rw [hv]
          cases hsl : slow (lo x.2.1) (lo z.2.1) with
          | false =>
            refine iteF ⟨e6, _, _, _, _, rs, rfl, hR, Nat.le_succ_of_le hRl, hSR.snd, fun a b x' y' h1 h2 h h3 => ?_⟩
            by_cases e : a = i ∧ b = j
            · obtain ⟨rfl, rfl⟩ := e
              rw [hx] at h1
              rw [hz] at h2
              cases h1
              cases h2
              rw [hsl] at h3
              cases h3
            · exact hSR.cmp a b x' y' h1 h2 (by omega) h3
          | true =>
            refine iteT ?_
            have app : ∀ (p : Addr), H6 p = none → ∃ (l' : Addr) (xs : List V) (y : V), V.ref fl = .ref l' ∧ [V.ref p] = [y] ∧ (upd H6 p (.tup (r4V (rulS x z)))) l' = some (.lst xs) ∧ xs.length < sizeLine ∧
                (Ex H1 (upd (upd H6 p (.tup (r4V (rulS x z)))) l' (.lst (xs ++ [y]))) ∧ ∃ v8 v9 v10 v11 rs, ([some (.ref l), some (.ref d), some (.ref D1), some (.ref fl), some (iV x.1), some (.str "step"), some (.str (chr x.2.1)), some (iV x.2.2), some (iV z.1), some (.str "step"), some (.str (chr z.2.1)), some (iV z.2.2), none, none, none] : L2.St) = [some (.ref l), some (.ref d), some (.ref D1), some (.ref fl), some (iV x.1), some (.str "step"), some (.str (chr x.2.1)), some (iV x.2.2), v8, v9, v10, v11, none, none, none] ∧ RowsAt r4V (upd (upd H6 p (.tup (r4V (rulS x z)))) l' (.lst (xs ++ [y]))) fl rs ∧ rs.length ≤ i * 30 + (j + 1) ∧ SR slow S rs (fun a b => a < i ∨ (a = i ∧ b < j + 1))) := by
              intro p np
              have e7 : Ex H6 (upd H6 p (.tup (r4V (rulS x z)))) := Evl.Ex.new np
              obtain ⟨acc, a1, a2, a3⟩ := RowsP.snoc FT.st (RowsAt.ex e7 hR) (p := p) (x := rulS x z) upd_same
              refine ⟨fl, acc, _, rfl, rfl, a1, lt_line (by rw [a2]; omega), Evl.Ex.mut (e6.trans e7) nf, _, _, _, _, _, rfl, a3, by rw [List.length_append, List.length_singleton]; omega, fun r hr => ?_, fun a b x' y' h1 h2 h h3 => ?_⟩
              · rcases List.mem_append.mp hr with h | h
                · exact hSR.snd r h
                · rw [List.mem_singleton] at h
                  exact ⟨x, List.mem_of_getElem? hx, z, List.mem_of_getElem? hz, hsl, h⟩
              · by_cases e : a = i ∧ b = j
                · obtain ⟨rfl, rfl⟩ := e
                  rw [hx] at h1
                  rw [hz] at h2
                  cases h1
                  cases h2
                  exact List.mem_append_right _ (List.mem_singleton.mpr rfl)
                · exact List.mem_append_left _ (hSR.cmp a b x' y' h1 h2 (by omega) h3)
            have tl' : tyV K "list" (V.ref fl) H6 := .inl ⟨rfl, _, SqL.of hR.choose_spec.1⟩
            have d4 : 4 ≤ sizeLine := by decide
            have ix := islow_chr okx
            have iz := islow_chr okz
            have jx := isupp_chr okx
            have jz := isupp_chr okz
            unfold rulS rul at app
            refine ⟨_, rfl, rfl, _, rfl, rfl, trivial, _, rfl, ?_⟩
            rw [ix]
            cases fx : isF x.2.1 with
            | true =>
              rw [fx] at app ix jx
              refine iteT ⟨_, rfl, rfl, _, rfl, rfl, trivial, _, rfl, ?_⟩
              rw [iz]
              cases fz : isF z.2.1 with
              | true =>
                rw [fz] at app
                refine iteT ⟨_, rfl, tl', _, rfl, _, rfl, _, rfl, _, rfl, d4, fun p np => app p np⟩
              | false =>
                rw [fz] at app
                refine iteF ⟨_, rfl, rfl, _, rfl, rfl, trivial, _, rfl, ?_⟩
                rw [jx]
                refine iteF (iteF ⟨_, rfl, rfl, _, rfl, rfl, trivial, _, rfl, ?_⟩)
                rw [ix]
                refine iteT ⟨_, rfl, tl', _, rfl, _, rfl, _, rfl, _, rfl, d4, fun p np => app p np⟩
            | false =>
              rw [fx] at app ix jx
              refine iteF (iteF ⟨_, rfl, rfl, _, rfl, rfl, trivial, _, rfl, ?_⟩)
              rw [jx]
              refine iteT ⟨_, rfl, rfl, _, rfl, rfl, trivial, _, rfl, ?_⟩
              rw [jz]
              cases fz : isF z.2.1 with
              | true =>
                rw [fz] at app
                refine iteF ⟨_, rfl, rfl, _, rfl, rfl, trivial, _, rfl, ?_⟩
                rw [ix]
                refine iteF ⟨_, rfl, tl', _, rfl, _, rfl, _, rfl, _, rfl, d4, fun p np => app p np⟩
              | false =>
                rw [fz] at app
                refine iteT ⟨_, rfl, tl', _, rfl, _, rfl, _, rfl, _, rfl, d4, fun p np => app p np⟩
        · rintro σ H4 ⟨e4, w8, w9, w10, w11, rs, rfl, hR, hRl, hSR⟩
          rw [List.length_map] at hRl hi hSR
          exact ⟨e4, _, _, _, _, _, _, _, _, rs, rfl, hR, by omega, hSR.snd, fun a b x' y' h1 h2 h h3 => hSR.cmp a b x' y' h1 h2 (by
            have := (List.getElem?_eq_some_iff.mp h2).1
            omega) h3⟩
      · rintro σ H2 ⟨e2, v4, v5, v6, v7, v8, v9, v10, v11, rs, rfl, hR, hRl, hSR⟩
        rw [List.length_map] at hRl hSR
        obtain ⟨tr, r1, r2, r3⟩ := id hR
        refine ⟨_, rfl, fl, rfl, ⟨_, SqL.of r1⟩, fun D2 n2 => ?_⟩
        refine lc_wk (wk_list (K := K) (a := fl) (xs := tr.map V.ref)) (fun i H' => Ex H2 H' ∧ ∃ rs', RowsAt r4V H' D2 rs' ∧ rs'.length ≤ i ∧ (∀ r ∈ rs', r ∈ rs) ∧ ∀ (a : Nat) r, a < i → rs[a]? = some r → r ∈ rs' ∨ (r.1 = r.2.2.1 ∧ r.2.1 = r.2.2.2))
          ⟨Evl.Ex.new n2, [], RowsP.nil (F := FT r4V) upd_same, Nat.le_refl _, (fun x h => by cases h), fun a r h => absurd h (Nat.not_lt_zero _)⟩ (fun i H' _ p => SqL.of (p.1 _ _ r1)) ?_ ?_
        · rintro i y H3 H4 hi ⟨e3, rs', hR', hl', hm', hc'⟩ ⟨rfl, hy⟩
          rw [List.getElem?_map] at hy
          obtain ⟨t, ht, rfl⟩ := Option.map_eq_some_iff.mp hy
          obtain ⟨r, hr0⟩ : ∃ r, rs[i]? = some r := ⟨rs[i]'(by rw [← r2]; exact (List.getElem?_eq_some_iff.mp ht).1), List.getElem?_eq_getElem _⟩
          have ht1 := e3 _ _ (r3 i t r ht hr0)
          rw [List.length_map] at hi
          refine ⟨rfl, ?_⟩
          refine ⟨_, rfl, 2, rfl, t, _, rfl, SqT.of ht1, (by show ¬ (HT.sIx 4 0 _ = 0 ∧ HT.sIx 4 4 _ = 4); decide), fun p np => ?_⟩
          have e5 : Ex H4 (upd H4 p (.tup [iV r.1, iV r.2.1])) := Evl.Ex.new np
          refine ⟨_, rfl, 2, rfl, t, _, rfl, SqT.of (e5 _ _ ht1), (by show ¬ (HT.sIx 4 0 _ = 0 ∧ HT.sIx 4 4 _ = 4); decide), fun q nq => ?_⟩
          have e6 : Ex (upd H4 p (.tup [iV r.1, iV r.2.1])) (upd (upd H4 p (.tup [iV r.1, iV r.2.1])) q (.tup [iV r.2.2.1, iV r.2.2.2])) := Evl.Ex.new nq
          refine ⟨_, _, .tup (SqT.of (e6 _ _ upd_same)) (.cons (.int _) (.cons (.int _) .nil)), .tup (SqT.of upd_same) (.cons (.int _) (.cons (.int _) .nil)), rfl, rfl, _, rfl, ?_⟩
          have ev : PyData.eqv (.tuple [.int (r.1 : Int), .int (r.2.1 : Int)]) (.tuple [.int (r.2.2.1 : Int), .int (r.2.2.2 : Int)]) = (decide (r.1 = r.2.2.1) && decide (r.2.1 = r.2.2.2)) := by
            rw [Bool.eq_iff_iff]
            simp [PyData.eqv, PyData.eqvAll]
            omega
          have e36 := (e3.trans e5).trans e6
          have hR6 := RowsAt.ex (e5.trans e6) hR'
          have ht6 := e6 _ _ (e5 _ _ ht1)
          show (if (!PyData.eqv (.tuple [.int (r.1 : Int), .int (r.2.1 : Int)]) (.tuple [.int (r.2.2.1 : Int), .int (r.2.2.2 : Int)])) = true then _ else _)
          rw [ev]
          by_cases c : r.1 = r.2.2.1 ∧ r.2.1 = r.2.2.2
          · rw [decide_eq_true c.1, decide_eq_true c.2]
            refine iteF ⟨e36, rs', hR6, Nat.le_succ_of_le hl', hm', fun a r' h1 h2 => ?_⟩
            by_cases e : a = i
            · subst e
              rw [hr0] at h2
              cases h2
              exact .inr c
            · exact hc' a r' (by omega) h2
          · have cf : (decide (r.1 = r.2.2.1) && decide (r.2.1 = r.2.2.2)) = false := by
              rw [← Bool.decide_and]
              exact decide_eq_false c
            rw [cf]
            refine iteT ?_
            obtain ⟨acc, a1, a2, a3⟩ := RowsP.snoc FT.st hR6 ht6
            refine ⟨_, rfl, acc, a1, lt_line (by rw [a2]; omega), Evl.Ex.mut e36 n2, _, a3, by rw [List.length_append, List.length_singleton]; omega, fun r' hr' => ?_, fun a r' h1 h2 => ?_⟩
            · rcases List.mem_append.mp hr' with h | h
              · exact hm' r' h
              · rw [List.mem_singleton] at h
                rw [h]
                exact List.mem_of_getElem? hr0
            · by_cases e : a = i
              · subst e
                rw [hr0] at h2
                cases h2
                exact .inl (List.mem_append_right _ (List.mem_singleton.mpr rfl))
              · exact (hc' a r' (by omega) h2).imp (List.mem_append_left _) _root_.id
        · rintro H3 ⟨e3, rs', hR', hl', hm', hc'⟩
          rw [List.length_map] at hl' hc'
          refine k D2 rs' H3 ((e1.trans e2).trans e3) hR' (by omega) (fun r hr => ?_) fun ka la c d i j h1 h2 h3 => ?_
          · obtain ⟨x, hx, y, hy, q1, q2⟩ := hSR.snd r (hm' r hr)
            exact ⟨x.1, y.1, x.2.1, y.2.1, x.2.2, y.2.2, hm x hx, hm y hy, q1, q2⟩
          · have g1 := hc ka c i (by rw [l2]; exact (List.getElem?_eq_some_iff.mp h1).1) h1
            have g2 := hc la d j (by rw [l2]; exact (List.getElem?_eq_some_iff.mp h2).1) h2
            obtain ⟨a, ha⟩ := List.mem_iff_getElem?.mp g1
            obtain ⟨b, hb⟩ := List.mem_iff_getElem?.mp g2
            have q := hSR.cmp a b _ _ ha hb (by rw [s2]; exact (List.getElem?_eq_some_iff.mp ha).1) h3
            obtain ⟨m, hm2⟩ := List.mem_iff_getElem?.mp q
            exact hc' m _ (by rw [r2]; exact (List.getElem?_eq_some_iff.mp hm2).1) hm2
end
end K35

/-! first_order. -/
namespace K35
open PySem PySem.Spec PyProof.Rows L2
def U0 (n : Nat) : List Nat := (List.range n).map (2 ^ ·)
def B0 (n : Nat) : List Nat := List.replicate n 0
theorem bt_U0 {n i j : Nat} : bt (U0 n) i j = (decide (i < n) && decide (i = j)) := by
  unfold bt U0
  rw [List.getD_eq_getElem?_getD, List.getElem?_map]
  by_cases h : i < n
  · rw [List.getElem?_range h]
    simp [h, Nat.testBit_two_pow]
  · rw [List.getElem?_eq_none (by simp; omega)]
    simp [h]
theorem bt_B0 {n i j : Nat} : bt (B0 n) i j = false := by
  unfold bt B0
  rw [List.getD_eq_getElem?_getD, List.getElem?_replicate]
  split <;> simp
theorem wf0 (n : Nat) : Wf n (U0 n) (B0 n) where
  lu := by simp [U0]
  lb := by simp [B0]
  bu := fun x hx => by
    unfold U0 at hx
    obtain ⟨i, hi, rfl⟩ := List.mem_map.mp hx
    exact Nat.pow_lt_pow_right (by decide) (List.mem_range.mp hi)
  bb := fun x hx => by
    rw [(List.mem_replicate.mp hx).2]
    exact Nat.two_pow_pos n
  sub := fun i j h => by rw [bt_B0] at h; cases h
  rf := fun i hi => by rw [bt_U0]; simp [hi]
structure IniK (L : List Tl) (U : List Nat) (m : Nat) : Prop where
  st : ∀ k c i, k < m → L[k]? = some (.st c i) → if isF c = true then bt U i k = true else bt U k i = true
  lat : ∀ k i j, k < m → L[k]? = some (.lat i j) → bt U i k = true ∧ bt U j k = true
  son : ∀ k i j, k < m → L[k]? = some (.son i j) → bt U k i = true ∧ bt U k j = true
theorem IniK.mono {L : List Tl} {U U' : List Nat} {m : Nat} (h : IniK L U m) (g : ∀ i j, bt U i j = true → bt U' i j = true) : IniK L U' m where
  st := fun k c i hk e => by
    have z := h.st k c i hk e
    split at z
    · rename_i f; rw [if_pos f]; exact g _ _ z
    · rename_i f; rw [if_neg f]; exact g _ _ z
  lat := fun k i j hk e => ⟨g _ _ (h.lat k i j hk e).1, g _ _ (h.lat k i j hk e).2⟩
  son := fun k i j hk e => ⟨g _ _ (h.son k i j hk e).1, g _ _ (h.son k i j hk e).2⟩
theorem IniK.succ {L : List Tl} {U : List Nat} {m : Nat} (h : IniK L U m) (h1 : ∀ c i, L[m]? = some (.st c i) → if isF c = true then bt U i m = true else bt U m i = true)
    (h2 : ∀ i j, L[m]? = some (.lat i j) → bt U i m = true ∧ bt U j m = true) (h3 : ∀ i j, L[m]? = some (.son i j) → bt U m i = true ∧ bt U m j = true) : IniK L U (m + 1) where
  st := fun k c i hk e => by
    by_cases q : k = m
    · subst q; exact h1 c i e
    · exact h.st k c i (by omega) e
  lat := fun k i j hk e => by
    by_cases q : k = m
    · subst q; exact h2 i j e
    · exact h.lat k i j (by omega) e
  son := fun k i j hk e => by
    by_cases q : k = m
    · subst q; exact h3 i j e
    · exact h.son k i j (by omega) e
/-- the state between two puts -/
structure Pt (slow : Nat → Nat → Bool) (L : List Tl) (e1 e2 : Nat) (U B : List Nat) : Prop where
  wf : Wf L.length U B
  snd : ∀ v, GoodV slow v L → v e2 < v e1 → Sat v U B
theorem Pt.put {slow : Nat → Nat → Bool} {L : List Tl} {e1 e2 : Nat} {U B : List Nat} (p : Pt slow L e1 e2 U B) {i j : Nat} (hi : i < L.length) (hj : j < L.length) (s : Bool) (h : ∀ v, GoodV slow v L → v e2 < v e1 → v i ≤ v j ∧ (s = true → v i < v j)) :
    Pt slow L e1 e2 (putB U i j) (putS B i j s) := ⟨p.wf.put hi hj s, fun v g l => sat_put p.wf hi (p.snd v g l) (h v g l).1 (h v g l).2⟩
theorem bt_put {n : Nat} {U B : List Nat} (w : Wf n U B) {i j : Nat} (hi : i < n) : bt (putB U i j) i j = true := by
  rw [bt_putB (by rw [w.lu]; exact hi)]; simp
theorem bt_keep {n : Nat} {U B : List Nat} (w : Wf n U B) {i j : Nat} (hi : i < n) (a b : Nat) (h : bt U a b = true) : bt (putB U i j) a b = true := by
  rw [bt_putB (by rw [w.lu]; exact hi), h]; rfl
theorem But.of {a : Oa} {H H' : Hp} (e : Ex H H') : But a H H' := fun b o h _ _ => e b o h
/-- joints of a list of values -/
def jnt (k : Nat) : Tl → Option J4
  | .lat i j => some (true, i, j, k)
  | .son i j => some (false, i, j, k)
  | _ => none
def spFirst (K : PySem.W.Frag) : Sp := fun vs H Q _ => ∃ (l e d : Addr) (slow : Nat → Nat → Bool) (L : List Tl) (e1 e2 : Nat), vs = [.ref l, .ref e, .ref d] ∧ LAt H l L ∧ WFL L ∧ L.length ≤ 30 ∧ SlowAt slow H d ∧ H e = some (.tup [iV e1, iV e2]) ∧ e1 < L.length ∧ e2 < L.length ∧
  ∀ a rs js U B H', Ex H H' → Oz K H' a L.length rs js U B → Rls slow L rs js → Fst slow L e1 e2 rs js U B → Q (.ref a.p) H'
section
variable {P : Program} {w : World} {K : PySem.W.Frag} {mg : Str → Option Value} {base : Heap}
abbrev N_first_order : List Str := ["listed", "ends", "slower", "many", "joints", "found", "k", "told", "i"]
theorem sc_first_order : FnScope N_first_order ["listed", "ends", "slower"] (defScope s_first_order) := ⟨rfl, rfl, rfl, by decide +kernel, rfl, by decide +kernel, by decide +kernel⟩
theorem c_first_order (T : Tx K mg) : C8.Cal P w K mg base 4 "first_order" (spFirst K) [] :=
  mkCal T fn_first_order rfl rfl rfl T.mg_first_order sc_first_order (fun _ _ _ _ _ _ us hl => match us, hl with | [_, _, _], _ => rfl) (fun vs H Q E h => by obtain ⟨l, e, d, slow, L, e1, e2, rfl, _⟩ := h; rfl) fun f cdv A outer s0 H vs Q E hr h => by
    obtain ⟨l, e, d, slow, L, e1, e2, rfl, hL, wl, hn, hs, he, h1, h2, k⟩ := h
    have hu := hu_of hr
    refine ⟨_, (pss_cons (ps_set (i := 3) sc_first_order.nd rfl (Or.inl rfl) (pe_callB call_len_seq (by rfl) T.f_len (by decide +kernel) (pa_cons (pv 0) pa_nil)))
      (pss_cons (ps_setLc (i := 4) (own := [("k", 6), ("told", 7)]) (g := _) rfl sc_first_order.nd rfl rfl (sw_true rfl rfl rfl (by decide +kernel)) (pi_enum (by rfl) T.f_enumerate (pa_cons (pv 0) pa_nil)) (blkOk_by (own := [("k", 6), ("told", 7)]) (N := N_first_order) (sc := defScope s_first_order) (by decide +kernel)) (fun _ _ _ _ _ => (pg_tupK (K := K) (n := 2) rfl rfl (pgs_cons (pg_name (i := 6) sc_first_order.nd rfl (Or.inl rfl)) (pgs_cons (pg_name (i := 7) sc_first_order.nd rfl (Or.inl rfl)) pgs_nil)) rfl)) (fun _ _ _ _ _ => (pts_one (pt_cmpR (op_in_seqK (K := K) rfl) (pe_ix (ix_tupK (K := K) rfl) (pv 7) pe_int (fun _ _ => rfl)) (pe_tup (pa_cons pe_str (pa_cons pe_str pa_nil))) rfl))) (fun _ _ _ _ _ => (pe_tup (pa_cons (pe_ix (ix_tupK (K := K) rfl) (pv 7) pe_int (fun _ _ => rfl)) (pa_cons (pe_ix (ix_tupK (K := K) rfl) (pv 7) pe_int (fun _ _ => rfl)) (pa_cons (pe_ix (ix_tupK (K := K) rfl) (pv 7) pe_int (fun _ _ => rfl)) (pa_cons (pv 6) pa_nil)))))))
      (pss_cons (ps_set (i := 5) sc_first_order.nd rfl (Or.inl rfl) (C8.pe_mk (k_Order T) hr (by decide) (by rfl) (pa_cons (C8.pe_c (c_step_rules T) hr (by decide) (by rfl) (pa_cons (pv 0) (pa_cons (pv 2) pa_nil))) (pa_cons (pv 4) (pa_cons (pe_lc (own := [("i", 8)]) (g := gName 8) rfl sc_first_order.nd (pi_range1 rfl T.f_range (pa_cons (pv 3) pa_nil)) (blkOk_by (own := [("i", 8)]) (N := N_first_order) (sc := defScope s_first_order) (by decide +kernel)) (fun _ _ _ _ _ => (pg_name (i := 8) sc_first_order.nd rfl (Or.inl rfl))) (fun _ _ _ _ _ => pts_nil) (fun _ _ _ _ _ => (pe_op op_shl pe_int (pv 8)))) (pa_cons (pe_op op_rep (pe_lst (pa_cons pe_int pa_nil)) (pv 3)) pa_nil))))))
      (pss_cons (ps_for PassesOwn.never rfl (pi_enum (by rfl) T.f_enumerate (pa_cons (pv 0) pa_nil)) (pg_tup rfl (pgs_cons (pg_name (i := 6) sc_first_order.nd rfl (Or.inl rfl)) (pgs_cons (pg_name (i := 7) sc_first_order.nd rfl (Or.inl rfl)) pgs_nil))) (pss_cons (ps_if (PW.pt (pw_and (pt_cmpR op_eq (pe_ix (ix_tupK (K := K) rfl) (pv 7) pe_int (fun _ _ => rfl)) pe_str (nomark _)) (pw_and1 (pt_val (pe_bm0 PySem.F.plainAttrs_str PySem.F.slot_str_islower PySem.F.type_str_islower mt_islower (pe_ix (ix_tupK (K := K) rfl) (pv 7) pe_int (fun _ _ => rfl))))))) (pss_one (ps_expr (C8.pe_mt (m_put T) hr (by decide) (pv 5) (pa_cons (pe_ix (ix_tupK (K := K) rfl) (pv 7) pe_int (fun _ _ => rfl)) (pa_cons (pv 6) (pa_cons pe_bl pa_nil)))))) pss_nil)
        (pss_cons (ps_if (PW.pt (pw_and (pt_cmpR op_eq (pe_ix (ix_tupK (K := K) rfl) (pv 7) pe_int (fun _ _ => rfl)) pe_str (nomark _)) (pw_and1 (pt_val (pe_bm0 PySem.F.plainAttrs_str PySem.F.slot_str_isupper PySem.F.type_str_isupper mt_isupper (pe_ix (ix_tupK (K := K) rfl) (pv 7) pe_int (fun _ _ => rfl))))))) (pss_one (ps_expr (C8.pe_mt (m_put T) hr (by decide) (pv 5) (pa_cons (pv 6) (pa_cons (pe_ix (ix_tupK (K := K) rfl) (pv 7) pe_int (fun _ _ => rfl)) (pa_cons pe_bl pa_nil)))))) pss_nil)
        (pss_cons (ps_if (pt_cmpR op_eq (pe_ix (ix_tupK (K := K) rfl) (pv 7) pe_int (fun _ _ => rfl)) pe_str (nomark _)) (pss_cons (ps_expr (C8.pe_mt (m_put T) hr (by decide) (pv 5) (pa_cons (pe_ix (ix_tupK (K := K) rfl) (pv 7) pe_int (fun _ _ => rfl)) (pa_cons (pv 6) (pa_cons pe_bl pa_nil)))))
          (pss_one (ps_expr (C8.pe_mt (m_put T) hr (by decide) (pv 5) (pa_cons (pe_ix (ix_tupK (K := K) rfl) (pv 7) pe_int (fun _ _ => rfl)) (pa_cons (pv 6) (pa_cons pe_bl pa_nil))))))) pss_nil)
        (pss_one (ps_if (pt_cmpR op_eq (pe_ix (ix_tupK (K := K) rfl) (pv 7) pe_int (fun _ _ => rfl)) pe_str (nomark _)) (pss_cons (ps_expr (C8.pe_mt (m_put T) hr (by decide) (pv 5) (pa_cons (pv 6) (pa_cons (pe_ix (ix_tupK (K := K) rfl) (pv 7) pe_int (fun _ _ => rfl)) (pa_cons pe_bl pa_nil)))))
          (pss_one (ps_expr (C8.pe_mt (m_put T) hr (by decide) (pv 5) (pa_cons (pv 6) (pa_cons (pe_ix (ix_tupK (K := K) rfl) (pv 7) pe_int (fun _ _ => rfl)) (pa_cons pe_bl pa_nil))))))) pss_nil))))))
      (pss_cons (ps_expr (C8.pe_mt (m_put T) hr (by decide) (pv 5) (pa_cons (pe_ix (ix_tupK (K := K) rfl) (pv 1) pe_int (fun _ _ => rfl)) (pa_cons (pe_ix (ix_tupK (K := K) rfl) (pv 1) pe_int (fun _ _ => rfl)) (pa_cons pe_bl pa_nil)))))
      (pss_cons (ps_expr (C8.pe_mt0 (m_close T) hr (by decide) (pv 5)))
      (pss_one (ps_ret (pv 5))))))))), ?_⟩
    obtain ⟨tl, l1, l2, l3⟩ := id hL
    refine ⟨_, rfl, l, _, rfl, .inl (SqL.of l1), ?_⟩
    refine ⟨_, rfl, l, _, rfl, SqL.of l1, fun D1 n1 => ?_⟩
    refine lc_wk (wk_enum (K := K) (a := l) (xs := tl.map V.ref)) (fun i H' => Ex H H' ∧ ∃ js, RowsAt j4V H' D1 js ∧ js.length ≤ i ∧ (∀ q ∈ js, ∃ k t, L[k]? = some t ∧ jnt k t = some q) ∧ ∀ a t q, a < i → L[a]? = some t → jnt a t = some q → q ∈ js)
      ⟨Evl.Ex.new n1, [], RowsP.nil (F := FT j4V) upd_same, Nat.le_refl _, (fun x h => by cases h), fun a c j h => absurd h (Nat.not_lt_zero _)⟩ (fun i H' _ p => SqL.of (p.1 _ _ l1)) ?_ ?_
    · rintro i y H1 H2 hi ⟨x1, js, hS, hl, hm, hc⟩ ⟨E1, xx, rfl, nE, rfl, hy⟩
      rw [List.getElem?_map] at hy
      obtain ⟨t, ht, rfl⟩ := Option.map_eq_some_iff.mp hy
      obtain ⟨tv, htv⟩ : ∃ r, L[i]? = some r := ⟨L[i]'(by rw [← l2]; exact (List.getElem?_eq_some_iff.mp ht).1), List.getElem?_eq_getElem _⟩
      have eE : Ex H1 (upd H1 E1 (.tup [iV i, .ref t])) := Evl.Ex.new nE
      have ht1 := eE _ _ (x1 _ _ (l3 i t tv ht htv))
      rw [List.length_map] at hi
      refine ⟨E1, _, rfl, SqT.of upd_same, rfl, _, _, rfl, _, _, rfl, rfl, ?_⟩
      refine ⟨rfl, ?_⟩
      have hS' := RowsAt.ex eE hS
      have x1E := x1.trans eE
      generalize upd H1 E1 (.tup [iV i, .ref t]) = H2 at eE ht1 hS' x1E
      have skip : ∀ p xs, H2 p = none → jnt i tv = none → Ex H (upd H2 p (.tup xs)) ∧ ∃ js, RowsAt j4V (upd H2 p (.tup xs)) D1 js ∧ js.length ≤ i + 1 ∧ (∀ q ∈ js, ∃ k t, L[k]? = some t ∧ jnt k t = some q) ∧ ∀ a t q, a < i + 1 → L[a]? = some t → jnt a t = some q → q ∈ js := fun p xs np hn =>
        ⟨x1E.trans (Evl.Ex.new np), js, RowsAt.ex (Evl.Ex.new np) hS', Nat.le_succ_of_le hl, hm, fun a t q h g g2 => by
          by_cases e : a = i
          · subst e
            rw [htv] at g
            cases g
            rw [hn] at g2
            cases g2
          · exact hc a t q (by omega) g g2⟩
      have app : ∀ p xs q j4, H2 p = none → (upd H2 p (.tup xs)) q = none → jnt i tv = some j4 → ∃ acc, (upd (upd H2 p (.tup xs)) q (.tup (j4V j4))) D1 = some (.lst acc) ∧ acc.length < sizeLine ∧ Ex H (upd (upd (upd H2 p (.tup xs)) q (.tup (j4V j4))) D1 (.lst (acc ++ [.ref q]))) ∧
          ∃ js, RowsAt j4V (upd (upd (upd H2 p (.tup xs)) q (.tup (j4V j4))) D1 (.lst (acc ++ [.ref q]))) D1 js ∧ js.length ≤ i + 1 ∧ (∀ q ∈ js, ∃ k t, L[k]? = some t ∧ jnt k t = some q) ∧ ∀ a t q, a < i + 1 → L[a]? = some t → jnt a t = some q → q ∈ js := by
        intro p xs q j4 np nq hj
        have ep : Ex H2 (upd (upd H2 p (.tup xs)) q (.tup (j4V j4))) := (Evl.Ex.new np).trans (Evl.Ex.new nq)
        obtain ⟨acc, a1, a2, a3⟩ := RowsP.snoc FT.st (RowsAt.ex ep hS') (p := q) (x := j4) upd_same
        refine ⟨acc, a1, lt_line (by rw [a2]; omega), Evl.Ex.mut (x1E.trans ep) n1, _, a3, by rw [List.length_append, List.length_singleton]; omega, fun r hr => ?_, fun a t r h g g2 => ?_⟩
        · rcases List.mem_append.mp hr with h | h
          · exact hm r h
          · rw [List.mem_singleton] at h
            exact ⟨i, tv, htv, by rw [h]; exact hj⟩
        · by_cases e : a = i
          · subst e
            rw [htv] at g
            cases g
            rw [hj] at g2
            cases g2
            exact List.mem_append_right _ (List.mem_singleton.mpr rfl)
          · exact List.mem_append_left _ (hc a t r (by omega) g g2)
      cases tv with
      | beg =>
        refine ⟨_, rfl, t, _, _, _, rfl, rfl, SqT.of ht1, rfl, by show 2 ≤ sizeLine; decide, fun p np => ?_⟩
        refine ⟨p, _, rfl, .inr (SqT.of upd_same), rfl, rfl, _, rfl, ?_⟩
        have d : (if false = true then !inV (V.str "begin") [.str "later", .str "sooner"] else inV (V.str "begin") [.str "later", .str "sooner"]) = false := by decide +kernel
        show (if (if false = true then !inV (V.str "begin") [.str "later", .str "sooner"] else inV (V.str "begin") [.str "later", .str "sooner"]) = true then _ else _)
        rw [d]
        exact iteF (skip p _ np rfl)
      | st c j =>
        refine ⟨_, rfl, t, _, _, _, rfl, rfl, SqT.of ht1, rfl, by show 2 ≤ sizeLine; decide, fun p np => ?_⟩
        refine ⟨p, _, rfl, .inr (SqT.of upd_same), rfl, rfl, _, rfl, ?_⟩
        have d : (if false = true then !inV (V.str "step") [.str "later", .str "sooner"] else inV (V.str "step") [.str "later", .str "sooner"]) = false := by decide +kernel
        show (if (if false = true then !inV (V.str "step") [.str "later", .str "sooner"] else inV (V.str "step") [.str "later", .str "sooner"]) = true then _ else _)
        rw [d]
        exact iteF (skip p _ np rfl)
      | lat a b =>
        refine ⟨_, rfl, t, _, _, _, rfl, rfl, SqT.of ht1, rfl, by show 2 ≤ sizeLine; decide, fun p np => ?_⟩
        refine ⟨p, _, rfl, .inr (SqT.of upd_same), rfl, rfl, _, rfl, ?_⟩
        have d : (if false = true then !inV (V.str "later") [.str "later", .str "sooner"] else inV (V.str "later") [.str "later", .str "sooner"]) = true := by decide +kernel
        show (if (if false = true then !inV (V.str "later") [.str "later", .str "sooner"] else inV (V.str "later") [.str "later", .str "sooner"]) = true then _ else _)
        rw [d]
        have ht2 := (Evl.Ex.new np : Ex H2 (upd H2 p (.tup [.str "later", .str "sooner"]))) _ _ ht1
        refine iteT ⟨_, rfl, t, _, _, _, rfl, rfl, SqT.of ht2, rfl, _, rfl, t, _, _, _, rfl, rfl, SqT.of ht2, rfl, _, rfl, t, _, _, _, rfl, rfl, SqT.of ht2, rfl, _, rfl, by show 4 ≤ sizeLine; decide, fun q nq => ?_⟩
        exact app p _ q (true, a, b, i) np nq rfl
      | son a b =>
        refine ⟨_, rfl, t, _, _, _, rfl, rfl, SqT.of ht1, rfl, by show 2 ≤ sizeLine; decide, fun p np => ?_⟩
        refine ⟨p, _, rfl, .inr (SqT.of upd_same), rfl, rfl, _, rfl, ?_⟩
        have d : (if false = true then !inV (V.str "sooner") [.str "later", .str "sooner"] else inV (V.str "sooner") [.str "later", .str "sooner"]) = true := by decide +kernel
        show (if (if false = true then !inV (V.str "sooner") [.str "later", .str "sooner"] else inV (V.str "sooner") [.str "later", .str "sooner"]) = true then _ else _)
        rw [d]
        have ht2 := (Evl.Ex.new np : Ex H2 (upd H2 p (.tup [.str "later", .str "sooner"]))) _ _ ht1
        refine iteT ⟨_, rfl, t, _, _, _, rfl, rfl, SqT.of ht2, rfl, _, rfl, t, _, _, _, rfl, rfl, SqT.of ht2, rfl, _, rfl, t, _, _, _, rfl, rfl, SqT.of ht2, rfl, _, rfl, by show 4 ≤ sizeLine; decide, fun q nq => ?_⟩
        exact app p _ q (false, a, b, i) np nq rfl
    · rintro H1 ⟨x1, js, hJ, hl, hm, hc⟩
      rw [List.length_map] at hl hc
      have hnl : (tl.map V.ref).length = L.length := by rw [List.length_map, l2]
      rw [hnl]
      refine ⟨_, rfl, _, rfl, l, d, slow, L, rfl, RowsAt.ex x1 hL, wl, hn, hs.ex x1, fun rl rs H2 x2 hR hRl rsnd rcmp => ?_⟩
      refine ⟨_, rfl, _, rfl, _, rfl, (b62 (by omega)).1, (b62 (by omega)).2, fun ul nu => ?_⟩
      refine lc_rng (n := L.length) (fun i H' => Ex H2 H' ∧ H' ul = some (.lst (nV (U0 i)))) ⟨Evl.Ex.new nu, upd_same⟩ ?_ ?_
      · rintro i H3 hi ⟨x3, hul⟩
        refine ⟨rfl, ?_⟩
        refine ⟨_, rfl, _, _, rfl, rfl, ⟨by omega, by omega, by decide⟩, nV (U0 i), hul, lt_line (by rw [nV_len]; simp [U0]; omega), Evl.Ex.mut x3 nu, ?_⟩
        rw [upd_same]
        have q1 : U0 (i + 1) = U0 i ++ [2 ^ i] := by unfold U0; rw [List.range_succ, List.map_append]; rfl
        have q2 : V.int (1 * 2 ^ ((i : Int)).toNat) = iV (2 ^ i) := by simp [iV]
        show some (HO.lst (nV (U0 i) ++ [V.int (1 * 2 ^ ((i : Int)).toNat)])) = _
        rw [q2, q1]
        unfold nV
        rw [List.map_append]
        rfl
      rintro H3 ⟨x3, hul⟩
      refine ⟨by show 1 ≤ sizeLine; decide, fun z nz => ?_⟩
      have xz : Ex H3 (upd H3 z (.lst [.int 0])) := Evl.Ex.new nz
      refine ⟨_, rfl, z, _, _, rfl, rfl, upd_same, by omega, by omega, (by simp; exact Nat.le_of_lt (lt_line (by omega))), fun bl nb => ?_⟩
      have xb : Ex (upd H3 z (.lst [.int 0])) (upd (upd H3 z (.lst [.int 0])) bl (.lst (nV (B0 L.length)))) := Evl.Ex.new nb
      have qb : (List.replicate (L.length : Int).toNat [V.int 0]).flatten = nV (B0 L.length) := by
        rw [Int.toNat_natCast]
        unfold nV B0
        induction L.length with
        | zero => rfl
        | succ m ih => rw [List.replicate_succ, List.replicate_succ, List.flatten_cons, ih]; rfl
      rw [qb]
      have hbl : (upd (upd H3 z (.lst [.int 0])) bl (.lst (nV (B0 L.length)))) bl = some (.lst (nV (B0 L.length))) := upd_same
      have nub : ul ≠ bl := ne_of_none (xz _ _ hul) nb
      generalize upd (upd H3 z (.lst [.int 0])) bl (.lst (nV (B0 L.length))) = H4 at xb hbl
      have x34 := xz.trans xb
      have x04 := ((x1.trans x2).trans x3).trans x34
      have x14 := (x2.trans x3).trans x34
      have x24 := x3.trans x34
      intro p' dx' np ndx ne'
      have e3 : Ex H4 (upd (upd H4 dx' (.own p')) p' (.ins (He.ga K "Order") dx' [])) := fun b o h => by
        rw [upd_ne (ne_of_none h np), upd_ne (ne_of_none h ndx)]
        exact h
      refine ⟨⟨p', rl, D1, ul, bl⟩, dx', rfl, upd_same, fun H5 h5 k5 => ⟨rfl, ?_⟩⟩
      have x45 : Ex H4 H5 := fun b o h => k5 b o (e3 b o h) (ne_of_none h np)
      have fr : ∀ b o, H1 b = some o → b ≠ bl := fun b o h => ne_of_none (xz _ _ (x3 _ _ (x2 _ _ h))) nb
      obtain ⟨_, rr, _⟩ := id hR
      obtain ⟨_, rj, _⟩ := id hJ
      have O5 : OrdAt K H5 ⟨p', rl, D1, ul, bl⟩ rs js (U0 L.length) (B0 L.length) := ⟨⟨dx', h5⟩, hR.ex (x24.trans x45), hJ.ex (x14.trans x45), x45 _ _ (x34 _ _ hul), x45 _ _ hbl, nub, ne_of_none rr nu, ne_of_none (xz _ _ (x3 _ _ rr)) nb, ne_of_none (x2 _ _ rj) nu, fr _ _ rj⟩
      generalize ha : (⟨p', rl, D1, ul, bl⟩ : Oa) = a' at O5
      have hpa : p' = a'.p := by rw [← ha]
      have hul' : ul = a'.ul := by rw [← ha]
      have hbl' : bl = a'.bl := by rw [← ha]
      have fin : ∀ {H' : Hp}, But a' H5 H' → Ex H H' := fun {H'} b c o h => b c o (x45 c o (x04 c o h)) (by rw [← hul']; exact ne_of_none (x2 _ _ (x1 c o h)) nu) (by rw [← hbl']; exact fr c o (x1 c o h))
      rw [hpa]
      have lt_of : ∀ {k : Nat} {t : Tl}, L[k]? = some t → k < L.length := fun h => (List.getElem?_eq_some_iff.mp h).1
      have R : Rls slow L rs js := by
        refine ⟨rsnd, rcmp, fun i j k => ⟨fun h => ?_, fun h => hc k _ _ (by rw [l2]; exact lt_of h) h rfl⟩, fun i j k => ⟨fun h => ?_, fun h => hc k _ _ (by rw [l2]; exact lt_of h) h rfl⟩⟩
        · obtain ⟨k', t, h1, h2⟩ := hm _ h
          cases t with
          | beg => cases h2
          | st c i => cases h2
          | son a b => cases h2
          | lat a b => cases h2; exact h1
        · obtain ⟨k', t, h1, h2⟩ := hm _ h
          cases t with
          | beg => cases h2
          | st c i => cases h2
          | lat a b => cases h2
          | son a b => cases h2; exact h1
      have X : Idx L.length rs js := by
        refine ⟨fun r hr => ?_, fun q hq => ?_⟩
        · obtain ⟨k, l, c, d, i, j, g1, g2, _, rfl⟩ := rsnd r hr
          have b1 := lt_of g1
          have b2 := lt_of g2
          have b3 := (wl.ok _ _ g1).2
          have b4 := (wl.ok _ _ g2).2
          unfold rul
          split <;> split <;> refine ⟨?_, ?_, ?_, ?_⟩ <;> dsimp only <;> omega
        · obtain ⟨k', t, g1, g2⟩ := hm _ hq
          have b1 := lt_of g1
          have b2 := wl.ok _ _ g1
          cases t with
          | beg => cases g2
          | st c i => cases g2
          | lat a b => cases g2; exact ⟨by have := b2.1; show a < _; omega, by have := b2.2; show b < _; omega, b1⟩
          | son a b => cases g2; exact ⟨by have := b2.1; show a < _; omega, by have := b2.2; show b < _; omega, b1⟩
      have hl5 := x45 _ _ (x04 _ _ l1)
      refine ⟨_, rfl, l, _, rfl, SqL.of hl5, ?_⟩
      refine for_wk (wk_enum (K := K) (a := l) (xs := tl.map V.ref)) (fun m σ H' => ∃ U B v6 v7, σ = [some (.ref l), some (.ref e), some (.ref d), some (.int (L.length : Int)), some (.ref D1), some (.ref a'.p), v6, v7, none] ∧ OrdAt K H' a' rs js U B ∧ But a' H5 H' ∧ Pt slow L e1 e2 U B ∧ IniK L U m)
        ⟨_, _, none, none, rfl, O5, But.refl a' _, ⟨wf0 _, fun v _ _ => ⟨fun i j h => by
          rw [bt_U0, Bool.and_eq_true] at h
          rw [of_decide_eq_true h.2]
          exact Int.le_refl _, fun i j h => by rw [bt_B0] at h; cases h⟩⟩, ⟨fun k c i h => absurd h (Nat.not_lt_zero _), fun k c i h => absurd h (Nat.not_lt_zero _), fun k c i h => absurd h (Nat.not_lt_zero _)⟩⟩
        (fun m σ H' _ q => by
          obtain ⟨U, B, v6, v7, _, O, b, _, _⟩ := q
          exact SqL.of (b _ _ hl5 (by rw [← hul']; exact ne_of_none (x2 _ _ (x1 _ _ l1)) nu) (by rw [← hbl']; exact fr _ _ (x1 _ _ l1)))) ?_ ?_
      · rintro m y σ H6 H7 hmm ⟨U, B, v6, v7, rfl, O6, b6, pt, ini⟩ ⟨E1, xx, rfl, nE, rfl, hy⟩
        rw [List.getElem?_map] at hy
        obtain ⟨t, ht0, rfl⟩ := Option.map_eq_some_iff.mp hy
        obtain ⟨tv, htv⟩ : ∃ r, L[m]? = some r := ⟨L[m]'(by rw [← l2]; exact (List.getElem?_eq_some_iff.mp ht0).1), List.getElem?_eq_getElem _⟩
        have hml := lt_of htv
        have t1 := l3 m t tv ht0 htv
        have t5 := x45 _ _ (x04 _ _ t1)
        have t6 := b6 _ _ t5 (ne_of t5 O5.up (fun z => nomatch z)) (ne_of t5 O5.be (fun z => nomatch z))
        have eE : Ex H6 (upd H6 E1 (.tup [iV m, .ref t])) := Evl.Ex.new nE
        have ht := eE _ _ t6
        have O7 := O6.ex eE
        have b7 := b6.trans (But.of (a := a') eE)
        refine ⟨E1, _, rfl, SqT.of upd_same, rfl, _, _, rfl, _, _, rfl, rfl, ?_⟩
        generalize upd H6 E1 (.tup [iV m, .ref t]) = H7 at eE ht O7 b7
        have hok := wl.ok _ _ htv
        have st_of : ∀ {G : Hp} {U B : List Nat}, OrdAt K G a' rs js U B → ∀ {vs : List V}, G t = some (.tup vs) → ∀ {G' : Hp}, But a' G G' → G' t = some (.tup vs) := fun {G} {U} {B} O {vs} h {G'} b => b _ _ h (ne_of h O.up (fun z => nomatch z)) (ne_of h O.be (fun z => nomatch z))
        cases tv with
        | beg =>
          refine ⟨_, rfl, t, _, _, _, rfl, rfl, SqT.of ht, rfl, rfl, _, rfl, ?_⟩
          show (if decide (V.str "begin" = V.str "step") = true then _ else _)
          rw [show decide (V.str "begin" = V.str "step") = false from by decide +kernel]
          refine iteF (iteF ?_)
          refine ⟨_, rfl, t, _, _, _, rfl, rfl, SqT.of ht, rfl, rfl, _, rfl, ?_⟩
          show (if decide (V.str "begin" = V.str "step") = true then _ else _)
          rw [show decide (V.str "begin" = V.str "step") = false from by decide +kernel]
          refine iteF (iteF ?_)
          refine ⟨_, rfl, t, _, _, _, rfl, rfl, SqT.of ht, rfl, rfl, _, rfl, ?_⟩
          show (if decide (V.str "begin" = V.str "later") = true then _ else _)
          rw [show decide (V.str "begin" = V.str "later") = false from by decide +kernel]
          refine iteF ?_
          refine ⟨_, rfl, t, _, _, _, rfl, rfl, SqT.of ht, rfl, rfl, _, rfl, ?_⟩
          show (if decide (V.str "begin" = V.str "sooner") = true then _ else _)
          rw [show decide (V.str "begin" = V.str "sooner") = false from by decide +kernel]
          refine iteF ?_
          exact ⟨_, _, _, _, rfl, O7, b7, pt, ini.succ (fun c i h => by rw [htv] at h; cases h) (fun c i h => by rw [htv] at h; cases h) (fun c i h => by rw [htv] at h; cases h)⟩
        | st c i =>
          have okc' := hok.1
          have ltc := hok.2
          cases fc : isF c with
          | true =>
            refine ⟨_, rfl, t, _, _, _, rfl, rfl, SqT.of ht, rfl, rfl, _, rfl, ?_⟩
            show (if decide (V.str "step" = V.str "step") = true then _ else _)
            rw [show decide (V.str "step" = V.str "step") = true from by decide +kernel]
            refine iteT ⟨_, rfl, t, _, _, _, rfl, rfl, SqT.of ht, rfl, rfl, _, rfl, rfl, trivial, _, rfl, ?_⟩
            rw [islow_chr okc', fc]
            refine iteT ?_
            obtain ⟨dx8, hp8⟩ := (O7).ob
            refine ⟨_, rfl, a'.p, dx8, _, rfl, hp8, ofl_put a', _, rfl, t, _, _, _, rfl, rfl, SqT.of ht, rfl, _, rfl, a', rs, js, _, _, i, m, false, rfl, O7, by rw [(pt).wf.lu]; omega, by rw [(pt).wf.lb]; omega, by omega, fun G8 O8 b8 => ?_⟩
            have ht8 := st_of O7 ht b8
            refine ⟨_, rfl, t, _, _, _, rfl, rfl, SqT.of ht8, rfl, rfl, _, rfl, ?_⟩
            show (if decide (V.str "step" = V.str "step") = true then _ else _)
            rw [show decide (V.str "step" = V.str "step") = true from by decide +kernel]
            refine iteT ⟨_, rfl, t, _, _, _, rfl, rfl, SqT.of ht8, rfl, rfl, _, rfl, rfl, trivial, _, rfl, ?_⟩
            rw [isupp_chr okc', fc]
            refine iteF ?_
            refine ⟨_, rfl, t, _, _, _, rfl, rfl, SqT.of ht8, rfl, rfl, _, rfl, ?_⟩
            show (if decide (V.str "step" = V.str "later") = true then _ else _)
            rw [show decide (V.str "step" = V.str "later") = false from by decide +kernel]
            refine iteF ?_
            refine ⟨_, rfl, t, _, _, _, rfl, rfl, SqT.of ht8, rfl, rfl, _, rfl, ?_⟩
            show (if decide (V.str "step" = V.str "sooner") = true then _ else _)
            rw [show decide (V.str "step" = V.str "sooner") = false from by decide +kernel]
            refine iteF ?_
            exact ⟨_, _, _, _, rfl, O8, b7.trans b8, pt.put (by omega) hml false (fun v g _ => ⟨by have := g.st m c i htv; rw [fc] at this; exact this, fun z => nomatch z⟩), (ini.mono (bt_keep pt.wf (by omega))).succ (fun c' i' h => by rw [htv] at h; cases h; rw [fc]; exact bt_put pt.wf (by omega)) (fun c i h => by rw [htv] at h; cases h) (fun c i h => by rw [htv] at h; cases h)⟩
          | false =>
            refine ⟨_, rfl, t, _, _, _, rfl, rfl, SqT.of ht, rfl, rfl, _, rfl, ?_⟩
            show (if decide (V.str "step" = V.str "step") = true then _ else _)
            rw [show decide (V.str "step" = V.str "step") = true from by decide +kernel]
            refine iteT ⟨_, rfl, t, _, _, _, rfl, rfl, SqT.of ht, rfl, rfl, _, rfl, rfl, trivial, _, rfl, ?_⟩
            rw [islow_chr okc', fc]
            refine iteF ?_
            refine ⟨_, rfl, t, _, _, _, rfl, rfl, SqT.of ht, rfl, rfl, _, rfl, ?_⟩
            show (if decide (V.str "step" = V.str "step") = true then _ else _)
            rw [show decide (V.str "step" = V.str "step") = true from by decide +kernel]
            refine iteT ⟨_, rfl, t, _, _, _, rfl, rfl, SqT.of ht, rfl, rfl, _, rfl, rfl, trivial, _, rfl, ?_⟩
            rw [isupp_chr okc', fc]
            refine iteT ?_
            obtain ⟨dx8, hp8⟩ := (O7).ob
            refine ⟨_, rfl, a'.p, dx8, _, rfl, hp8, ofl_put a', _, rfl, _, rfl, t, _, _, _, rfl, rfl, SqT.of ht, rfl, a', rs, js, _, _, m, i, false, rfl, O7, by rw [(pt).wf.lu]; omega, by rw [(pt).wf.lb]; omega, by omega, fun G8 O8 b8 => ?_⟩
            have ht8 := st_of O7 ht b8
            refine ⟨_, rfl, t, _, _, _, rfl, rfl, SqT.of ht8, rfl, rfl, _, rfl, ?_⟩
            show (if decide (V.str "step" = V.str "later") = true then _ else _)
            rw [show decide (V.str "step" = V.str "later") = false from by decide +kernel]
            refine iteF ?_
            refine ⟨_, rfl, t, _, _, _, rfl, rfl, SqT.of ht8, rfl, rfl, _, rfl, ?_⟩
            show (if decide (V.str "step" = V.str "sooner") = true then _ else _)
            rw [show decide (V.str "step" = V.str "sooner") = false from by decide +kernel]
            refine iteF ?_
            exact ⟨_, _, _, _, rfl, O8, b7.trans b8, pt.put hml (by omega) false (fun v g _ => ⟨by have := g.st m c i htv; rw [fc] at this; exact this, fun z => nomatch z⟩), (ini.mono (bt_keep pt.wf hml)).succ (fun c' i' h => by rw [htv] at h; cases h; rw [fc]; exact bt_put pt.wf hml) (fun c i h => by rw [htv] at h; cases h) (fun c i h => by rw [htv] at h; cases h)⟩
        | lat i j =>
          have li := hok.1
          have lj := hok.2
          refine ⟨_, rfl, t, _, _, _, rfl, rfl, SqT.of ht, rfl, rfl, _, rfl, ?_⟩
          show (if decide (V.str "later" = V.str "step") = true then _ else _)
          rw [show decide (V.str "later" = V.str "step") = false from by decide +kernel]
          refine iteF (iteF ?_)
          refine ⟨_, rfl, t, _, _, _, rfl, rfl, SqT.of ht, rfl, rfl, _, rfl, ?_⟩
          show (if decide (V.str "later" = V.str "step") = true then _ else _)
          rw [show decide (V.str "later" = V.str "step") = false from by decide +kernel]
          refine iteF (iteF ?_)
          refine ⟨_, rfl, t, _, _, _, rfl, rfl, SqT.of ht, rfl, rfl, _, rfl, ?_⟩
          show (if decide (V.str "later" = V.str "later") = true then _ else _)
          rw [show decide (V.str "later" = V.str "later") = true from by decide +kernel]
          refine iteT ?_
          obtain ⟨dx8, hp8⟩ := (O7).ob
          refine ⟨_, rfl, a'.p, dx8, _, rfl, hp8, ofl_put a', _, rfl, t, _, _, _, rfl, rfl, SqT.of ht, rfl, _, rfl, a', rs, js, _, _, i, m, false, rfl, O7, by rw [(pt).wf.lu]; omega, by rw [(pt).wf.lb]; omega, by omega, fun G8 O8 b8 => ?_⟩
          have ht8 := st_of O7 ht b8
          have pt8 := pt.put (i := i) (j := m) (by omega) hml false (fun v g _ => ⟨by rw [g.lat m i j htv]; exact Int.le_max_left _ _, fun z => nomatch z⟩)
          obtain ⟨dx9, hp9⟩ := (O8).ob
          refine ⟨_, rfl, a'.p, dx9, _, rfl, hp9, ofl_put a', _, rfl, t, _, _, _, rfl, rfl, SqT.of ht8, rfl, _, rfl, a', rs, js, _, _, j, m, false, rfl, O8, by rw [(pt8).wf.lu]; omega, by rw [(pt8).wf.lb]; omega, by omega, fun G9 O9 b9 => ?_⟩
          have ht9 := st_of O8 ht8 b9
          refine ⟨_, rfl, t, _, _, _, rfl, rfl, SqT.of ht9, rfl, rfl, _, rfl, ?_⟩
          show (if decide (V.str "later" = V.str "sooner") = true then _ else _)
          rw [show decide (V.str "later" = V.str "sooner") = false from by decide +kernel]
          refine iteF ?_
          exact ⟨_, _, _, _, rfl, O9, (b7.trans b8).trans b9, pt8.put (i := j) (j := m) (by omega) hml false (fun v g _ => ⟨by rw [g.lat m i j htv]; exact Int.le_max_right _ _, fun z => nomatch z⟩), ((ini.mono (bt_keep pt.wf (by omega))).mono (bt_keep pt8.wf (by omega))).succ (fun c i h => by rw [htv] at h; cases h) (fun i' j' h => by rw [htv] at h; cases h; exact ⟨bt_keep pt8.wf (by omega) _ _ (bt_put pt.wf (by omega)), bt_put pt8.wf (by omega)⟩) (fun c i h => by rw [htv] at h; cases h)⟩
        | son i j =>
          have li := hok.1
          have lj := hok.2
          refine ⟨_, rfl, t, _, _, _, rfl, rfl, SqT.of ht, rfl, rfl, _, rfl, ?_⟩
          show (if decide (V.str "sooner" = V.str "step") = true then _ else _)
          rw [show decide (V.str "sooner" = V.str "step") = false from by decide +kernel]
          refine iteF (iteF ?_)
          refine ⟨_, rfl, t, _, _, _, rfl, rfl, SqT.of ht, rfl, rfl, _, rfl, ?_⟩
          show (if decide (V.str "sooner" = V.str "step") = true then _ else _)
          rw [show decide (V.str "sooner" = V.str "step") = false from by decide +kernel]
          refine iteF (iteF ?_)
          refine ⟨_, rfl, t, _, _, _, rfl, rfl, SqT.of ht, rfl, rfl, _, rfl, ?_⟩
          show (if decide (V.str "sooner" = V.str "later") = true then _ else _)
          rw [show decide (V.str "sooner" = V.str "later") = false from by decide +kernel]
          refine iteF ?_
          refine ⟨_, rfl, t, _, _, _, rfl, rfl, SqT.of ht, rfl, rfl, _, rfl, ?_⟩
          show (if decide (V.str "sooner" = V.str "sooner") = true then _ else _)
          rw [show decide (V.str "sooner" = V.str "sooner") = true from by decide +kernel]
          refine iteT ?_
          obtain ⟨dx8, hp8⟩ := (O7).ob
          refine ⟨_, rfl, a'.p, dx8, _, rfl, hp8, ofl_put a', _, rfl, _, rfl, t, _, _, _, rfl, rfl, SqT.of ht, rfl, a', rs, js, _, _, m, i, false, rfl, O7, by rw [(pt).wf.lu]; omega, by rw [(pt).wf.lb]; omega, by omega, fun G8 O8 b8 => ?_⟩
          have ht8 := st_of O7 ht b8
          have pt8 := pt.put (i := m) (j := i) hml (by omega) false (fun v g _ => ⟨by rw [g.son m i j htv]; exact Int.min_le_left _ _, fun z => nomatch z⟩)
          obtain ⟨dx9, hp9⟩ := (O8).ob
          refine ⟨_, rfl, a'.p, dx9, _, rfl, hp9, ofl_put a', _, rfl, _, rfl, t, _, _, _, rfl, rfl, SqT.of ht8, rfl, a', rs, js, _, _, m, j, false, rfl, O8, by rw [(pt8).wf.lu]; omega, by rw [(pt8).wf.lb]; omega, by omega, fun G9 O9 b9 => ?_⟩
          have ht9 := st_of O8 ht8 b9
          exact ⟨_, _, _, _, rfl, O9, (b7.trans b8).trans b9, pt8.put (i := m) (j := j) hml (by omega) false (fun v g _ => ⟨by rw [g.son m i j htv]; exact Int.min_le_right _ _, fun z => nomatch z⟩), ((ini.mono (bt_keep pt.wf hml)).mono (bt_keep pt8.wf hml)).succ (fun c i h => by rw [htv] at h; cases h) (fun c i h => by rw [htv] at h; cases h) (fun i' j' h => by rw [htv] at h; cases h; exact ⟨bt_keep pt8.wf hml _ _ (bt_put pt.wf hml), bt_put pt8.wf hml⟩)⟩
      · rintro σ H6 ⟨U, B, v6, v7, rfl, O6, b6, pt, ini⟩
        rw [List.length_map, l2] at ini
        have he5 := x45 _ _ (x04 _ _ he)
        have he6 := b6 _ _ he5 (ne_of he5 O5.up (fun z => nomatch z)) (ne_of he5 O5.be (fun z => nomatch z))
        obtain ⟨dx6, hp6⟩ := O6.ob
        refine ⟨_, rfl, a'.p, dx6, _, rfl, hp6, ofl_put a', _, rfl, e, _, _, _, rfl, rfl, SqT.of he6, rfl, _, rfl, e, _, _, _, rfl, rfl, SqT.of he6, rfl, a', rs, js, U, B, e2, e1, true, rfl, O6, by rw [pt.wf.lu]; exact h2, by rw [pt.wf.lb]; exact h2, by omega, fun H7 O7 b7 => ?_⟩
        have pt7 := pt.put h2 h1 true (fun v g lt => ⟨Int.le_of_lt lt, fun _ => lt⟩)
        obtain ⟨dx7, hp7⟩ := O7.ob
        refine ⟨_, rfl, a'.p, dx7, _, rfl, hp7, ofl_close a', a', L.length, rs, js, _, _, rfl, O7, pt7.wf, X, by omega, fun U8 B8 H8 R8 ok => ?_⟩
        have ini8 : IniK L U8 L.length := (ini.mono (bt_keep pt.wf h2)).mono R8.pr.mono.u
        refine ⟨_, rfl, k a' rs js U8 B8 H8 (fin ((b6.trans b7).trans R8.bu)) ⟨R8.ob, ok.wf, X, by omega, by omega, by omega⟩ R ⟨ok.wf, ⟨fun k c i h => ini8.st k c i (lt_of h) h, fun k i j h => ini8.lat k i j (lt_of h) h, fun k i j h => ini8.son k i j (lt_of h) h⟩, R8.pr.mono.b _ _ ?_, ok.clo, fun v g lt => R8.pr.snd v (g.good R) (pt7.snd v g lt)⟩⟩
        show bt (putB B e2 e1) e2 e1 = true
        rw [bt_putB (by rw [pt.wf.lb]; exact h2)]; simp
end
end K35

/-! searched. -/
namespace K35
open PySem PySem.Spec PyProof.Rows L2
/-- all is known, and the second is before the first -/
structure Fin (slow : Nat → Nat → Bool) (L : List Tl) (e1 e2 : Nat) (rs : List R4) (js : List J4) (U B : List Nat) : Prop where
  wf : Wf L.length U B
  ini : Ini L U
  neg : bt B e2 e1 = true
  clo : Clo L.length rs js U B
  nc : ¬ Contrary B
  dec : Decided L.length U B
  R : Rls slow L rs js
theorem Ini.mono {L : List Tl} {U U' : List Nat} (h : Ini L U) (g : ∀ i j, bt U i j = true → bt U' i j = true) : Ini L U' where
  st := fun k c i e => by
    have z := h.st k c i e
    split at z
    · rename_i f; rw [if_pos f]; exact g _ _ z
    · rename_i f; rw [if_neg f]; exact g _ _ z
  lat := fun k i j e => ⟨g _ _ (h.lat k i j e).1, g _ _ (h.lat k i j e).2⟩
  son := fun k i j e => ⟨g _ _ (h.son k i j e).1, g _ _ (h.son k i j e).2⟩
def spSearch (K : PySem.W.Frag) : Sp := fun vs H Q _ => ∃ (l e d : Addr) (slow : Nat → Nat → Bool) (L : List Tl) (e1 e2 : Nat), vs = [.ref l, .ref e, .ref d] ∧ LAt H l L ∧ WFL L ∧ L.length ≤ 30 ∧ SlowAt slow H d ∧ H e = some (.tup [iV e1, iV e2]) ∧ e1 < L.length ∧ e2 < L.length ∧
  (L.length ≤ 9 ∨ ∀ rs js U B, Rls slow L rs js → Fst slow L e1 e2 rs js U B → Contrary B) ∧
  (∀ t p H', Ex H H' → H' t = some (.tup [.ref p, .non]) → (∀ v, GoodV slow v L → v e1 ≤ v e2) → Q (.ref t) H') ∧
  ∀ t a rs js U B H', Ex H H' → H' t = some (.tup [.non, .ref a.p]) → OrdAt K H' a rs js U B → Fin slow L e1 e2 rs js U B → Q (.ref t) H'
/-- all is kept but two lists -/
def Kp (q1 q2 : Addr) (H H' : Hp) : Prop := ∀ b o, H b = some o → b ≠ q1 → b ≠ q2 → H' b = some o
structure Off (a : Oa) (q : Addr) : Prop where
  o1 : a.rl ≠ q
  o2 : a.jl ≠ q
  o3 : a.ul ≠ q
  o4 : a.bl ≠ q
theorem Off.of {K : PySem.W.Frag} {H : Hp} {a : Oa} {rs : List R4} {js : List J4} {U B : List Nat} (O : OrdAt K H a rs js U B) {q : Addr} (h : H q = none) : Off a q := by
  obtain ⟨_, r, _⟩ := O.ru
  obtain ⟨_, j, _⟩ := O.jo
  exact ⟨ne_of_none r h, ne_of_none j h, ne_of_none O.up h, ne_of_none O.be h⟩
theorem OrdAt.lst {K : PySem.W.Frag} {H : Hp} {a : Oa} {rs : List R4} {js : List J4} {U B : List Nat} {q : Addr} {ys zs : List V} (O : OrdAt K H a rs js U B) (o : Off a q) (h : H q = some (.lst ys)) : OrdAt K (upd H q (.lst zs)) a rs js U B := by
  obtain ⟨tr, r1, r2, r3⟩ := O.ru
  obtain ⟨tj, j1, j2, j3⟩ := O.jo
  obtain ⟨dx, hp⟩ := O.ob
  refine ⟨⟨dx, ?_⟩, ⟨tr, ?_, r2, fun i t x h1 h2 => ?_⟩, ⟨tj, ?_, j2, fun i t x h1 h2 => ?_⟩, ?_, ?_, O.n1, O.n2, O.n3, O.n4, O.n5⟩
  · rw [upd_ne (ne_of hp h (fun z => nomatch z))]; exact hp
  · rw [upd_ne o.o1]; exact r1
  · have g := r3 i t x h1 h2
    rw [upd_ne (ne_of g h (fun z => nomatch z))]; exact g
  · rw [upd_ne o.o2]; exact j1
  · have g := j3 i t x h1 h2
    rw [upd_ne (ne_of g h (fun z => nomatch z))]; exact g
  · rw [upd_ne o.o3]; exact O.up
  · rw [upd_ne o.o4]; exact O.be
structure Ent where
  at_ : Nat
  a : Oa
  U : List Nat
  B : List Nat
  c : Nat
/-- an entry of the stack -/
structure EntOk (K : PySem.W.Frag) (n : Nat) (rs : List R4) (js : List J4) (U1 B1 : List Nat) (nd ln : Addr) (m : Nat) (H : Hp) (t : Addr) (x : Ent) : Prop where
  tp : H t = some (.tup [iV x.at_, .ref x.a.p])
  oz : OrdAt K H x.a rs js x.U x.B
  ok : Okay n rs js x.U x.B
  f1 : Off x.a nd
  f2 : Off x.a ln
  lt : x.at_ < m
  c1 : 1 ≤ x.c
  cw : ¬ Contrary x.B → wt n x.U x.B ≤ x.c
  mo : Mono U1 B1 x.U x.B
section
variable {K : PySem.W.Frag} {n : Nat} {rs : List R4} {js : List J4} {U1 B1 : List Nat} {nd ln : Addr} {m : Nat} {H H' : Hp} {t : Addr} {x : Ent}
theorem EntOk.ex (e : Ex H H') (h : EntOk K n rs js U1 B1 nd ln m H t x) : EntOk K n rs js U1 B1 nd ln m H' t x := ⟨e _ _ h.tp, h.oz.ex e, h.ok, h.f1, h.f2, h.lt, h.c1, h.cw, h.mo⟩
theorem EntOk.st {ys zs : List V} {q : Addr} (hq : H q = some (.lst ys)) (g : q = nd ∨ q = ln) (h : EntOk K n rs js U1 B1 nd ln m H t x) : EntOk K n rs js U1 B1 nd ln m (upd H q (.lst zs)) t x := by
  have o : Off x.a q := by
    rcases g with g | g
    · rw [g]; exact h.f1
    · rw [g]; exact h.f2
  exact ⟨by rw [upd_ne (ne_of h.tp hq (fun z => nomatch z))]; exact h.tp, h.oz.lst o hq, h.ok, h.f1, h.f2, h.lt, h.c1, h.cw, h.mo⟩
theorem EntOk.mv {nd' : Addr} {m' : Nat} (hm : m ≤ m') (hn : H nd' = none) (h : EntOk K n rs js U1 B1 nd ln m H t x) : EntOk K n rs js U1 B1 nd' ln m' H t x := ⟨h.tp, h.oz, h.ok, Off.of h.oz hn, h.f2, Nat.lt_of_lt_of_le h.lt hm, h.c1, h.cw, h.mo⟩
end
section
variable {α : Type} {F : Hp → Addr → α → Prop} {H : Hp} {l : Addr} {xs : List α} {x : α}
theorem RowsP.pop (st : ∀ ys zs t x, H l = some (.lst ys) → F H t x → F (upd H l (.lst zs)) t x) (h : RowsP F H l (xs ++ [x])) : ∃ acc p, H l = some (.lst acc) ∧ acc[acc.length - 1]? = some (V.ref p) ∧ F H p x ∧ RowsP F (upd H l (.lst acc.dropLast)) l xs := by
  obtain ⟨ts, h1, h2, h3⟩ := h
  have h2' : ts.length = xs.length + 1 := by rw [h2, List.length_append]; rfl
  obtain ⟨p, hp⟩ : ∃ p, ts[xs.length]? = some p := ⟨ts[xs.length]'(by omega), List.getElem?_eq_getElem _⟩
  refine ⟨_, p, h1, ?_, h3 xs.length _ x hp (by rw [List.getElem?_append_right (Nat.le_refl _), Nat.sub_self]; rfl), ts.dropLast, ?_, by rw [List.length_dropLast, h2']; rfl, fun i t y a b => st _ _ _ _ h1 ?_⟩
  · rw [List.length_map, List.getElem?_map, h2', Nat.add_sub_cancel, hp]; rfl
  · rw [upd_same, List.map_dropLast]
  · have hi : i < xs.length := (List.getElem?_eq_some_iff.mp b).1
    refine h3 i t y ?_ (by rw [List.getElem?_append_left hi]; exact b)
    rw [List.getElem?_dropLast, if_pos (by omega)] at a
    exact a
end
section
variable {α : Type} {F G : Hp → Addr → α → Prop} {H : Hp} {l q : Addr} {xs : List α} {x : α}
theorem RowsP.oth {o : HO} (hl : l ≠ q) (hF : ∀ t x, F H t x → F (upd H q o) t x) (h : RowsP F H l xs) : RowsP F (upd H q o) l xs := by
  obtain ⟨ts, h1, h2, h3⟩ := h
  exact ⟨ts, by rw [upd_ne hl]; exact h1, h2, fun i t x a b => hF t x (h3 i t x a b)⟩
theorem RowsP.imp (hF : ∀ t x, F H t x → G H t x) (h : RowsP F H l xs) : RowsP G H l xs := by
  obtain ⟨ts, h1, h2, h3⟩ := h
  exact ⟨ts, h1, h2, fun i t x a b => hF t x (h3 i t x a b)⟩
end
theorem Off.same {H : Hp} {a b : Oa} {q : Addr} {o : HO} (h : Off a q) (e : b.rl = a.rl ∧ b.jl = a.jl ∧ H b.ul = none ∧ H b.bl = none) (hq : H q = some o) : Off b q :=
  ⟨by rw [e.1]; exact h.o1, by rw [e.2.1]; exact h.o2, (ne_of_none hq e.2.2.1).symm, (ne_of_none hq e.2.2.2).symm⟩
theorem fin_of {slow : Nat → Nat → Bool} {L : List Tl} {e1 e2 : Nat} {rs : List R4} {js : List J4} {U1 B1 U B : List Nat} (R : Rls slow L rs js) (F : Fst slow L e1 e2 rs js U1 B1) (ok : Okay L.length rs js U B) (nc : ¬ Contrary B) (d : Decided L.length U B) (m : Mono U1 B1 U B) : Fin slow L e1 e2 rs js U B :=
  ⟨ok.wf, F.ini.mono m.u, m.b _ _ F.neg, ok.clo nc, nc, d, R⟩
theorem RowsP.mem {α : Type} {F : Hp → Addr → α → Prop} {H : Hp} {l : Addr} {xs : List α} {x : α} (h : RowsP F H l xs) (hx : x ∈ xs) : ∃ t, F H t x := by
  obtain ⟨ts, h1, h2, h3⟩ := h
  obtain ⟨i, hi⟩ := List.mem_iff_getElem?.mp hx
  exact ⟨ts[i]'(by rw [h2]; exact (List.getElem?_eq_some_iff.mp hi).1), h3 i _ x (List.getElem?_eq_getElem _) hi⟩
theorem sum_ge : ∀ (l : List Ent), (∀ x ∈ l, 1 ≤ x.c) → l.length ≤ (l.map Ent.c).sum
  | [], _ => Nat.le_refl _
  | x :: l, h => by
    have := sum_ge l fun y hy => h y (List.mem_cons_of_mem _ hy)
    have := h x List.mem_cons_self
    simp only [List.length_cons, List.map_cons, List.sum_cons]
    omega
theorem EntOk.up {K : PySem.W.Frag} {n : Nat} {rs : List R4} {js : List J4} {U1 B1 : List Nat} {nd ln : Addr} {m m' : Nat} {H : Hp} {t : Addr} {x : Ent} (hm : m ≤ m') (h : EntOk K n rs js U1 B1 nd ln m H t x) : EntOk K n rs js U1 B1 nd ln m' H t x :=
  ⟨h.tp, h.oz, h.ok, h.f1, h.f2, Nat.lt_of_lt_of_le h.lt hm, h.c1, h.cw, h.mo⟩
/-- what holds at each turn of the search -/
structure Srch (K : PySem.W.Frag) (slow : Nat → Nat → Bool) (L : List Tl) (e1 e2 : Nat) (rs : List R4) (js : List J4) (U1 B1 : List Nat) (W0 : Nat) (nd ln : Addr) (H : Hp) (St : List Ent) (Lv : Nat) : Prop where
  ls : RowsP (EntOk K L.length rs js U1 B1 nd ln (2 * (Lv + St.length) - 1)) H ln St
  ns : ∃ xs, H nd = some (.lst xs) ∧ xs.length + 1 = 2 * (Lv + St.length)
  ne : nd ≠ ln
  cs : Lv + (St.map Ent.c).sum ≤ W0
  cv : ∀ v, GoodV slow v L → v e2 < v e1 → ∃ x ∈ St, Sat v x.U x.B
section
variable {P : Program} {w : World} {K : PySem.W.Frag} {mg : Str → Option Value} {base : Heap}
abbrev N_searched : List Str := ["listed", "ends", "slower", "first", "whole", "nodes", "line", "at", "order", "pair", "i", "j"]
theorem sc_searched : FnScope N_searched ["listed", "ends", "slower"] (defScope s_searched) := ⟨rfl, rfl, rfl, by decide +kernel, rfl, by decide +kernel, by decide +kernel⟩
theorem c_searched (T : Tx K mg) : C8.Cal P w K mg base 7 "searched" (spSearch K) [] :=
  mkCal T fn_searched rfl rfl rfl T.mg_searched sc_searched (fun _ _ _ _ _ _ us hl => match us, hl with | [_, _, _], _ => rfl) (fun vs H Q E h => by obtain ⟨l, e, d, slow, L, e1, e2, rfl, _⟩ := h; rfl) fun f cdv A outer s0 H vs Q E hr h => by
    obtain ⟨l, e, d, slow, L, e1, e2, rfl, hL, wl, hn, hs, he, h1, h2, pre, q1, q2⟩ := h
    have hu := hu_of hr
    refine ⟨_, (pss_cons (ps_set (i := 3) sc_searched.nd rfl (Or.inl rfl) (C8.pe_c (c_first_order T) hr (by decide) (by rfl) (pa_cons (pv 0) (pa_cons (pv 1) (pa_cons (pv 2) pa_nil)))))
      (pss_cons (ps_set (i := 4) sc_searched.nd rfl (Or.inl rfl) (pe_ifExp (pt_val (C8.pe_mt0 (m_is_contrary T) hr (by decide) (pv 3))) pe_non (C8.pe_c (c_completed T) hr (by decide) (by rfl) (pa_cons (pv 3) pa_nil))))
      (pss_cons (ps_if (pt_cmpR op_notN (pv 4) pe_non (nomark _)) (pss_one (ps_ret (pe_tup (pa_cons pe_non (pa_cons (pv 4) pa_nil))))) pss_nil)
      (pss_cons (ps_par (i := 5) (j := 6) (by rfl) sc_searched.nd rfl rfl (by decide) rfl rfl (pa_cons (pe_lst (pa_cons pe_non pa_nil)) (pa_cons (pe_lst (pa_cons (pe_tup (pa_cons pe_int (pa_cons (pv 3) pa_nil))) pa_nil)) pa_nil)) (by rfl))
      (pss_cons (ps_while PassesOwn.never (pt_cmpR (op_neNil (hu64 hr)) (pv 6) (pe_lst pa_nil) (nomark _)) (pss_cons (ps_asg (pe_bm0 PySem.F.plainAttrs_list PySem.F.slot_list_pop PySem.F.type_list_pop mt_pop (pv 6)) (pg_tup rfl (pgs_cons (pg_name (i := 7) sc_searched.nd rfl (Or.inl rfl)) (pgs_cons (pg_name (i := 8) sc_searched.nd rfl (Or.inl rfl)) pgs_nil))))
        (pss_one (ps_if (pt_val (C8.pe_mt0 (m_is_contrary T) hr (by decide) (pv 8))) (pss_one (ps_asg (pe_tup pa_nil) (pg_sub (pv 5) (pv 7) set_list))) (pss_cons (ps_set (i := 9) sc_searched.nd rfl (Or.inl rfl) (C8.pe_c (c_chosen T) hr (by decide) (by rfl) (pa_cons (pv 8) pa_nil)))
          (pss_cons (ps_if (pt_cmpR op_isN (pv 9) pe_non (nomark _)) (pss_one (ps_ret (pe_tup (pa_cons pe_non (pa_cons (pv 8) pa_nil))))) pss_nil)
          (pss_cons (ps_asg (pv 9) (pg_tup rfl (pgs_cons (pg_name (i := 10) sc_searched.nd rfl (Or.inl rfl)) (pgs_cons (pg_name (i := 11) sc_searched.nd rfl (Or.inl rfl)) pgs_nil))))
          (pss_cons (ps_asg (pe_tup (pa_cons (pv 10) (pa_cons (pv 11) (pa_cons (pe_callB call_len_seq (by rfl) T.f_len (by decide +kernel) (pa_cons (pv 5) pa_nil)) (pa_cons (pe_op op_add (pe_callB call_len_seq (by rfl) T.f_len (by decide +kernel) (pa_cons (pv 5) pa_nil)) pe_int) pa_nil))))) (pg_sub (pv 5) (pv 7) set_list))
          (pss_cons (ps_expr (pe_bm PySem.F.plainAttrs_list PySem.F.slot_list_append PySem.F.type_list_append mt_append (pv 6) (pa_cons (pe_tup (pa_cons (pe_callB call_len_seq (by rfl) T.f_len (by decide +kernel) (pa_cons (pv 5) pa_nil)) (pa_cons (C8.pe_mt (m_with_more T) hr (by decide) (pv 8) (pa_cons (pv 10) (pa_cons (pv 11) (pa_cons pe_bl pa_nil)))) pa_nil))) pa_nil)))
          (pss_cons (ps_expr (pe_bm PySem.F.plainAttrs_list PySem.F.slot_list_append PySem.F.type_list_append mt_append (pv 6) (pa_cons (pe_tup (pa_cons (pe_op op_add (pe_callB call_len_seq (by rfl) T.f_len (by decide +kernel) (pa_cons (pv 5) pa_nil)) pe_int) (pa_cons (C8.pe_mt (m_with_more T) hr (by decide) (pv 8) (pa_cons (pv 11) (pa_cons (pv 10) (pa_cons pe_bl pa_nil)))) pa_nil))) pa_nil)))
          (pss_one (ps_set (i := 5) sc_searched.nd rfl (Or.inl rfl) (pe_op op_cat (pv 5) (pe_lst (pa_cons pe_non (pa_cons pe_non pa_nil))))))))))))))))
      (pss_one (ps_ret (pe_tup (pa_cons (pe_callTy call_tuple_of (by rfl) T.f_tuple (by decide +kernel) (pa_cons (pv 5) pa_nil)) (pa_cons pe_non pa_nil)))))))))), ?_⟩
    refine ⟨_, rfl, _, rfl, _, rfl, l, e, d, slow, L, e1, e2, rfl, hL, wl, hn, hs, he, h1, h2, fun a1 rs js U1 B1 H1 x1 z1 R F => ?_⟩
    obtain ⟨dx1, hp1⟩ := z1.ob.ob
    refine ⟨_, rfl, a1.p, dx1, _, rfl, hp1, ofl_is_contrary a1, a1, rs, js, U1, B1, rfl, z1.ob, by have := z1.wf.lb; omega, fun b H2 hb x2 => ⟨b, rfl, ?_⟩⟩
    have key : ∀ (Kf : VK), (∀ v H3, (Ex H2 H3 ∧ (v = .non ∨ ∃ a' U' B', v = .ref a'.p ∧ OrdAt K H3 a' rs js U' B' ∧ Fin slow L e1 e2 rs js U' B')) → Kf v H3) →
        (if b = true then tC V.non (List.set (L2.start N_searched [V.ref l, V.ref e, V.ref d]) 3 (some (V.ref a1.p))) H2 Kf else tCall (spCompl K) [] C8.E0 (tCons (tVar 3) tNil) (List.set (L2.start N_searched [V.ref l, V.ref e, V.ref d]) 3 (some (V.ref a1.p))) H2 Kf) := by
      intro Kf hK
      cases b with
      | true => exact iteT (hK _ _ ⟨.refl _, .inl rfl⟩)
      | false =>
        have nc : ¬ Contrary B1 := fun c => Bool.noConfusion (hb.mpr c)
        have ok1 : Okay L.length rs js U1 B1 := ⟨F.wf, F.clo⟩
        exact iteF ⟨_, rfl, a1, L.length, rs, js, U1, B1, rfl, z1.ex x2, ok1, nc, fun H3 x3 => hK _ _ ⟨x3, .inl rfl⟩, fun a' U' B' H3 x3 z3 ok3 nc3 m3 d3 => hK _ _ ⟨x3, .inr ⟨a', U', B', rfl, z3.ob, fin_of R F ok3 nc3 d3 m3⟩⟩⟩
    refine key _ ?_
    rintro v H3 ⟨x3, hv⟩
    have x03 := (x1.trans x2).trans x3
    rcases hv with rfl | ⟨a', U', B', rfl, O3, F3⟩
    case inr =>
      refine ⟨_, rfl, rfl, _, rfl, iteT ⟨_, rfl, by show 2 ≤ sizeLine; decide, fun p np => ?_⟩⟩
      have xp : Ex H3 (upd H3 p (.tup [.non, .ref a'.p])) := Evl.Ex.new np
      exact q2 p a' rs js U' B' _ (x03.trans xp) upd_same (O3.ex xp) F3
    refine ⟨_, rfl, rfl, _, rfl, iteF ?_⟩
    refine ⟨by show 1 ≤ sizeLine; decide, fun nd n1 => ?_⟩
    refine ⟨_, rfl, by show 2 ≤ sizeLine; decide, fun t1 nt => ⟨by show 1 ≤ sizeLine; decide, fun ln n2 => ⟨_, _, rfl, ?_⟩⟩⟩
    have xa : Ex H3 (upd H3 nd (.lst [.non])) := Evl.Ex.new n1
    have xb : Ex (upd H3 nd (.lst [.non])) (upd (upd H3 nd (.lst [.non])) t1 (.tup [.int 0, .ref a1.p])) := Evl.Ex.new nt
    have xc : Ex (upd (upd H3 nd (.lst [.non])) t1 (.tup [.int 0, .ref a1.p])) (upd (upd (upd H3 nd (.lst [.non])) t1 (.tup [.int 0, .ref a1.p])) ln (.lst [.ref t1])) := Evl.Ex.new n2
    have gnd := xc _ _ (xb _ _ (upd_same : (upd H3 nd (.lst [.non])) nd = _))
    have gt := xc _ _ (upd_same : (upd (upd H3 nd (.lst [.non])) t1 (.tup [.int 0, .ref a1.p])) t1 = _)
    have gln : (upd (upd (upd H3 nd (.lst [.non])) t1 (.tup [.int 0, .ref a1.p])) ln (.lst [.ref t1])) ln = some (.lst [.ref t1]) := upd_same
    have nln : H3 ln = none := by
      cases hq : H3 ln with
      | none => rfl
      | some o => exact absurd (xb _ _ (xa _ _ hq)) (by rw [n2]; exact fun z => nomatch z)
    have nne : nd ≠ ln := ne_of_none (xb _ _ (upd_same : (upd H3 nd (.lst [.non])) nd = _)) n2
    have x34 := (xa.trans xb).trans xc
    show tSeq _ _ _ _ (upd (upd (upd H3 nd (.lst [.non])) t1 (.tup [.int 0, .ref a1.p])) ln (.lst [.ref t1]))
    generalize upd (upd (upd H3 nd (.lst [.non])) t1 (.tup [.int 0, .ref a1.p])) ln (.lst [.ref t1]) = H4 at x34 gnd gt gln
    have O13 := z1.ob.ex (x2.trans x3)
    obtain ⟨W0, hW, c1, cw⟩ : ∃ W0, W0 ≤ 7087261 ∧ 1 ≤ W0 ∧ (¬ Contrary B1 → wt L.length U1 B1 ≤ W0) := by
      rcases pre with h9 | hc
      · refine ⟨max 1 (wt L.length U1 B1), ?_, Nat.le_max_left _ _, fun _ => Nat.le_max_right _ _⟩
        exact Nat.max_le.mpr ⟨by decide, Nat.le_trans (wt_le _ _ _) (enum_len h9)⟩
      · exact ⟨1, by decide, by decide, fun nc => absurd (hc rs js U1 B1 R F) nc⟩
    have S0 : Srch K slow L e1 e2 rs js U1 B1 W0 nd ln H4 [⟨0, a1, U1, B1, W0⟩] 0 :=
      { ls := ⟨[t1], gln, rfl, fun i t x h1 h2 => by
          match i, h1, h2 with
          | 0, h1, h2 =>
            cases h1
            cases h2
            exact ⟨gt, O13.ex x34, ⟨F.wf, F.clo⟩, Off.of O13 n1, Off.of O13 nln, (by show 0 < 2 * (0 + 1) - 1; decide), c1, cw, .refl _ _⟩⟩
        ns := ⟨_, gnd, rfl⟩
        ne := nne
        cs := by simp
        cv := fun v g lt => ⟨_, List.mem_singleton.mpr rfl, F.snd v g lt⟩ }
    show tWhile _ _ _ _ _
    refine ⟨fun m σ H' => ∃ nd St Lv v7 v8 v9 v10 v11, σ = [some (.ref l), some (.ref e), some (.ref d), some (.ref a1.p), some .non, some (.ref nd), some (.ref ln), v7, v8, v9, v10, v11] ∧ Ex H3 H' ∧ H3 nd = none ∧ Srch K slow L e1 e2 rs js U1 B1 W0 nd ln H' St Lv ∧ m + 2 * Lv + St.length = 2 * W0 + 1,
      ⟨2 * W0, nd, _, 0, none, none, none, none, none, rfl, x34, n1, S0, by simp⟩, ?_⟩
    rintro m σ H5 ⟨nd, St, Lv, v7, v8, v9, v10, v11, rfl, x5, n1, S, hm⟩
    refine ⟨_, rfl, by show 0 ≤ sizeLine; decide, fun p np => ?_⟩
    have xp : Ex H5 (upd H5 p (.lst [])) := Evl.Ex.new np
    have gp : (upd H5 p (.lst [])) p = some (.lst []) := upd_same
    generalize upd H5 p (.lst []) = H6 at xp gp
    have x6 := x5.trans xp
    have L6 := S.ls.ex xp (fun t x h => h.ex xp)
    obtain ⟨xs, g1, g2⟩ := S.ns
    have g1 := xp _ _ g1
    have hcs := S.cs
    obtain ⟨ts, t1', t2', t3'⟩ := id L6
    refine ⟨ln, p, _, rfl, rfl, SqL.of t1', SqL.of gp, _, rfl, ?_⟩
    rcases List.eq_nil_or_concat St with rfl | ⟨St', x, rfl⟩
    · have ets : ts = [] := List.length_eq_zero_iff.mp t2'
      subst ets
      refine iteF ?_
      refine ⟨_, rfl, nd, _, rfl, .inl ⟨SqL.of g1, fun p1 np1 => ⟨by show 2 ≤ sizeLine; decide, fun p2 np2 => ?_⟩⟩⟩
      refine q1 p2 p1 _ ((x03.trans x6).trans ((Evl.Ex.new np1).trans (Evl.Ex.new np2))) upd_same fun v g => ?_
      by_cases h : v e2 < v e1
      · obtain ⟨x, hx, _⟩ := S.cv v g h
        cases hx
      · exact Int.not_lt.mp h
    rw [List.concat_eq_append] at *
    have hlen : (St' ++ [x]).length = St'.length + 1 := by simp
    have hsum : ((St' ++ [x]).map Ent.c).sum = (St'.map Ent.c).sum + x.c := by simp
    rw [hlen] at hm g2 L6
    rw [hsum] at hcs
    have hS1 : St'.length ≤ (St'.map Ent.c).sum := sum_ge St' fun y hy => by
      obtain ⟨t, ht⟩ := L6.mem (List.mem_append_left _ hy)
      exact ht.c1
    have ne0 : (!(ts.map V.ref).isEmpty) = true := by
      cases ts with
      | nil => rw [hlen] at t2'; cases t2'
      | cons a b => rfl
    show (if (!(ts.map V.ref).isEmpty) = true then _ else _)
    rw [ne0]
    refine iteT ⟨_, fun _ _ q => q, ?_⟩
    obtain ⟨acc, tp, p1, p2, p3, p4⟩ := L6.pop (fun ys zs t x hq h => h.st hq (.inr rfl))
    have g1' : (upd H6 ln (.lst acc.dropLast)) nd = some (.lst xs) := by rw [upd_ne S.ne]; exact g1
    have p3' := p3.st (zs := acc.dropLast) p1 (.inr rfl)
    have x7 : Ex H3 (upd H6 ln (.lst acc.dropLast)) := Evl.Ex.mut x6 nln
    refine ⟨_, rfl, .inl ⟨rfl, _, SqL.of p1⟩, ln, acc, _, rfl, rfl, p1, p2, ?_⟩
    refine ⟨tp, _, rfl, SqT.of p3'.tp, rfl, _, _, rfl, _, _, rfl, rfl, ?_⟩
    generalize upd H6 ln (.lst acc.dropLast) = H7 at g1' p3' x7 p4
    obtain ⟨dx7, hp7⟩ := p3'.oz.ob
    refine ⟨_, rfl, x.a.p, dx7, _, rfl, hp7, ofl_is_contrary x.a, x.a, rs, js, x.U, x.B, rfl, p3'.oz, by have := p3'.ok.wf.lb; omega, fun b H8 hb x8 => ⟨b, rfl, ?_⟩⟩
    have g8 := x8 _ _ g1'
    have E8 := p3'.ex x8
    have L8 := p4.ex x8 (fun t x h => h.ex x8)
    have x38 := x7.trans x8
    have hc1 := E8.c1
    have hlt := E8.lt
    cases b with
    | true =>
      have cx : Contrary x.B := hb.mp rfl
      refine iteT ⟨by show 0 ≤ sizeLine; decide, fun p np => ?_⟩
      have xp : Ex H8 (upd H8 p (.tup [])) := Evl.Ex.new np
      refine ⟨_, rfl, _, rfl, nd, xs, _, x.at_, rfl, rfl, xp _ _ g8, ?ix, ?nx⟩
      case ix => exact Evl.ixN_nat (by omega)
      case nx =>
        refine ⟨m - 1, by omega, nd, St', Lv + 1, _, _, _, _, _, rfl, Evl.Ex.mut (x38.trans xp) n1, n1, ?_, by omega⟩
        exact {
          ls := by
            have q := (L8.ex xp (fun t x h => h.ex xp)).oth (o := .lst (xs.set x.at_ (.ref p))) S.ne.symm (fun t x h => h.st (xp _ _ g8) (.inl rfl))
            rw [show 2 * (Lv + 1 + St'.length) - 1 = 2 * (Lv + (St'.length + 1)) - 1 by omega]
            exact q
          ns := ⟨_, upd_same, by rw [List.length_set]; omega⟩
          ne := S.ne
          cs := by have := E8.c1; omega
          cv := fun v g h => by
            obtain ⟨y, hy, hs⟩ := S.cv v g h
            rcases List.mem_append.mp hy with hy | hy
            · exact ⟨y, hy, hs⟩
            · rw [List.mem_singleton] at hy
              rw [hy] at hs
              obtain ⟨i, hi⟩ := cx
              exact absurd (hs.b i i hi) (Int.lt_irrefl _) }
    | false =>
      have nc : ¬ Contrary x.B := fun c => Bool.noConfusion (hb.mpr c)
      refine iteF ?_
      have zx : Oz K H8 x.a L.length rs js x.U x.B := ⟨E8.oz, E8.ok.wf, z1.ix, by omega, z1.h1, z1.h2⟩
      refine ⟨_, rfl, x.a, L.length, rs, js, x.U, x.B, rfl, zx, fun H9 x9 dec => ?_, fun t i j H9 x9 ht oo => ?_⟩
      · refine ⟨_, rfl, rfl, _, rfl, iteT ⟨_, rfl, by show 2 ≤ sizeLine; decide, fun p np => ?_⟩⟩
        have xp : Ex H9 (upd H9 p (.tup [.non, .ref x.a.p])) := Evl.Ex.new np
        exact q2 p x.a rs js x.U x.B _ ((x03.trans x38).trans (x9.trans xp)) upd_same ((E8.oz.ex x9).ex xp) (fin_of R F E8.ok nc dec E8.mo)
      · refine ⟨_, rfl, rfl, _, rfl, iteF ⟨_, rfl, t, _, rfl, SqT.of ht, rfl, _, _, rfl, _, _, rfl, rfl, ?_⟩⟩
        obtain ⟨w1, w2, hw1, hw2, hw, k1, k2⟩ := wt_split E8.ok.wf (E8.ok.clo nc).tc nc oo.1 oo.2.1 oo.2.2.2.1 oo.2.2.2.2
        have hcw := E8.cw nc
        have g9 := x9 _ _ g8
        have L9 := L8.ex x9 (fun t x h => h.ex x9)
        have E9 := E8.ex x9
        have x39 := x38.trans x9
        refine ⟨_, rfl, _, rfl, _, rfl, nd, _, rfl, .inl (SqL.of g9), _, rfl, nd, _, rfl, .inl (SqL.of g9), _, _, rfl, rfl, by show 4 ≤ sizeLine; decide, fun p np => ?_⟩
        have xp : Ex H9 (upd H9 p (.tup [iV i, iV j, .int xs.length, .int (xs.length + 1)])) := Evl.Ex.new np
        refine ⟨_, rfl, _, rfl, nd, xs, _, x.at_, rfl, rfl, xp _ _ g9, Evl.ixN_nat (by omega), ?_⟩
        have L10 := (L9.ex xp (fun t x h => h.ex xp)).oth (o := .lst (xs.set x.at_ (.ref p))) S.ne.symm (fun t x h => h.st (xp _ _ g9) (.inl rfl))
        have E10 := (E9.ex xp).st (zs := xs.set x.at_ (.ref p)) (xp _ _ g9) (.inl rfl)
        have g10 : (upd (upd H9 p (.tup [iV i, iV j, .int xs.length, .int (xs.length + 1)])) nd (.lst (xs.set x.at_ (.ref p)))) nd = some (.lst (xs.set x.at_ (.ref p))) := upd_same
        have x310 : Ex H3 (upd (upd H9 p (.tup [iV i, iV j, .int xs.length, .int (xs.length + 1)])) nd (.lst (xs.set x.at_ (.ref p)))) := Evl.Ex.mut (x39.trans xp) n1
        show tSeq _ _ _ _ (upd (upd H9 p (.tup [iV i, iV j, .int xs.length, .int (xs.length + 1)])) nd (.lst (xs.set x.at_ (.ref p))))
        generalize upd (upd H9 p (.tup [iV i, iV j, .int xs.length, .int (xs.length + 1)])) nd (.lst (xs.set x.at_ (.ref p))) = H10 at L10 E10 g10 x310
        have hys : (xs.set x.at_ (V.ref p)).length = xs.length := List.length_set ..
        generalize xs.set x.at_ (V.ref p) = ys at g10 hys
        obtain ⟨acc10, l10, l10', _⟩ := id L10
        obtain ⟨dx10, hp10⟩ := E10.oz.ob
        refine ⟨_, rfl, .inl ⟨rfl, _, SqL.of l10⟩, _, rfl, nd, _, rfl, .inl (SqL.of g10), _, rfl, x.a.p, dx10, _, rfl, hp10, ofl_with_more x.a, _, rfl, _, rfl, x.a, L.length, rs, js, x.U, x.B, i, j, false, rfl, E10.oz, E8.ok.wf, z1.ix, by omega, oo.1, oo.2.1, fun a2 U2 B2 H11 x11 O2 M2 f2 => ?_⟩
        have L11 := (L10.ex x11 (fun t x h => h.ex x11)).imp (fun t x h => h.up (m' := 2 * (Lv + (St'.length + 1)) - 1 + 2) (by omega))
        have E11 := E10.ex x11
        have g11 := x11 _ _ g10
        have f2n := E10.f1.same f2 g10
        have f2l := E10.f2.same f2 l10
        refine ⟨by show 2 ≤ sizeLine; decide, fun p2 np2 => ?_⟩
        have xp2 : Ex H11 (upd H11 p2 (.tup [iV ys.length, .ref a2.p])) := Evl.Ex.new np2
        have ent2 : EntOk K L.length rs js U1 B1 nd ln (2 * (Lv + (St'.length + 1)) - 1 + 2) (upd H11 p2 (.tup [iV ys.length, .ref a2.p])) p2 ⟨ys.length, a2, U2, B2, w1⟩ :=
          ⟨upd_same, O2.ex xp2, M2.ok, f2n, f2l, by show ys.length < _; omega, hw1, fun _ => k1 U2 B2 M2.mono M2.u, E8.mo.trans M2.mono⟩
        obtain ⟨acc, a1', a2', a3'⟩ := RowsP.snoc (fun ys zs t x hq h => h.st hq (.inr rfl)) (L11.ex xp2 (fun t x h => h.ex xp2)) ent2
        refine ⟨ln, acc, _, rfl, rfl, a1', ?b1, ?_⟩
        case b1 =>
          rw [a2']
          exact Nat.lt_of_lt_of_le (m := 7087262) (by omega) (by decide)
        have g12 : (upd (upd H11 p2 (.tup [iV ys.length, .ref a2.p])) ln (.lst (acc ++ [.ref p2]))) nd = some (.lst ys) := by
          rw [upd_ne S.ne]
          exact xp2 _ _ g11
        have E12 := (E11.ex xp2).st (zs := acc ++ [.ref p2]) a1' (.inr rfl)
        have x312 : Ex H3 (upd (upd H11 p2 (.tup [iV ys.length, .ref a2.p])) ln (.lst (acc ++ [.ref p2]))) := Evl.Ex.mut ((x310.trans x11).trans xp2) nln
        show tSeq _ _ _ _ (upd (upd H11 p2 (.tup [iV ys.length, .ref a2.p])) ln (.lst (acc ++ [.ref p2])))
        generalize upd (upd H11 p2 (.tup [iV ys.length, .ref a2.p])) ln (.lst (acc ++ [.ref p2])) = H12 at a3' g12 E12 x312
        obtain ⟨acc12, l12, l12', _⟩ := id a3'
        obtain ⟨dx12, hp12⟩ := E12.oz.ob
        refine ⟨_, rfl, .inl ⟨rfl, _, SqL.of l12⟩, _, rfl, nd, _, rfl, .inl (SqL.of g12), _, _, rfl, rfl, _, rfl, x.a.p, dx12, _, rfl, hp12, ofl_with_more x.a, _, rfl, _, rfl, x.a, L.length, rs, js, x.U, x.B, j, i, true, rfl, E12.oz, E8.ok.wf, z1.ix, by omega, oo.2.1, oo.1, fun a3 U3 B3 H13 x13 O3 M3 f3 => ?_⟩
        have L13 := a3'.ex x13 (fun t x h => h.ex x13)
        have g13 := x13 _ _ g12
        have f3n := E12.f1.same f3 g12
        have f3l := E12.f2.same f3 l12
        refine ⟨by show 2 ≤ sizeLine; decide, fun p3 np3 => ?_⟩
        have xp3 : Ex H13 (upd H13 p3 (.tup [.int ((ys.length : Int) + 1), .ref a3.p])) := Evl.Ex.new np3
        have ent3 : EntOk K L.length rs js U1 B1 nd ln (2 * (Lv + (St'.length + 1)) - 1 + 2) (upd H13 p3 (.tup [.int ((ys.length : Int) + 1), .ref a3.p])) p3 ⟨ys.length + 1, a3, U3, B3, w2⟩ :=
          ⟨by rw [upd_same]; show some (HO.tup [.int ((ys.length : Int) + 1), .ref a3.p]) = some (HO.tup [.int ((ys.length + 1 : Nat) : Int), .ref a3.p]); rw [Int.natCast_succ], O3.ex xp3, M3.ok, f3n, f3l, by show ys.length + 1 < _; omega, hw2, fun _ => k2 U3 B3 M3.mono (M3.b rfl), E8.mo.trans M3.mono⟩
        obtain ⟨acc', c1', c2', c3'⟩ := RowsP.snoc (fun ys zs t x hq h => h.st hq (.inr rfl)) (L13.ex xp3 (fun t x h => h.ex xp3)) ent3
        refine ⟨ln, acc', _, rfl, rfl, c1', ?b2, ?_⟩
        case b2 =>
          rw [c2', List.length_append, List.length_singleton]
          exact Nat.lt_of_lt_of_le (m := 7087263) (by omega) (by decide)
        have g14 : (upd (upd H13 p3 (.tup [.int ((ys.length : Int) + 1), .ref a3.p])) ln (.lst (acc' ++ [.ref p3]))) nd = some (.lst ys) := by
          rw [upd_ne S.ne]
          exact xp3 _ _ g13
        have x314 : Ex H3 (upd (upd H13 p3 (.tup [.int ((ys.length : Int) + 1), .ref a3.p])) ln (.lst (acc' ++ [.ref p3]))) := Evl.Ex.mut ((x312.trans x13).trans xp3) nln
        refine ⟨_, rfl, by show 2 ≤ sizeLine; decide, fun q nq => ?_⟩
        have xq : Ex (upd (upd H13 p3 (.tup [.int ((ys.length : Int) + 1), .ref a3.p])) ln (.lst (acc' ++ [.ref p3]))) (upd (upd (upd H13 p3 (.tup [.int ((ys.length : Int) + 1), .ref a3.p])) ln (.lst (acc' ++ [.ref p3]))) q (.lst [.non, .non])) := Evl.Ex.new nq
        refine ⟨nd, q, _, _, rfl, rfl, xq _ _ g14, upd_same, ?b3, fun nd' nnd => ?_⟩
        case b3 =>
          exact Nat.le_trans (m := 14174523) (by simp only [List.length_cons, List.length_nil]; omega) (by decide)
        have xn : Ex (upd (upd (upd H13 p3 (.tup [.int ((ys.length : Int) + 1), .ref a3.p])) ln (.lst (acc' ++ [.ref p3]))) q (.lst [.non, .non])) (upd (upd (upd (upd H13 p3 (.tup [.int ((ys.length : Int) + 1), .ref a3.p])) ln (.lst (acc' ++ [.ref p3]))) q (.lst [.non, .non])) nd' (.lst (ys ++ [.non, .non]))) := Evl.Ex.new nnd
        have c14 := c3'.ex xq (fun t x h => h.ex xq)
        have c15 := (c14.imp (fun t x h => h.mv (nd' := nd') (Nat.le_refl _) nnd)).ex xn (fun t x h => h.ex xn)
        refine ⟨m - 1, by omega, nd', St' ++ [⟨ys.length, a2, U2, B2, w1⟩] ++ [⟨ys.length + 1, a3, U3, B3, w2⟩], Lv, _, _, _, _, _, rfl, x314.trans (xq.trans xn), ?n1, ?S, ?m⟩
        case n1 =>
          cases hq : H3 nd' with
          | none => rfl
          | some o => exact absurd ((x314.trans xq) _ _ hq) (by rw [nnd]; exact fun z => nomatch z)
        case m => simp only [List.length_append, List.length_singleton]; omega
        case S =>
          exact {
            ls := by
              exact c15.imp (fun t x h => h.up (by simp only [List.length_append, List.length_singleton]; omega))
            ns := ⟨_, upd_same, by simp only [List.length_append, List.length_cons, List.length_nil]; omega⟩
            ne := by
              obtain ⟨u, hu, _⟩ := c14
              exact (ne_of_none hu nnd).symm
            cs := by simp only [List.map_append, List.map_cons, List.map_nil, List.sum_append, List.sum_cons, List.sum_nil]; omega
            cv := fun v g h => by
              obtain ⟨y, hy, hs⟩ := S.cv v g h
              rcases List.mem_append.mp hy with hy | hy
              · exact ⟨y, List.mem_append_left _ (List.mem_append_left _ hy), hs⟩
              · rw [List.mem_singleton] at hy
                rw [hy] at hs
                by_cases hij : v i ≤ v j
                · exact ⟨_, List.mem_append_left _ (List.mem_append_right _ (List.mem_singleton.mpr rfl)), M2.snd v (g.good R) hs hij (fun z => nomatch z)⟩
                · exact ⟨_, List.mem_append_right _ (List.mem_singleton.mpr rfl), M3.snd v (g.good R) hs (Int.le_of_lt (Int.not_le.mp hij)) (fun _ => Int.not_le.mp hij)⟩ }
end
end K35

/-! Rules that the layer lacks: t[::-1] of a pair, d == {}, list of a text. -/
namespace K35
open PySem PySem.Spec PyProof.Rows L2
section
variable {prog : Program} {w : World} {A : Around} {E : Value → Shared → Prop} {s : Shared}
theorem applied_rev2 {sl : Addr} {vl vu vs : Value} {Q : Int × Int × Nat → Shared → Prop} (hs : s.heap.IsSliceOf sl vl vu vs) (pl : IsPart vl none) (pu : IsPart vu none) (ps : IsPart vs (some (-1)))
    (h : Q ((1 : Int), -1, 2) s) : wpAny (model prog w) A (Builtin.Slice.sliceApplied (.ref sl) (pure (2 : Int))) Q E s := by
  obtain ⟨os, hos, hcs, hds⟩ := id hs
  unfold Builtin.Slice.sliceApplied Builtin.Slice.sliceFields
  refine wpAny_bind (wpAny_bind (wpAny_field hos hds (x := vl) rfl (wpAny_bind (wpAny_field hos hds (x := vu) rfl (wpAny_bind (wpAny_field hos hds (x := vs) rfl (wpAny_pure ?_)))))))
  refine wpAny_bind (HT.slicePart_ ps ?_)
  show wpAny _ _ (if ((-1 : Int) == 0) = true then _ else _) _ _ s
  rw [if_neg (by decide)]
  refine wpAny_bind (HT.slicePart_ pl (wpAny_bind (HT.slicePart_ pu (wpAny_bind (wpAny_pure ?_)))))
  show wpAny _ _ (match Builtin.Slice.sliceAdjust none none (-1) 2 with | (lo, hi) => pure (lo, (-1 : Int), Builtin.Slice.slicePlaces lo hi (-1))) _ _ s
  have e : Builtin.Slice.sliceAdjust none none (-1) 2 = (1, -1) := by decide +kernel
  rw [e]
  show wpAny _ _ (pure ((1 : Int), (-1 : Int), Builtin.Slice.slicePlaces 1 (-1) (-1))) _ _ s
  have e2 : Builtin.Slice.slicePlaces 1 (-1) (-1) = 2 := by decide +kernel
  rw [e2]
  exact wpAny_pure h
theorem getItem_rev2 {t sl : Addr} {a b vl vu vs : Value} {Q : Value → Shared → Prop} (ht : IsTup s.heap t #[a, b]) (hs : s.heap.IsSliceOf sl vl vu vs) (pl : IsPart vl none) (pu : IsPart vu none) (ps : IsPart vs (some (-1)))
    (h : Q (.ref s.heap.objs.size) { s with heap := s.heap.push { cls := .type "tuple", data := .seq #[b, a] } }) : wpAny (model prog w) A (getItem (.ref t) (.ref sl)) Q E s := by
  have htake : sizeOk (.seq #[b, a]) := by
    show 2 ≤ sizeLine
    decide
  obtain ⟨os, hos, hcs, hds⟩ := id hs
  have hTs : s.TypeIs (.ref sl) "slice" := ⟨os, hos, hcs⟩
  unfold getItem
  try with_reducible refine wpAny_holding ?_
  first | refine wpAny_bind (wpAny_pure ?_) | skip
  refine wpAny_bind (wpAny_sequenceKey ht.typeIs (by decide) ?_)
  refine wpAny_bind (wpAny_callSpecial?_slot (name := Str.ofString "__getitem__") ht.typeIs PyProof.Rows.slot_tuple_getitem
    (wpAny_call_entry PyProof.Rows.slot_tuple_getitem ht.typeIs entry_tuple_getitem ?_ (args_tuple_getitem _ _)))
  show wpAny _ _ (Builtin.Tuple.tupleItemsOf (.ref t) >>= _) _ _ s
  refine wpAny_bind (tupleItemsOf_ ht ?_)
  refine wpAny_bind (wpAny_typeOf hTs ?_)
  rw [if_pos (by decide)]
  refine wpAny_bind (applied_rev2 hs pl pu ps ?_)
  show wpAny _ _ (if (((1 : Int) == 0) && ((-1 : Int) == 1) && (2 == 2)) = true then _ else _) _ _ s
  rw [if_neg (by decide)]
  have e : ((List.range 2).filterMap fun (m : Nat) => #[a, b][((1 : Int) + (m : Int) * (-1)).toNat]?).toArray = #[b, a] := rfl
  first
    | exact wpAny_bind (m := Builtin.Tuple.tupleExact _) (wpAny_newObj_type (wpAny_pure ⟨_, rfl, wpAny_pure h⟩) htake)
    | exact wpAny_bind (m := Builtin.Tuple.tupleExact _) (wpAny_newObj_type (wpAny_bind (wpAny_pure (wpAny_pure ⟨_, rfl, wpAny_pure h⟩))) htake)
    | exact wpAny_bind (wpAny_bind (m := Builtin.Tuple.tupleExact _) (wpAny_newObj_type (wpAny_pure (wpAny_pure ⟨_, rfl, wpAny_pure h⟩)) htake))
    | exact wpAny_bind (wpAny_bind (m := Builtin.Tuple.tupleExact _) (wpAny_newObj_type (wpAny_pure ⟨_, rfl, wpAny_pure h⟩) htake))
end
section
variable {X : Cx}
/-- t[::-1], t a pair -/
def tRevT (K : PySem.W.Frag) (te : TE) : TE := fun σ H Q => te σ H fun x H1 => ∃ a y z, x = .ref a ∧ SqT K H1 a [y, z] ∧ ∀ p, H1 p = none → Q (.ref p) (upd H1 p (.tup [z, y]))
theorem pe_revT {K : PySem.W.Frag} (hK : X.K = K) {e : Expr} {te : TE} {k : Nat} {p1 p2 p3 pos : Pos} (he : PE X e te) : PE X (.Subscript e (.Slice none none (some (.UnaryOp .USub (.Constant (.int 1) k p1) p2)) p3) pos) (tRevT K te) := by
  subst hK
  refine ⟨fun pins s σ H Q I h => ?_⟩
  refine Subscript_ (thn (he.run pins s σ H _ I h) fun v s1 ⟨x, H1, I1, r1, q1⟩ => ?_)
  obtain ⟨a, y, z, ex, hx, q⟩ := q1
  subst ex
  cases r1
  have hst : PO X (some (.UnaryOp .USub (.Constant (.int 1) k p1) p2)) (tPart (tUn (rU fun i => .int (-i)) (tC (.int 1)))) := po_some (pe_un un_neg pe_int)
  refine wpAny_Slice (thn (po_none.run pins s1 σ H1 (fun o H2 => o = none ∧ H2 = H1) I1 ⟨rfl, rfl⟩) fun vl s2 ⟨l, H2, I2, pl, el, e2⟩ => ?_)
  subst el e2
  refine thn (po_none.run pins s2 σ H2 (fun o H3 => o = none ∧ H3 = H2) I2 ⟨rfl, rfl⟩) fun vu s3 ⟨u, H3, I3, pu, eu, e3⟩ => ?_
  subst eu e3
  refine thn (hst.run pins s3 σ H3 (fun o H4 => o = some (-1) ∧ H4 = H3) I3 ⟨1, rfl, -1, rfl, rfl, rfl⟩) fun vs s4 ⟨o, H4, I4, ps, eo, e4⟩ => ?_
  subst eo e4
  have I5 : Inv X pins σ H4 { s4 with heap := s4.heap.push { cls := .type "slice", data := .fields #[vl, vu, vs] } } := I4.kept (t' := s4.toks) fun b ob q => Heap.get?_push_of_some _ q
  obtain ⟨its, r, ht, hz⟩ := I5.tuple hx
  obtain ⟨u1, u2, rfl, r1, r2⟩ := r.two
  show wpAny (model X.prog X.w) X.A (subscriptTail e (.Slice none none (some (.UnaryOp .USub (.Constant (.int 1) k p1) p2)) p3) (.ref a) (.ref s4.heap.objs.size)) (EP X pins σ Q) X.xe { s4 with heap := s4.heap.push { cls := .type "slice", data := .fields #[vl, vu, vs] } }
  refine tail_any (ops := [.ref a, .ref s4.heap.objs.size]) ht.typeIs (PyProof.Rows.slot_tuple_getitem.lookup) ?_ (by with_unfolding_all rfl)
  refine getItem_rev2 ht (Heap.IsSliceOf.new _ vl vu vs) pl pu ps ?_
  refine ⟨.ref _, _, I5.laid (t' := s4.toks) (o := .tup [z, y]) (fun b ob q => Heap.get?_push_of_some _ q) (Nat.le_refl _) ?_, rfl, q _ (I5.hok.fresh (Nat.le_refl _))⟩
  exact ⟨(by show 2 ≤ sizeLine; decide), _, .cons r2 (.cons r1 .nil), IsTup.new _ _⟩
/-- d == {}, d not empty -/
def rDNil : R2 := fun x y H Q => ∃ a b ks, x = .ref a ∧ y = .ref b ∧ H a = some (.dK ks) ∧ H b = some (.dK []) ∧ ks ≠ [] ∧ Q (.bl false) H
theorem op_eqDNil (hu : X.A.units < cLine) : OpR X (compareOp .Eq) rDNil := by
  intro pins s σ H x y v u Q I rx ry h
  obtain ⟨a, b, ks, rfl, rfl, ea, eb, hne, q⟩ := h
  obtain rfl : v = Value.ref a := rx
  obtain rfl : u = Value.ref b := ry
  obtain ⟨_, ya, va, ra, da⟩ := (show ObjOk X.prog X.w H s.heap a (.dK ks) from I.hok a _ ea)
  obtain ⟨_, yb, vb, rb, db⟩ := (show ObjOk X.prog X.w H s.heap b (.dK []) from I.hok b _ eb)
  have hl : va.length ≠ vb.length := by
    rw [← ra.length, ← rb.length]
    exact fun z => hne (List.length_eq_zero_iff.mp z)
  exact PySem.W.keq_eq (knd := mixKind X.prog X.w) (r := true) ya yb da db hu (fun e => absurd e hl) (fin_bl I q (by simp [hl]))
theorem vals_by {α : Type} {f : α → V} : ∀ {l : List α} {us : List Value}, us.length = l.length → (∀ (j : Nat) (v : Value), us[j]? = some v → ∃ c, l[j]? = some c ∧ RelV (f c) v) → Vals (l.map f) us
  | [], [], _, _ => .nil
  | [], u :: us, h, _ => by cases h
  | c :: l, [], h, _ => by cases h
  | c :: l, u :: us, h, g => by
    refine .cons ?_ (vals_by (Nat.succ.inj h) fun j v e => g (j + 1) v e)
    obtain ⟨d, h1, h2⟩ := g 0 u rfl
    cases h1
    exact h2
/-- list(text): its signs -/
theorem call_list_txt (hc : X.calm = true) : CallR X (.type "list") (fun xs H Q => ∃ z : Str, xs = [.str z] ∧ z.cps.size ≤ sizeLine ∧ ∀ l, H l = none → Q (.ref l) (upd H l (.lst (z.cps.toList.map fun c => V.str ⟨#[c]⟩)))) := by
  intro pins s σ H xs us Q I r h
  obtain ⟨z, rfl, hz, q⟩ := h
  obtain ⟨u, rfl, rx⟩ := vals1 r
  obtain ⟨t, rfl⟩ := rx
  refine PySem.call_list_str (I.ok.hd hc) z t (hn := hz) fun h' tk acc' c' hk hS hacc => ?_
  refine ⟨.ref s.heap.objs.size, _, I.laid (t' := tk) (o := .lst (z.cps.toList.map fun c => V.str ⟨#[c]⟩)) hk (Nat.le_refl _) ?_, rfl, q _ (I.hok.fresh (Nat.le_refl _))⟩
  refine ⟨by rw [List.length_map, Array.length_toList]; exact hz, acc'.toList, c', vals_by (by rw [Array.length_toList, Array.length_toList]; exact hacc.1) fun j v e => ?_, ?_⟩
  · obtain ⟨c, u, h1, h2⟩ := hacc.2 j v (by rw [← Array.getElem?_toList]; exact e)
    exact ⟨c, by rw [Array.getElem?_toList]; exact h1, by rw [h2]; exact ⟨u, rfl⟩⟩
  · exact hS
end
theorem call_len_seqK {X : Cx} {K : PySem.W.Frag} (hK : X.K = K) : CallR X (.builtin "len") (fun xs H Q => ∃ p ys, xs = [.ref p] ∧ (SqL K H p ys ∨ SqT K H p ys) ∧ Q (.int ys.length) H) := by subst hK; exact call_len_seq
end K35

/-! numbers_of, is_number, is_ride, steps_among, needed, Link. -/
namespace K35
open PySem PySem.Spec PyProof.Rows L2
theorem kit_ib (K : PySem.W.Frag) : PySem.W.kitOne K (.type "int") (.type "bool") = some false := by kernel_rfl
theorem kit_st (K : PySem.W.Frag) : PySem.W.kitOne K (.type "str") (.type "tuple") = some false := by kernel_rfl
theorem kit_ts (K : PySem.W.Frag) : PySem.W.kitOne K (.type "tuple") (.type "str") = some false := by kernel_rfl
theorem kit_ii (K : PySem.W.Frag) : PySem.W.kitOne K (.type "int") (.type "int") = some true := by kernel_rfl
theorem kit_ss (K : PySem.W.Frag) : PySem.W.kitOne K (.type "str") (.type "str") = some true := by kernel_rfl
theorem kit_tt (K : PySem.W.Frag) : PySem.W.kitOne K (.type "tuple") (.type "tuple") = some true := by kernel_rfl
theorem kit_dd (K : PySem.W.Frag) : PySem.W.kitOne K (.type "dict") (.type "dict") = some true := by kernel_rfl
theorem kit_llt (K : PySem.W.Frag) : PySem.W.kitAny K (.type "list") [.type "list", .type "tuple"] = some true := by kernel_rfl
theorem kit_tlt (K : PySem.W.Frag) : PySem.W.kitAny K (.type "tuple") [.type "list", .type "tuple"] = some true := by kernel_rfl
def nums (n : Nat) (B : List Nat) : List Nat := (List.range n).map (numK n B)
def spNums (K : PySem.W.Frag) : Sp := fun vs H Q _ => ∃ (a : Oa) (n : Nat) (rs : List R4) (js : List J4) (U B : List Nat), vs = [.ref a.p] ∧ OrdAt K H a rs js U B ∧ Wf n U B ∧ n ≤ 60 ∧ ∀ l H', Ex H H' → H' l = some (.lst (nV (nums n B))) → Q (.ref l) H'
def spIsNum : Sp := fun vs H Q _ => ∃ z : Int, vs = [.int z] ∧ Q (.bl true) H
def spIsRide : Sp := fun vs H Q _ => ∃ (t : Addr) (a b : Int), vs = [.ref t] ∧ H t = some (.tup [.int a, .int b]) ∧ Q (.bl (decide (a ≤ b))) H
def rdV (p : Int × Int) : List V := [.int p.1, .int p.2]
def RidesL (H : Hp) (l : Addr) (rs : List (Int × Int)) : Prop := RowsP (FT rdV) H l rs ∧ ∀ p ∈ rs, p.1 ≤ p.2
def spNeeded : Sp := fun vs H Q _ => ∃ (l : Addr) (rs : List (Int × Int)), vs = [.ref l] ∧ RidesL H l rs ∧ rs.length ≤ 60 ∧ ∀ t H', Ex H H' → Q (.ref t) H'
def isSt : Tl → Bool
  | .st _ _ => true
  | _ => false
def stepsK (L : List Tl) (m : Nat) : Nat := (L.take m).countP isSt
def IntD (kvs : List (Key × V)) : Prop := ∀ kv ∈ kvs, ∃ a b : Int, kv = (.inl a, .int b)
theorem IntD.val {kvs : List (Key × V)} (h : IntD kvs) {k : Key} {v : V} (e : valV kvs k = some v) : ∃ b, v = .int b := by
  unfold valV at e
  obtain ⟨kv, h1, h2⟩ := Option.map_eq_some_iff.mp e
  obtain ⟨a, b, q⟩ := h kv (List.mem_of_find?_eq_some h1)
  exact ⟨b, by rw [← h2, q]⟩
theorem IntD.put {kvs : List (Key × V)} (h : IntD kvs) (a b : Int) : IntD (putK kvs (.inl a) (.int b)) := by
  intro kv hkv
  unfold putK at hkv
  split at hkv
  · obtain ⟨e, he, q⟩ := List.mem_map.mp hkv
    obtain ⟨a', b', q'⟩ := h e he
    rw [q'] at q
    split at q
    · exact ⟨_, _, q.symm⟩
    · exact ⟨_, _, q.symm⟩
  · rcases List.mem_append.mp hkv with hh | hh
    · exact h kv hh
    · rw [List.mem_singleton] at hh
      exact ⟨a, b, hh⟩
theorem val_mem {κ : Type} [DecidableEq κ] {kvs : List (κ × V)} {k : κ} {v : V} (h : (k, v) ∈ kvs) : ∃ u, valV kvs k = some u := by
  have q := valV_any k kvs
  have : (kvs.any fun kv => decide (kv.1 = k)) = true := List.any_eq_true.mpr ⟨_, h, decide_eq_true rfl⟩
  rw [this] at q
  exact Option.isSome_iff_exists.mp q.symm
def spAmong : Sp := fun vs H Q _ => ∃ (l : Addr) (L : List Tl), vs = [.ref l] ∧ LAt H l L ∧ L.length ≤ 30 ∧ ∀ H', Ex H H' → Q (.int (stepsK L L.length)) H'
section
variable {P : Program} {w : World} {K : PySem.W.Frag} {mg : Str → Option Value} {base : Heap}
abbrev N_numbers_of : List Str := ["order", "many", "k", "i"]
theorem sc_numbers_of : FnScope N_numbers_of ["order"] (defScope s_numbers_of) := ⟨rfl, rfl, rfl, by decide +kernel, rfl, by decide +kernel, by decide +kernel⟩
theorem c_numbers_of (T : Tx K mg) : C8.Cal P w K mg base 2 "numbers_of" (spNums K) [] :=
  mkCal T fn_numbers_of rfl rfl rfl T.mg_numbers_of sc_numbers_of (fun _ _ _ _ _ _ us hl => match us, hl with | [_], _ => rfl) (fun vs H Q E h => by obtain ⟨a, n, rs, js, U, B, rfl, _⟩ := h; rfl) fun f cdv A outer s0 H vs Q E hr h => by
    obtain ⟨a, n, rs, js, U, B, rfl, O, wf, hn, k⟩ := h
    obtain ⟨dx, hp⟩ := O.ob
    refine ⟨_, (pss_cons (ps_set (i := 1) sc_numbers_of.nd rfl (Or.inr rfl) (pe_callB call_len_seq (by rfl) T.f_len (by decide +kernel) (pa_cons (pe_fld (pv 0) rfl) pa_nil)))
      (pss_one (ps_ret (pe_lc (own := [("k", 2)]) (g := gName 2) rfl sc_numbers_of.nd (pi_range1 rfl T.f_range (pa_cons (pv 1) pa_nil)) (blkOk_by (own := [("k", 2)]) (N := N_numbers_of) (sc := defScope s_numbers_of) (by decide +kernel)) (fun _ _ _ _ _ => (pg_name (i := 2) sc_numbers_of.nd rfl (Or.inr rfl))) (fun _ _ _ _ _ => pts_nil) (fun _ _ _ _ _ => (pe_callB (call_len_seqK (K := K) rfl) (by rfl) T.f_len (by decide +kernel) (pa_cons (pe_lc (own := [("i", 3)]) (g := gName 3) rfl sc_numbers_of.nd (pi_range1 rfl T.f_range (pa_cons (pv 1) pa_nil)) (blkOk_by (own := [("i", 3)]) (N := N_numbers_of) (sc := ({ kind := .function, names := [(".0", .local), ("k", .cell), ("len", .globalImplicit), ("range", .globalImplicit), ("many", .cell), ("order", .cell)], isGenerator := false, isCoroutine := false } : Scope)) (by decide +kernel)) (fun _ _ _ _ _ => (pg_name (i := 3) sc_numbers_of.nd rfl (Or.inl rfl))) (fun _ _ _ _ _ => (pts_one (pt_val (C8.pe_mt (m_is_below T) hr (by decide) (pv 0) (pa_cons (pv 3) (pa_cons (pv 2) pa_nil)))))) (fun _ _ _ _ _ => (pv 3))) pa_nil))))))), ?_⟩
    have hl : (nV U).length = n := (nV_len U).trans wf.lu
    refine ⟨_, rfl, a.p, _, dx, _, _, rfl, hp, T.cls_Order, T.no_upto, ofl_upto a, a.ul, _, rfl, .inl (SqL.of O.up), ?_⟩
    rw [hl]
    refine ⟨_, rfl, _, rfl, (b62 (by omega)).1, (b62 (by omega)).2, fun D nD => ?_⟩
    refine lc_rng (n := n) (fun i H' => Ex H H' ∧ H' D = some (.lst (nV (((List.range n).map (numK n B)).take i)))) ⟨Evl.Ex.new nD, upd_same⟩ ?_ ?_
    · rintro i H1 hi ⟨x1, hD⟩
      refine ⟨rfl, ?_⟩
      have O1 := O.ex x1
      refine ⟨_, rfl, _, rfl, (b62 (by omega)).1, (b62 (by omega)).2, fun D2 nD2 => ?_⟩
      refine lc_rng (n := n) (fun j H' => Ex H1 H' ∧ ∃ zs, H' D2 = some (.lst zs) ∧ zs.length = (List.range j).countP (fun m => bt B m i)) ⟨Evl.Ex.new nD2, [], upd_same, rfl⟩ ?_ ?_
      · rintro j H2 hj ⟨x2, zs, hz, hl2⟩
        refine ⟨rfl, ?_⟩
        have O2 := O1.ex x2
        obtain ⟨dx2, hp2⟩ := O2.ob
        refine ⟨_, rfl, a.p, dx2, _, rfl, hp2, ofl_is_below a, _, rfl, _, rfl, a, rs, js, U, B, j, i, rfl, O2, by rw [wf.lb]; exact hj, _, rfl, ?_⟩
        cases hb : bt B j i with
        | false =>
          refine iteF ⟨x2, zs, hz, ?_⟩
          rw [hl2, List.range_succ, List.countP_append]
          simp [hb]
        | true =>
          refine iteT ⟨_, rfl, zs, hz, lt_line (Nat.le_trans (by rw [hl2]; exact List.countP_le_length) (by rw [List.length_range]; omega)), Evl.Ex.mut x2 nD2, _, upd_same, ?_⟩
          rw [List.length_append, hl2, List.range_succ, List.countP_append]
          simp [hb]
      · rintro H2 ⟨x2, zs, hz, hl2⟩
        refine ⟨D2, _, rfl, .inl (SqL.of hz), _, x2 _ _ hD, lt_line (by rw [nV_len, List.length_take]; omega), Evl.Ex.mut (x1.trans x2) nD, ?_⟩
        rw [upd_same, hl2, List.take_add_one, List.getElem?_map, List.getElem?_range hi]
        unfold nV
        rw [List.map_append]
        rfl
    · rintro H1 ⟨x1, hD⟩
      refine k D H1 x1 ?_
      rw [List.take_of_length_le (by simp)] at hD
      exact hD
abbrev N_is_number : List Str := ["thing"]
theorem sc_is_number : FnScope N_is_number ["thing"] (defScope s_is_number) := ⟨rfl, rfl, rfl, by decide +kernel, rfl, by decide +kernel, by decide +kernel⟩
theorem c_is_number (T : Tx K mg) : C8.Cal P w K mg base 1 "is_number" spIsNum [] :=
  mkCal T fn_is_number rfl rfl rfl T.mg_is_number sc_is_number (fun _ _ _ _ _ _ us hl => match us, hl with | [_], _ => rfl) (fun vs H Q E h => by obtain ⟨z, rfl, _⟩ := h; rfl) fun f cdv A outer s0 H vs Q E hr h => by
    obtain ⟨z, rfl, k⟩ := h
    refine ⟨_, (pss_one (ps_ret (pe_and (pe_callB (call_isiK (K := K) rfl) (by rfl) T.f_isinstance (by decide +kernel) (pa_cons (pv 0) (pa_cons (pe_bltn (v := .ty "int") (by rfl) T.f_int (by decide +kernel) rfl) pa_nil))) (pe_one (pe_not (pe_callB (call_isiK (K := K) rfl) (by rfl) T.f_isinstance (by decide +kernel) (pa_cons (pv 0) (pa_cons (pe_bltn (v := .ty "bool") (by rfl) T.f_bool (by decide +kernel) rfl) pa_nil)))))))), ?_⟩
    refine ⟨_, rfl, _, _, _, _, _, rfl, .ty _, .base (.int _), kit_ii K, _, rfl, ?_⟩
    refine iteT ⟨_, rfl, _, _, _, _, _, rfl, .ty _, .base (.int _), kit_ib K, _, rfl, k⟩
abbrev N_is_ride : List Str := ["thing"]
theorem sc_is_ride : FnScope N_is_ride ["thing"] (defScope s_is_ride) := ⟨rfl, rfl, rfl, by decide +kernel, rfl, by decide +kernel, by decide +kernel⟩
theorem c_is_ride (T : Tx K mg) : C8.Cal P w K mg base 2 "is_ride" spIsRide [] :=
  mkCal T fn_is_ride rfl rfl rfl T.mg_is_ride sc_is_ride (fun _ _ _ _ _ _ us hl => match us, hl with | [_], _ => rfl) (fun vs H Q E h => by obtain ⟨t, a, b, rfl, _⟩ := h; rfl) fun f cdv A outer s0 H vs Q E hr h => by
    obtain ⟨t, a, b, rfl, ht, k⟩ := h
    refine ⟨_, (pss_cons (ps_if (PW.pt (pw_or (pt_not (pt_val (pe_callB (call_isiK (K := K) rfl) (by rfl) T.f_isinstance (by decide +kernel) (pa_cons (pv 0) (pa_cons (pe_bltn (v := .ty "tuple") (by rfl) T.f_tuple (by decide +kernel) rfl) pa_nil))))) (pw_or (pt_cmpR op_ne (pe_callB call_len_seq (by rfl) T.f_len (by decide +kernel) (pa_cons (pv 0) pa_nil)) pe_int (nomark _)) (pw_or (pt_not (pt_val (C8.pe_c (c_is_number T) hr (by decide) (by rfl) (pa_cons (pe_ix (ix_tupK (K := K) rfl) (pv 0) pe_int (fun _ _ => rfl)) pa_nil)))) (pw_or1 (pt_not (pt_val (C8.pe_c (c_is_number T) hr (by decide) (by rfl) (pa_cons (pe_ix (ix_tupK (K := K) rfl) (pv 0) pe_int (fun _ _ => rfl)) pa_nil))))))))) (pss_one (ps_ret pe_bl)) pss_nil)
      (pss_one (ps_ret (pe_cmpR op_le (pe_ix (ix_tupK (K := K) rfl) (pv 0) pe_int (fun _ _ => rfl)) (pe_ix (ix_tupK (K := K) rfl) (pv 0) pe_int (fun _ _ => rfl)) (nomark _))))), ?_⟩
    refine ⟨_, rfl, _, _, _, _, _, rfl, .ty _, .base (.tup ht), kit_tt K, _, rfl, ?_⟩
    refine iteF ⟨_, rfl, t, _, rfl, .inr (SqT.of ht), rfl, _, rfl, ?_⟩
    refine iteF ⟨_, rfl, t, _, _, _, rfl, rfl, SqT.of ht, rfl, a, rfl, _, rfl, ?_⟩
    refine iteF ⟨_, rfl, t, _, _, _, rfl, rfl, SqT.of ht, rfl, b, rfl, _, rfl, ?_⟩
    refine iteF ?_
    refine ⟨_, rfl, t, _, _, _, rfl, rfl, SqT.of ht, rfl, _, rfl, t, _, _, _, rfl, rfl, SqT.of ht, rfl, _, _, rfl, rfl, k⟩
abbrev N_steps_among : List Str := ["listed", "told"]
theorem sc_steps_among : FnScope N_steps_among ["listed"] (defScope s_steps_among) := ⟨rfl, rfl, rfl, by decide +kernel, rfl, by decide +kernel, by decide +kernel⟩
theorem c_steps_among (T : Tx K mg) : C8.Cal P w K mg base 1 "steps_among" spAmong [] :=
  mkCal T fn_steps_among rfl rfl rfl T.mg_steps_among sc_steps_among (fun _ _ _ _ _ _ us hl => match us, hl with | [_], _ => rfl) (fun vs H Q E h => by obtain ⟨l, L, rfl, _⟩ := h; rfl) fun f cdv A outer s0 H vs Q E hr h => by
    obtain ⟨l, L, rfl, hL, hn, k⟩ := h
    refine ⟨_, (pss_one (ps_ret (pe_callB call_len_seq (by rfl) T.f_len (by decide +kernel) (pa_cons (pe_lc (own := [("told", 1)]) (g := gName 1) rfl sc_steps_among.nd (pi_list (pv 0)) (blkOk_by (own := [("told", 1)]) (N := N_steps_among) (sc := defScope s_steps_among) (by decide +kernel)) (fun _ _ _ _ _ => (pg_name (i := 1) sc_steps_among.nd rfl (Or.inl rfl))) (fun _ _ _ _ _ => (pts_one (pt_cmpR op_eq (pe_ix (ix_tupK (K := K) rfl) (pv 1) pe_int (fun _ _ => rfl)) pe_str (nomark _)))) (fun _ _ _ _ _ => (pv 1))) pa_nil)))), ?_⟩
    obtain ⟨tl, l1, l2, l3⟩ := id hL
    refine ⟨_, rfl, l, rfl, ⟨_, SqL.of l1⟩, fun D nD => ?_⟩
    refine lc_wk (wk_list (K := K) (a := l) (xs := tl.map V.ref)) (fun i H' => Ex H H' ∧ ∃ zs, H' D = some (.lst zs) ∧ zs.length = stepsK L i) ⟨Evl.Ex.new nD, [], upd_same, rfl⟩ (fun i H' _ p => SqL.of (p.1 _ _ l1)) ?_ ?_
    · rintro i y H1 H2 hi ⟨x1, zs, hz, hl⟩ ⟨rfl, hy⟩
      rw [List.getElem?_map] at hy
      obtain ⟨t, ht, rfl⟩ := Option.map_eq_some_iff.mp hy
      obtain ⟨tv, htv⟩ : ∃ r, L[i]? = some r := ⟨L[i]'(by rw [← l2]; exact (List.getElem?_eq_some_iff.mp ht).1), List.getElem?_eq_getElem _⟩
      have ht1 := x1 _ _ (l3 i t tv ht htv)
      rw [List.length_map] at hi
      have nx : stepsK L (i + 1) = stepsK L i + (if isSt tv = true then 1 else 0) := by
        unfold stepsK
        rw [List.take_add_one, htv, List.countP_append]
        simp
      have hzl : zs.length ≤ 1000 := by
        rw [hl]
        exact Nat.le_trans (List.countP_le_length) (by rw [List.length_take]; omega)
      refine ⟨rfl, ?_⟩
      cases tv with
      | beg =>
        refine ⟨_, rfl, t, _, _, _, rfl, rfl, SqT.of ht1, rfl, rfl, _, rfl, ?_⟩
        show (if decide (V.str "begin" = V.str "step") = true then _ else _)
        rw [show decide (V.str "begin" = V.str "step") = false from by decide +kernel]
        exact iteF ⟨x1, zs, hz, by rw [nx]; exact hl⟩
      | lat a b =>
        refine ⟨_, rfl, t, _, _, _, rfl, rfl, SqT.of ht1, rfl, rfl, _, rfl, ?_⟩
        show (if decide (V.str "later" = V.str "step") = true then _ else _)
        rw [show decide (V.str "later" = V.str "step") = false from by decide +kernel]
        exact iteF ⟨x1, zs, hz, by rw [nx]; exact hl⟩
      | son a b =>
        refine ⟨_, rfl, t, _, _, _, rfl, rfl, SqT.of ht1, rfl, rfl, _, rfl, ?_⟩
        show (if decide (V.str "sooner" = V.str "step") = true then _ else _)
        rw [show decide (V.str "sooner" = V.str "step") = false from by decide +kernel]
        exact iteF ⟨x1, zs, hz, by rw [nx]; exact hl⟩
      | st c j =>
        refine ⟨_, rfl, t, _, _, _, rfl, rfl, SqT.of ht1, rfl, rfl, _, rfl, ?_⟩
        show (if decide (V.str "step" = V.str "step") = true then _ else _)
        rw [show decide (V.str "step" = V.str "step") = true from by decide +kernel]
        exact iteT ⟨_, rfl, zs, hz, lt_line hzl, Evl.Ex.mut x1 nD, _, upd_same, by rw [nx, List.length_append, hl]; rfl⟩
    · rintro H1 ⟨x1, zs, hz, hl⟩
      rw [List.length_map, l2] at hl
      refine ⟨D, _, rfl, .inl (SqL.of hz), ?_⟩
      rw [hl]
      exact k H1 x1
abbrev N_needed : List Str := ["rides", "ends", "begin", "end", "found", "one"]
theorem sc_needed : FnScope N_needed ["rides"] (defScope s_needed) := ⟨rfl, rfl, rfl, by decide +kernel, rfl, by decide +kernel, by decide +kernel⟩
theorem c_needed (T : Tx K mg) : C8.Cal P w K mg base 1 "needed" spNeeded [] :=
  mkCal T fn_needed rfl rfl rfl T.mg_needed sc_needed (fun _ _ _ _ _ _ us hl => match us, hl with | [_], _ => rfl) (fun vs H Q E h => by obtain ⟨l, rs, rfl, _⟩ := h; rfl) fun f cdv A outer s0 H vs Q E hr h => by
    obtain ⟨l, rs, rfl, hR, hn, k⟩ := h
    have hu := hu_of hr
    refine ⟨_, (pss_cons (ps_set (i := 1) sc_needed.nd rfl (Or.inl rfl) pe_dnewK)
      (pss_cons (ps_for PassesOwn.never rfl (pi_list (pv 0)) (pg_tup rfl (pgs_cons (pg_name (i := 2) sc_needed.nd rfl (Or.inl rfl)) (pgs_cons (pg_name (i := 3) sc_needed.nd rfl (Or.inl rfl)) pgs_nil))) (pss_one (ps_dput hu (pv 1) (pv 2) (pe_ifExp (PW.pt (pw_or (pt_cmp (pc_dnotin hu (pv 2) (pv 1))) (pw_or1 (pt_cmpR op_lt (pv 3) (pe_dget hu (pv 1) (pv 2) (fun _ _ => rfl)) (nomark _))))) (pv 3) (pe_dget hu (pv 1) (pv 2) (fun _ _ => rfl))) rfl)))
      (pss_cons (ps_set (i := 4) sc_needed.nd rfl (Or.inl rfl) (pe_lst pa_nil))
      (pss_cons (ps_for PassesOwn.never rfl (pi_list (pe_revL (pe_callB cr_sortedI (by rfl) T.f_sorted (by decide +kernel) (pa_cons (pe_lock (pe_lc (own := [("one", 5)]) (g := gName 5) rfl sc_needed.nd (pi_keys (pv 1)) (blkOk_by (own := [("one", 5)]) (N := N_needed) (sc := defScope s_needed) (by decide +kernel)) (fun _ _ _ _ _ => (pg_name (i := 5) sc_needed.nd rfl (Or.inl rfl))) (fun _ _ _ _ _ => pts_nil) (fun _ _ _ _ _ => (pe_callTy call_int1 (by rfl) T.f_int (by decide +kernel) (pa_cons (pv 5) pa_nil))))) pa_nil)))) (pg_name (i := 2) sc_needed.nd rfl (Or.inl rfl)) (pss_one (ps_if (PW.pt (pw_or (pt_cmpR (op_eqNil (hu64 hr)) (pv 4) (pe_lst pa_nil) (nomark _)) (pw_or1 (pt_cmpR op_lt (pe_dget hu (pv 1) (pv 2) (fun _ _ => rfl)) (pe_ix (ix_tupK (K := K) rfl) (pe_ix (ix_listK (K := K) rfl) (pv 4) (pe_un un_neg pe_int) (fun _ _ => rfl)) pe_int (fun _ _ => rfl)) (nomark _))))) (pss_one (ps_expr (pe_bm PySem.F.plainAttrs_list PySem.F.slot_list_append PySem.F.type_list_append mt_append (pv 4) (pa_cons (pe_tup (pa_cons (pv 2) (pa_cons (pe_dget hu (pv 1) (pv 2) (fun _ _ => rfl)) pa_nil))) pa_nil)))) pss_nil)))
      (pss_one (ps_ret (pe_callTy call_tuple_of (by rfl) T.f_tuple (by decide +kernel) (pa_cons (pe_revL (pv 4)) pa_nil)))))))), ?_⟩
    intro ed ned
    obtain ⟨hR1, hR2⟩ := hR
    obtain ⟨tr, r1, r2, r3⟩ := id hR1
    have xe : Ex H (upd H ed (.dK [])) := Evl.Ex.new ned
    refine ⟨_, rfl, l, rfl, ⟨_, SqL.of (xe _ _ r1)⟩, ?_⟩
    refine for_wk (wk_list (K := K) (a := l) (xs := tr.map V.ref)) (fun i σ H' => Ex H H' ∧ ∃ v2 v3 kvs, σ = [some (.ref l), some (.ref ed), v2, v3, none, none] ∧ H' ed = some (.dK kvs) ∧ IntD kvs ∧ kvs.length ≤ i)
      ⟨xe, none, none, [], rfl, upd_same, (fun kv h => by cases h), Nat.le_refl _⟩ (fun i σ H' _ p => SqL.of (p.1 _ _ r1)) ?_ ?_
    · rintro i y σ H1 H2 hi ⟨x1, v2, v3, kvs, rfl, hd, hI, hl⟩ ⟨rfl, hy⟩
      rw [List.getElem?_map] at hy
      obtain ⟨t, ht, rfl⟩ := Option.map_eq_some_iff.mp hy
      obtain ⟨r, hr0⟩ : ∃ r, rs[i]? = some r := ⟨rs[i]'(by rw [← r2]; exact (List.getElem?_eq_some_iff.mp ht).1), List.getElem?_eq_getElem _⟩
      have ht1 : H2 t = some (.tup [.int r.1, .int r.2]) := x1 _ _ (r3 i t r ht hr0)
      rw [List.length_map] at hi
      refine ⟨t, _, rfl, SqT.of ht1, rfl, _, _, rfl, _, _, rfl, rfl, ?_⟩
      have fin : ∀ z : Int, Ex H (upd H2 ed (.dK (putK kvs (.inl r.1) (.int z)))) ∧ ∃ v2 v3 kvs', ([some (.ref l), some (.ref ed), some (.int r.1), some (.int r.2), none, none] : L2.St) = [some (.ref l), some (.ref ed), v2, v3, none, none] ∧ (upd H2 ed (.dK (putK kvs (.inl r.1) (.int z)))) ed = some (.dK kvs') ∧ IntD kvs' ∧ kvs'.length ≤ i + 1 := fun z =>
        ⟨Evl.Ex.mut x1 ned, _, _, _, rfl, upd_same, hI.put _ _, Nat.le_trans (length_putK _ _ _) (Nat.succ_le_succ hl)⟩
      have hlz : kvs.length < sizeLine := lt_line (by omega)
      refine ⟨_, rfl, _, rfl, ed, _, rfl, DGet.k (k := .inl r.1) hd, _, rfl, ?_⟩
      cases hv : valV kvs (.inl r.1) with
      | none =>
        exact iteT (iteT ⟨_, rfl, _, rfl, _, rfl, ed, _, rfl, .inl ⟨kvs, .inl r.1, hd, rfl, hlz, rfl⟩, fin r.2⟩)
      | some v =>
        obtain ⟨z, rfl⟩ := hI.val hv
        refine iteF ⟨_, rfl, _, rfl, _, rfl, ed, _, rfl, by rw [← hv]; exact DGet.k (k := .inl r.1) hd, _, _, rfl, rfl, _, rfl, ?_⟩
        cases decide (r.2 < z) with
        | true => exact iteT ⟨_, rfl, _, rfl, _, rfl, ed, _, rfl, .inl ⟨kvs, .inl r.1, hd, rfl, hlz, rfl⟩, fin r.2⟩
        | false => exact iteF ⟨_, rfl, _, rfl, ed, _, rfl, by rw [← hv]; exact DGet.k (k := .inl r.1) hd, _, rfl, _, rfl, ed, _, rfl, .inl ⟨kvs, .inl r.1, hd, rfl, hlz, rfl⟩, fin z⟩
    · rintro σ H1 ⟨x1, v2, v3, kvs, rfl, hd, hI, hl⟩
      rw [List.length_map, r2] at hl
      refine ⟨by show 0 ≤ sizeLine; decide, fun fl nf => ?_⟩
      have xf : Ex H1 (upd H1 fl (.lst [])) := Evl.Ex.new nf
      have hd2 := xf _ _ hd
      have hf2 : (upd H1 fl (.lst [])) fl = some (.lst []) := upd_same
      have x2 := x1.trans xf
      have nfH : H fl = none := by
        cases hq : H fl with
        | none => rfl
        | some o => exact absurd (x1 _ _ hq) (by rw [nf]; exact fun z => nomatch z)
      show tSeq _ _ _ _ (upd H1 fl (.lst []))
      generalize upd H1 fl (.lst []) = H2 at xf hd2 hf2 x2
      refine ⟨ed, .dK kvs, hd2, trivial, fun od => ?_⟩
      refine ⟨_, rfl, ed, od, rfl, .inl ⟨kvs, upd_same, fun D nD => ?_⟩⟩
      have x3 : Ex H (upd H2 ed (.frz od (.dK kvs))) := Evl.Ex.mut x2 ned
      have fne : fl ≠ ed := ne_of hf2 hd2 (fun z => nomatch z)
      have hf3 : (upd H2 ed (.frz od (.dK kvs))) fl = some (.lst []) := by rw [upd_ne fne]; exact hf2
      refine lc_wk (wk_keys (d := ed) (o := od) (kvs := kvs)) (fun i H' => Ex H H' ∧ H' ed = some (.frz od (.dK kvs)) ∧ H' fl = some (.lst []) ∧ ∃ ns : List Int, H' D = some (.lst (ns.map V.int)) ∧ ns.length = i ∧ ∀ z ∈ ns, ∃ v, ((.inl z : Key), v) ∈ kvs)
        ⟨x3.trans (Evl.Ex.new nD), (Evl.Ex.new nD : Ex (upd H2 ed (.frz od (.dK kvs))) _) _ _ upd_same, (Evl.Ex.new nD : Ex (upd H2 ed (.frz od (.dK kvs))) _) _ _ hf3, [], upd_same, rfl, fun z h => by cases h⟩ (fun i H' _ p => p.2.1) ?_ ?_
      · rintro i y H4 H5 hi ⟨x4, q1, q2, ns, q3, q4, q5⟩ ⟨rfl, kk, vv, hk, rfl⟩
        obtain ⟨a, b, e⟩ := hI _ (List.mem_of_getElem? hk)
        cases e
        have nDH : H D = none := by
          cases hq : H D with
          | none => rfl
          | some o => exact absurd (x3 _ _ hq) (by rw [nD]; exact fun z => nomatch z)
        refine ⟨rfl, ?_⟩
        refine ⟨_, rfl, .inl ⟨a, rfl, ns.map V.int, q3, lt_line (by rw [List.length_map]; omega), Evl.Ex.mut x4 nDH, ?_, ?_, ns ++ [a], ?_, by simp [q4], fun z hz => ?_⟩⟩
        · rw [upd_ne (ne_of q1 q3 (fun z => nomatch z))]; exact q1
        · rw [upd_ne (ne_of_none hf3 nD)]; exact q2
        · rw [upd_same, List.map_append]; rfl
        · rcases List.mem_append.mp hz with h | h
          · exact q5 z h
          · rw [List.mem_singleton] at h
            exact ⟨_, by rw [h]; exact List.mem_of_getElem? hk⟩
      · rintro H4 ⟨x4, q1, q2, ns, q3, q4, q5⟩
        refine ⟨q1, ?_⟩
        have x5 : Ex H (upd H4 ed (.dK kvs)) := Evl.Ex.mut x4 ned
        have hf5 : (upd H4 ed (.dK kvs)) fl = some (.lst []) := by rw [upd_ne fne]; exact q2
        have hD5 : (upd H4 ed (.dK kvs)) D = some (.lst (ns.map V.int)) := by rw [upd_ne (ne_of q3 q1 (fun z => nomatch z))]; exact q3
        have hd5 : (upd H4 ed (.dK kvs)) ed = some (.dK kvs) := upd_same
        refine ⟨D, ns, rfl, SqL.of hD5, fun ns' p perm _ np => ?_⟩
        have xp := (Evl.Ex.new np : Ex (upd H4 ed (.dK kvs)) (upd (upd H4 ed (.dK kvs)) p (.lst (ns'.map V.int))))
        refine ⟨p, _, rfl, SqL.of upd_same, fun q nq => ?_⟩
        have xq := (Evl.Ex.new nq : Ex (upd (upd H4 ed (.dK kvs)) p (.lst (ns'.map V.int))) (upd (upd (upd H4 ed (.dK kvs)) p (.lst (ns'.map V.int))) q (.lst (ns'.map V.int).reverse)))
        have hq6 : (upd (upd (upd H4 ed (.dK kvs)) p (.lst (ns'.map V.int))) q (.lst (ns'.map V.int).reverse)) q = some (.lst (ns'.map V.int).reverse) := upd_same
        have xpq := xp.trans xq
        have qf : q ≠ fl := (ne_of_none (xp _ _ hf5) nq).symm
        generalize upd (upd (upd H4 ed (.dK kvs)) p (.lst (ns'.map V.int))) q (.lst (ns'.map V.int).reverse) = H6 at xpq hq6
        have hlen : (ns'.map V.int).reverse.length = kvs.length := by rw [List.length_reverse, List.length_map, perm.length_eq, q4]
        refine ⟨q, rfl, ⟨_, SqL.of hq6⟩, ?_⟩
        refine for_wk (wk_list (K := K) (a := q) (xs := (ns'.map V.int).reverse)) (fun i σ H' => Ex H H' ∧ H' q = some (.lst (ns'.map V.int).reverse) ∧ H' ed = some (.dK kvs) ∧ ∃ v2 v3 fs, σ = [some (.ref l), some (.ref ed), v2, v3, some (.ref fl), none] ∧ RowsP (FT rdV) H' fl fs ∧ fs.length ≤ i)
          ⟨x5.trans xpq, hq6, xpq _ _ hd5, v2, v3, [], rfl, RowsP.nil (xpq _ _ hf5), Nat.le_refl _⟩ (fun i σ H' _ p => SqL.of p.2.1) ?_ ?_
        · rintro i y σ H7 H8 hi ⟨x7, hq7, hd7, v2, v3, fs, rfl, hF, hFl⟩ ⟨rfl, hy⟩
          have my := List.mem_of_getElem? hy
          rw [List.mem_reverse, List.mem_map] at my
          obtain ⟨z, hz, rfl⟩ := my
          obtain ⟨v, hv⟩ := q5 z (perm.mem_iff.mp hz)
          obtain ⟨u, hu2⟩ := val_mem hv
          obtain ⟨bz, rfl⟩ := hI.val hu2
          refine ⟨_, rfl, by show 0 ≤ sizeLine; decide, fun p1 np1 => ?_⟩
          have xp1 : Ex H8 (upd H8 p1 (.lst [])) := Evl.Ex.new np1
          have hp1 : (upd H8 p1 (.lst [])) p1 = some (.lst []) := upd_same
          have hd9 := xp1 _ _ hd7
          have hq9 := xp1 _ _ hq7
          have hF9 := hF.ex xp1 (fun t x h => FT.ex xp1 t x h)
          have x9 := x7.trans xp1
          generalize upd H8 p1 (.lst []) = H9 at hp1 hd9 hq9 hF9 x9
          have dg : DGet H9 ed (.int z) (some (.int bz)) := by rw [← hu2]; exact DGet.k (k := .inl z) hd9
          obtain ⟨ts, f1, f2, f3⟩ := id hF9
          have app : ∀ (D' : Ends), (∀ σ H', (Ex H H' ∧ H' q = some (.lst (ns'.map V.int).reverse) ∧ H' ed = some (.dK kvs) ∧ ∃ v2 v3 fs, σ = [some (.ref l), some (.ref ed), v2, v3, some (.ref fl), none] ∧ RowsP (FT rdV) H' fl fs ∧ fs.length ≤ i + 1) → D'.nx σ H') →
              (tDrop (tBM K "list" rAppend (tVar 4) (tCons (tTup (tCons (tVar 2) (tCons (tDGet (tVar 1) (tVar 2)) tNil))) tNil))) D' [some (.ref l), some (.ref ed), some (.int z), v3, some (.ref fl), none] H9 := by
            intro D' hD'
            refine ⟨_, rfl, .inl ⟨rfl, _, SqL.of f1⟩, _, rfl, _, rfl, _, rfl, ed, _, rfl, dg, by show 2 ≤ sizeLine; decide, fun p2 np2 => ?_⟩
            have xp2 : Ex H9 (upd H9 p2 (.tup [.int z, .int bz])) := Evl.Ex.new np2
            obtain ⟨acc, a1, a2, a3⟩ := RowsP.snoc FT.st (hF9.ex xp2 (fun t x h => FT.ex xp2 t x h)) (p := p2) (x := (z, bz)) upd_same
            rw [hlen] at hi
            refine ⟨fl, acc, _, rfl, rfl, a1, lt_line (by rw [a2]; omega), hD' _ _ ⟨Evl.Ex.mut (x9.trans xp2) nfH, ?_, ?_, _, _, _, rfl, a3, by rw [List.length_append, List.length_singleton]; omega⟩⟩
            · rw [upd_ne qf]; exact xp2 _ _ hq9
            · rw [upd_ne fne.symm]; exact xp2 _ _ hd9
          refine ⟨fl, p1, _, rfl, rfl, SqL.of f1, SqL.of hp1, _, rfl, ?_⟩
          rcases List.eq_nil_or_concat fs with rfl | ⟨fs', x, rfl⟩
          · have ets : ts = [] := List.length_eq_zero_iff.mp f2
            subst ets
            exact iteT (iteT (app _ fun σ H' z => z))
          · rw [List.concat_eq_append] at *
            have ne0 : (ts.map V.ref).isEmpty = false := by
              cases ts with
              | nil => rw [List.length_append] at f2; cases f2
              | cons a b => rfl
            have el : ∃ t, atI (ts.map V.ref) (-1) = some (.ref t) ∧ H9 t = some (.tup [.int x.1, .int x.2]) := by
              rcases List.eq_nil_or_concat ts with rfl | ⟨ts', t, rfl⟩
              · rw [List.length_append] at f2; cases f2
              · rw [List.concat_eq_append] at *
                rw [List.length_append, List.length_append] at f2
                have f2' : ts'.length = fs'.length := Nat.succ.inj f2
                refine ⟨t, by rw [List.map_append]; exact atI_last _ _, f3 ts'.length t x ?_ ?_⟩
                · rw [List.getElem?_append_right (Nat.le_refl _), Nat.sub_self]; rfl
                · rw [f2', List.getElem?_append_right (Nat.le_refl _), Nat.sub_self]; rfl
            obtain ⟨t, el1, el2⟩ := el
            show (if (ts.map V.ref).isEmpty = true then _ else _)
            rw [ne0]
            refine iteF ⟨_, rfl, _, rfl, ed, _, rfl, dg, _, rfl, 1, rfl, fl, _, _, _, rfl, rfl, SqL.of f1, el1, t, _, _, _, rfl, rfl, SqT.of el2, rfl, _, _, rfl, rfl, _, rfl, ?_⟩
            cases decide (bz < x.2) with
            | true => exact iteT (app _ fun σ H' z => z)
            | false => exact iteF ⟨x9, hq9, hd9, _, _, _, rfl, hF9, Nat.le_succ_of_le hFl⟩
        · rintro σ H7 ⟨x7, hq7, hd7, v2, v3, fs, rfl, hF, hFl⟩
          obtain ⟨ts, f1, f2, f3⟩ := id hF
          refine ⟨_, rfl, fl, _, rfl, SqL.of f1, fun q' nq' => ⟨q', _, rfl, .inl ⟨SqL.of upd_same, fun t nt => k t _ (x7.trans ((Evl.Ex.new nq').trans (Evl.Ex.new nt)))⟩⟩⟩
end
end K35

/-! Link, Timetable, rides_by, timetable_of. -/
namespace K35
open PySem PySem.Spec PyProof.Rows L2
def Exp (p : Addr) (H H' : Hp) : Prop := ∀ b o, H b = some o → b ≠ p → H' b = some o
def spLinkInit (K : PySem.W.Frag) : Sp := fun vs H Q _ => ∃ (p l dx : Addr) (rs : List (Int × Int)), vs = [.ref p, .ref l] ∧ H p = some (.ins (He.ga K "Link") dx []) ∧ RidesL H l rs ∧ rs.length < 60 ∧
  ∀ fs H', Exp p H H' → H' p = some (.ins (He.ga K "Link") dx fs) → Q .non H'
def LinkD (K : PySem.W.Frag) (H : Hp) (kvs : List (Key × V)) : Prop := ∀ kv ∈ kvs, ∃ c a dx fs, kv = (.inr (chr c), .ref a) ∧ 97 ≤ c ∧ c ≤ 100 ∧ H a = some (.ins (He.ga K "Link") dx fs)
def spTableInit (K : PySem.W.Frag) : Sp := fun vs H Q _ => ∃ (p d dx : Addr) (kvs : List (Key × V)), vs = [.ref p, .ref d] ∧ H p = some (.ins (He.ga K "Timetable") dx []) ∧ H d = some (.dK kvs) ∧ kvs ≠ [] ∧ kvs.length ≤ 100 ∧ LinkD K H kvs ∧
  ∀ H', Exp p H H' → Q .non H'
section
variable {P : Program} {w : World} {K : PySem.W.Frag} {mg : Str → Option Value} {base : Heap}
abbrev N_Link_init : List Str := ["self", "rides", "at", "ride"]
theorem sc_Link_init : FnScope N_Link_init ["self", "rides"] (defScope s_Link_init) := ⟨rfl, rfl, rfl, by decide +kernel, rfl, by decide +kernel, by decide +kernel⟩
theorem k_Link (T : Tx K mg) : C8.Mak P w K mg base 3 "Link" (He.ga K "Link") (spLinkInit K) [] :=
  mkMak T fn_Link_init rfl rfl rfl T.mkr_Link T.mg_Link sc_Link_init (fun _ _ _ _ _ _ us hl => match us, hl with | [_, _], _ => rfl) (fun vs H Q E h => by obtain ⟨p, l, dx, rs, rfl, _⟩ := h; rfl) fun f cdv A outer s0 H vs Q E hr h => by
    obtain ⟨p, l, dx, rs, rfl, hp, hR, hl, k⟩ := h
    refine ⟨_, (pss_cons (ps_if (pt_not (pt_val (pe_callB call_isiT (by rfl) T.f_isinstance (by decide +kernel) (pa_cons (pv 1) (pa_cons (pe_tup (pa_cons (pe_bltn (v := .ty "list") (by rfl) T.f_list (by decide +kernel) rfl) (pa_cons (pe_bltn (v := .ty "tuple") (by rfl) T.f_tuple (by decide +kernel) rfl) pa_nil))) pa_nil))))) (pss_one ps_never) pss_nil)
      (pss_cons (ps_for PassesOwn.never rfl (pi_enum (by rfl) T.f_enumerate (pa_cons (pv 1) pa_nil)) (pg_tup rfl (pgs_cons (pg_name (i := 2) sc_Link_init.nd rfl (Or.inl rfl)) (pgs_cons (pg_name (i := 3) sc_Link_init.nd rfl (Or.inl rfl)) pgs_nil))) (pss_one (ps_if (PW.pt (pw_or (pt_cmpR op_eq (pv 2) (C8.pe_gc rfl T.i_MOST_RIDES) (nomark _)) (pw_or1 (pt_not (pt_val (C8.pe_c (c_is_ride T) hr (by decide) (by rfl) (pa_cons (pv 3) pa_nil))))))) (pss_one ps_never) pss_nil)))
      (pss_one (ps_fld (pv 0) (C8.pe_c (c_needed T) hr (by decide) (by rfl) (pa_cons (pv 1) pa_nil)) rfl)))), ?_⟩
    obtain ⟨hR1, hR2⟩ := hR
    obtain ⟨tr, r1, r2, r3⟩ := id hR1
    refine ⟨_, rfl, by show 2 ≤ sizeLine; decide, fun p1 n1 => ?_⟩
    have x1 : Ex H (upd H p1 (.tup [.ty "list", .ty "tuple"])) := Evl.Ex.new n1
    refine ⟨_, p1, _, _, _, _, rfl, upd_same, .cons (.ty _) (.cons (.ty _) .nil), .base (.lst (x1 _ _ r1)), kit_llt K, _, rfl, ?_⟩
    refine iteF ?_
    generalize upd H p1 (.tup [.ty "list", .ty "tuple"]) = H1 at x1
    refine ⟨_, rfl, l, _, rfl, SqL.of (x1 _ _ r1), ?_⟩
    refine for_wk (wk_enum (K := K) (a := l) (xs := tr.map V.ref)) (fun i σ H' => Ex H H' ∧ ∃ v2 v3, σ = [some (.ref p), some (.ref l), v2, v3]) ⟨x1, none, none, rfl⟩ (fun i σ H' _ p => SqL.of (p.1 _ _ r1)) ?_ ?_
    · rintro i y σ H2 H3 hi ⟨x2, v2, v3, rfl⟩ ⟨E1, xx, rfl, nE, rfl, hy⟩
      rw [List.getElem?_map] at hy
      obtain ⟨t, ht, rfl⟩ := Option.map_eq_some_iff.mp hy
      obtain ⟨r, hr0⟩ : ∃ r, rs[i]? = some r := ⟨rs[i]'(by rw [← r2]; exact (List.getElem?_eq_some_iff.mp ht).1), List.getElem?_eq_getElem _⟩
      have xE : Ex H2 (upd H2 E1 (.tup [iV i, .ref t])) := Evl.Ex.new nE
      have ht1 := xE _ _ (x2 _ _ (r3 i t r ht hr0))
      rw [List.length_map] at hi
      refine ⟨E1, _, rfl, SqT.of upd_same, rfl, _, _, rfl, _, _, rfl, rfl, ?_⟩
      refine ⟨_, rfl, rfl, _, rfl, ?_⟩
      have d : decide (iV i = V.int 60) = false := decide_eq_false fun z => by
        have := V.int.inj z
        omega
      show (if decide (iV i = V.int 60) = true then _ else _)
      rw [d]
      refine iteF ⟨_, rfl, t, r.1, r.2, rfl, ht1, _, rfl, ?_⟩
      rw [decide_eq_true (hR2 r (List.mem_of_getElem? hr0))]
      exact iteF ⟨x2.trans xE, _, _, rfl⟩
    · rintro σ H2 ⟨x2, v2, v3, rfl⟩
      have hR3 : RidesL H2 l rs := ⟨hR1.ex x2 (fun t x h => FT.ex x2 t x h), hR2⟩
      refine ⟨_, rfl, l, rs, rfl, hR3, by omega, fun t H3 x3 => ?_⟩
      refine ⟨_, rfl, p, _, dx, _, rfl, (x2.trans x3) _ _ hp, T.cls_Link, T.no_own_rides, by decide, ?_⟩
      exact k _ _ (fun b o h hb => by rw [upd_ne hb]; exact (x2.trans x3) b o h) upd_same
abbrev N_Timetable_init : List Str := ["self", "links", "letter"]
theorem sc_Timetable_init : FnScope N_Timetable_init ["self", "links"] (defScope s_Timetable_init) := ⟨rfl, rfl, rfl, by decide +kernel, rfl, by decide +kernel, by decide +kernel⟩
theorem k_Timetable (T : Tx K mg) : C8.Mak P w K mg base 1 "Timetable" (He.ga K "Timetable") (spTableInit K) [] :=
  mkMak T fn_Timetable_init rfl rfl rfl T.mkr_Timetable T.mg_Timetable sc_Timetable_init (fun _ _ _ _ _ _ us hl => match us, hl with | [_, _], _ => rfl) (fun vs H Q E h => by obtain ⟨p, d, dx, kvs, rfl, _⟩ := h; rfl) fun f cdv A outer s0 H vs Q E hr h => by
    obtain ⟨p, d, dx, kvs, rfl, hp, hd, hne, hl, hL, k⟩ := h
    have hu := hu_of hr
    refine ⟨_, (pss_cons (ps_if (PW.pt (pw_or (pt_not (pt_val (pe_callB (call_isiK (K := K) rfl) (by rfl) T.f_isinstance (by decide +kernel) (pa_cons (pv 1) (pa_cons (pe_bltn (v := .ty "dict") (by rfl) T.f_dict (by decide +kernel) rfl) pa_nil))))) (pw_or1 (pt_cmpR (op_eqDNil (hu64 hr)) (pv 1) pe_dnewK (nomark _))))) (pss_one ps_never) pss_nil)
      (pss_cons (ps_if (pt_not (pt_val (pe_callB (cr_all rfl) (by rfl) T.f_all (by decide +kernel) (pa_cons (pe_lock (pe_lc (own := [("letter", 2)]) (g := gName 2) rfl sc_Timetable_init.nd (pi_keys (pv 1)) (blkOk_by (own := [("letter", 2)]) (N := N_Timetable_init) (sc := defScope s_Timetable_init) (by decide +kernel)) (fun _ _ _ _ _ => (pg_name (i := 2) sc_Timetable_init.nd rfl (Or.inl rfl))) (fun _ _ _ _ _ => pts_nil) (fun _ _ _ _ _ => (pe_and (pe_callB (call_isiK (K := K) rfl) (by rfl) T.f_isinstance (by decide +kernel) (pa_cons (pv 2) (pa_cons (pe_bltn (v := .ty "str") (by rfl) T.f_str (by decide +kernel) rfl) pa_nil))) (pe_and (pe_cmpR op_eq (pe_callB call_len_str (by rfl) T.f_len (by decide +kernel) (pa_cons (pv 2) pa_nil)) pe_int (nomark _)) (pe_one (pe_cmpR op_in_sign (pv 2) (C8.pe_gc rfl T.s_LINKS) rfl))))))) pa_nil)))) (pss_one ps_never) pss_nil)
      (pss_cons (ps_if (pt_not (pt_val (pe_callB (cr_all rfl) (by rfl) T.f_all (by decide +kernel) (pa_cons (pe_lock (pe_lc (own := [("letter", 2)]) (g := gName 2) rfl sc_Timetable_init.nd (pi_keys (pv 1)) (blkOk_by (own := [("letter", 2)]) (N := N_Timetable_init) (sc := defScope s_Timetable_init) (by decide +kernel)) (fun _ _ _ _ _ => (pg_name (i := 2) sc_Timetable_init.nd rfl (Or.inl rfl))) (fun _ _ _ _ _ => pts_nil) (fun _ _ _ _ _ => (pe_callB (call_isiK (K := K) rfl) (by rfl) T.f_isinstance (by decide +kernel) (pa_cons (pe_dget hu (pv 1) (pv 2) (fun _ _ => rfl)) (pa_cons (pe_glob (x := "Link") (v := V.ref (He.ga K "Link")) rfl T.mg_Link rfl) pa_nil)))))) pa_nil)))) (pss_one ps_never) pss_nil)
      (pss_one (ps_fld (pv 0) (pe_dc (own := [("letter", 2)]) (g := gName 2) rfl sc_Timetable_init.nd (pi_str (C8.pe_gc rfl T.s_LINKS)) (blkOk_by (own := [("letter", 2)]) (N := N_Timetable_init) (sc := defScope s_Timetable_init) (by decide +kernel)) (fun _ _ _ _ _ => (pg_name (i := 2) sc_Timetable_init.nd rfl (Or.inl rfl))) (fun _ _ _ _ _ => (pts_one (pt_cmp (pc_din hu (pv 2) (pv 1))))) (fun _ _ _ _ _ => (pv 2)) (fun _ _ _ _ _ => (pe_dget hu (pv 1) (pv 2) (fun _ _ => rfl)))) rfl))))), ?_⟩
    refine ⟨_, rfl, _, _, _, _, _, rfl, .ty _, .base (.dK hd), kit_dd K, _, rfl, ?_⟩
    refine iteF ⟨_, rfl, fun p1 n1 => ⟨d, p1, kvs, rfl, rfl, (Evl.Ex.new n1 : Ex H _) _ _ hd, upd_same, hne, _, rfl, iteF ?_⟩⟩
    have x1 : Ex H (upd H p1 (.dK [])) := Evl.Ex.new n1
    generalize upd H p1 (.dK []) = H1 at x1
    have hd1 := x1 _ _ hd
    have hp1 := x1 _ _ hp
    have hL1 : LinkD K H1 kvs := fun kv h => by
      obtain ⟨c, a, dx, fs, e, h1, h2, h3⟩ := hL kv h
      exact ⟨c, a, dx, fs, e, h1, h2, x1 _ _ h3⟩
    refine ⟨d, .dK kvs, hd1, trivial, fun od => ?_⟩
    refine ⟨_, rfl, d, od, rfl, .inl ⟨kvs, upd_same, fun D nD => ?_⟩⟩
    have z1 : Exp d H1 (upd H1 d (.frz od (.dK kvs))) := fun b o h hb => by rw [upd_ne hb]; exact h
    have nD1 : H1 D = none := by
      have e : D ≠ d := fun q => by rw [q, upd_same] at nD; cases nD
      rw [upd_ne e] at nD
      exact nD
    have cN : ∀ c, 97 ≤ c → c ≤ 100 → decide (c ∈ ("abcd" : Str).cps.toList) = true := fun c h1 h2 => by
      obtain h | h | h | h : c = 97 ∨ c = 98 ∨ c = 99 ∨ c = 100 := by omega
      all_goals (subst h; decide +kernel)
    refine lc_wk (wk_keys (d := d) (o := od) (kvs := kvs)) (fun i H' => Exp d H1 H' ∧ H' d = some (.frz od (.dK kvs)) ∧ H' D = some (.lst ((List.replicate i true).map V.bl)))
      ⟨fun b o h hb => (Evl.Ex.new nD : Ex (upd H1 d (.frz od (.dK kvs))) _) _ _ (z1 b o h hb), (Evl.Ex.new nD : Ex (upd H1 d (.frz od (.dK kvs))) _) _ _ upd_same, upd_same⟩ (fun i H' _ p => p.2.1) ?_ ?_
    · rintro i y H4 H5 hi ⟨x4, q1, q2⟩ ⟨rfl, kk, vv, hk, rfl⟩
      obtain ⟨c, a, dx', fs, e, c1, c2, ha⟩ := hL1 _ (List.mem_of_getElem? hk)
      cases e
      refine ⟨rfl, ?_⟩
      refine ⟨_, rfl, _, _, _, _, _, rfl, .ty _, .base (.str _), kit_ss K, _, rfl, iteT ?_⟩
      refine ⟨_, rfl, _, rfl, (by show 1 ≤ sizeLine; decide), rfl, _, rfl, iteT ?_⟩
      refine ⟨_, rfl, c, _, rfl, rfl, _, q2, lt_line (by rw [List.length_map, List.length_replicate]; omega), fun b o h hb => ?_, ?_, ?_⟩
      · rw [upd_ne (ne_of_none h nD1)]
        exact x4 b o h hb
      · rw [upd_ne (ne_of q1 q2 (fun z => nomatch z))]; exact q1
      · rw [upd_same]
        show some (HO.lst (_ ++ [V.bl (decide (c ∈ ("abcd" : Str).cps.toList))])) = _
        rw [cN c c1 c2, List.replicate_succ', List.map_append]
        rfl
    rintro H4 ⟨x4, q1, q2⟩
    refine ⟨q1, ?_⟩
    have eD : D ≠ d := ne_of q2 q1 (fun z => nomatch z)
    have hD5 : (upd H4 d (.dK kvs)) D = some (.lst ((List.replicate kvs.length true).map V.bl)) := by rw [upd_ne eD]; exact q2
    have x5 : Ex H1 (upd H4 d (.dK kvs)) := fun b o h => by
      by_cases e : b = d
      · rw [e] at h ⊢
        rw [hd1] at h
        cases h
        exact upd_same
      · rw [upd_ne e]; exact x4 b o h e
    have al : ∀ n, (List.replicate n true).all id = true := fun n => by simp
    refine ⟨D, List.replicate kvs.length true, rfl, SqL.of hD5, _, rfl, ?_⟩
    rw [al]
    refine iteF ?_
    generalize upd H4 d (.dK kvs) = H5 at x5
    have hd5 := x5 _ _ hd1
    have hp5 := x5 _ _ hp1
    have hL5 : LinkD K H5 kvs := fun kv h => by
      obtain ⟨c, a, dx, fs, e, h1, h2, h3⟩ := hL1 kv h
      exact ⟨c, a, dx, fs, e, h1, h2, x5 _ _ h3⟩
    refine ⟨d, .dK kvs, hd5, trivial, fun od2 => ?_⟩
    refine ⟨_, rfl, d, od2, rfl, .inl ⟨kvs, upd_same, fun D2 nD2 => ?_⟩⟩
    have z5 : Exp d H5 (upd H5 d (.frz od2 (.dK kvs))) := fun b o h hb => by rw [upd_ne hb]; exact h
    have nD3 : H5 D2 = none := by
      have e : D2 ≠ d := fun q => by rw [q, upd_same] at nD2; cases nD2
      rw [upd_ne e] at nD2
      exact nD2
    refine lc_wk (wk_keys (d := d) (o := od2) (kvs := kvs)) (fun i H' => Exp d H5 H' ∧ H' d = some (.frz od2 (.dK kvs)) ∧ H' D2 = some (.lst ((List.replicate i true).map V.bl)))
      ⟨fun b o h hb => (Evl.Ex.new nD2 : Ex (upd H5 d (.frz od2 (.dK kvs))) _) _ _ (z5 b o h hb), (Evl.Ex.new nD2 : Ex (upd H5 d (.frz od2 (.dK kvs))) _) _ _ upd_same, upd_same⟩ (fun i H' _ p => p.2.1) ?_ ?_
    · rintro i y H6 H7 hi ⟨x6, q1, q2⟩ ⟨rfl, kk, vv, hk, rfl⟩
      obtain ⟨u, hu2⟩ := val_mem (List.mem_of_getElem? hk)
      have mu : (kk, u) ∈ kvs := by
        unfold valV at hu2
        obtain ⟨kv, h1, h2⟩ := Option.map_eq_some_iff.mp hu2
        have h3 := List.mem_of_find?_eq_some h1
        have h4 : kv.1 = kk := of_decide_eq_true (List.find?_some (p := fun kv : Key × V => decide (kv.1 = kk)) h1)
        obtain ⟨k0, v0⟩ := kv
        cases h2
        cases h4
        exact h3
      obtain ⟨c, a, dx', fs, e, c1, c2, ha⟩ := hL5 _ mu
      cases e
      have ha6 : H7 a = some (.ins (He.ga K "Link") dx' fs) := x6 _ _ ha (ne_of ha hd5 (fun z => nomatch z))
      have ic := T.ins_Link
      refine ⟨rfl, ?_⟩
      refine ⟨_, rfl, _, rfl, d, _, rfl, .inl ⟨kvs, .inr (chr c), .inr ⟨od2, q1⟩, rfl, hu2.symm⟩, _, _, _, _, _, rfl, .own _, .base (.ins ha6 ic.cl ic.ha ic.hn ic.htk ic.hm), ic.me, _, q2, lt_line (by rw [List.length_map, List.length_replicate]; omega), fun b o h hb => ?_, ?_, ?_⟩
      · rw [upd_ne (ne_of_none h nD3)]
        exact x6 b o h hb
      · rw [upd_ne (ne_of q1 q2 (fun z => nomatch z))]; exact q1
      · rw [upd_same, List.replicate_succ', List.map_append]
        rfl
    rintro H6 ⟨x6, q1', q2'⟩
    refine ⟨q1', ?_⟩
    have eD2 : D2 ≠ d := ne_of q2' q1' (fun z => nomatch z)
    have hD7 : (upd H6 d (.dK kvs)) D2 = some (.lst ((List.replicate kvs.length true).map V.bl)) := by rw [upd_ne eD2]; exact q2'
    have x7 : Ex H5 (upd H6 d (.dK kvs)) := fun b o h => by
      by_cases e : b = d
      · rw [e] at h ⊢
        rw [hd5] at h
        cases h
        exact upd_same
      · rw [upd_ne e]; exact x6 b o h e
    refine ⟨D2, List.replicate kvs.length true, rfl, SqL.of hD7, _, rfl, ?_⟩
    rw [al]
    refine iteF ?_
    generalize upd H6 d (.dK kvs) = H7 at x7
    have hd7 := x7 _ _ hd5
    have hp7 := x7 _ _ hp5
    refine ⟨_, rfl, fun D3 nD3 => ?_⟩
    refine dc_wk (wk_str (z := ("abcd" : Str))) (fun i H' => Ex H7 H' ∧ ∃ ks, H' D3 = some (.dK ks) ∧ ks.length ≤ i) ⟨Evl.Ex.new nD3, [], upd_same, Nat.le_refl _⟩ (fun _ _ _ _ => trivial) ?_ ?_
    · rintro i y H8 H9 hi ⟨x8, ks, hk, hkl⟩ ⟨rfl, c, hc, rfl⟩
      have hd8 := x8 _ _ hd7
      have hi4 : i < 4 := hi
      refine ⟨rfl, ?_⟩
      refine ⟨_, rfl, _, rfl, d, _, rfl, DGet.k (k := .inr (chr c)) hd8, _, rfl, ?_⟩
      cases hv : valV kvs (.inr (chr c)) with
      | none => exact iteF ⟨x8, ks, hk, Nat.le_succ_of_le hkl⟩
      | some v => exact iteT ⟨_, rfl, _, rfl, _, rfl, d, v, rfl, by rw [← hv]; exact DGet.k (k := .inr (chr c)) hd8, ks, .inr (chr c), rfl, hk, lt_line (by omega), Evl.Ex.mut x8 nD3, _, upd_same, Nat.le_trans (length_putK _ _ _) (Nat.succ_le_succ hkl)⟩
    · rintro H8 ⟨x8, ks, hk, hkl⟩
      refine ⟨_, rfl, p, _, dx, _, rfl, x8 _ _ hp7, T.cls_Timetable, T.no_own_links, by decide, ?_⟩
      exact k _ fun b o h hb => by
        rw [upd_ne hb]
        exact x8 _ _ (x7 _ _ (x5 _ _ (x1 _ _ h)))
end
end K35

/-! rides_by, timetable_of. -/
namespace K35
open PySem PySem.Spec PyProof.Rows L2
/-- a letter's rides -/
structure Ltr where
  c : Nat
  l : Addr
  r : List (Int × Int)
def ltV (g : List Ltr) : List (Key × V) := g.map fun x => (.inr (chr x.c), .ref x.l)
structure RidesD (H : Hp) (d : Addr) (g : List Ltr) : Prop where
  h : H d = some (.dK (ltV g))
  nd : (g.map Ltr.c).Nodup
  ok : ∀ x ∈ g, 97 ≤ x.c ∧ x.c ≤ 100 ∧ RidesL H x.l x.r
  df : (g.map Ltr.l).Nodup
def tot (g : List Ltr) : Nat := (g.map fun x => x.r.length).sum
def spRidesBy : Sp := fun vs H Q _ => ∃ (l nl : Addr) (L : List Tl) (N : List Nat), vs = [.ref l, .ref nl] ∧ LAt H l L ∧ WFL L ∧ L.length ≤ 30 ∧ H nl = some (.lst (nV N)) ∧ N.length = L.length ∧
  (∀ k c i, L[k]? = some (.st c i) → if isF c = true then N.getD i 0 ≤ N.getD k 0 else N.getD k 0 ≤ N.getD i 0) ∧
  ∀ d g H', Ex H H' → RidesD H' d g → tot g = stepsK L L.length → Q (.ref d) H'
theorem RidesL.ex {H H' : Hp} {l : Addr} {r : List (Int × Int)} (e : Ex H H') (h : RidesL H l r) : RidesL H' l r := ⟨h.1.ex e (FT.ex e), h.2⟩
theorem RidesL.oth {H : Hp} {l q : Addr} {r : List (Int × Int)} {ys zs : List V} (hl : l ≠ q) (hq : H q = some (.lst ys)) (h : RidesL H l r) : RidesL (upd H q (.lst zs)) l r := ⟨h.1.oth hl (fun t x g => FT.st _ _ t x hq g), h.2⟩
theorem RidesL.dk {H : Hp} {l d : Addr} {r : List (Int × Int)} {u o : HO} (hd : H d = some u) (n1 : ∀ ys, u ≠ .lst ys) (n2 : ∀ ys, u ≠ .tup ys) (h : RidesL H l r) : RidesL (upd H d o) l r := by
  obtain ⟨ts, h1, _⟩ := id h.1
  refine ⟨h.1.oth (ne_of h1 hd (fun z => n1 _ z.symm)) (fun t x g => ?_), h.2⟩
  show (upd H d o) t = _
  rw [upd_ne (ne_of g hd (fun z => n2 _ z.symm))]
  exact g
theorem RidesL.snoc {H : Hp} {l p : Addr} {r : List (Int × Int)} {a b : Int} (h : RidesL H l r) (hp : H p = some (.tup [.int a, .int b])) (hab : a ≤ b) : ∃ acc, H l = some (.lst acc) ∧ acc.length = r.length ∧ RidesL (upd H l (.lst (acc ++ [V.ref p]))) l (r ++ [(a, b)]) := by
  obtain ⟨acc, a1, a2, a3⟩ := RowsP.snoc FT.st h.1 (p := p) (x := (a, b)) hp
  refine ⟨acc, a1, a2, a3, fun q hq => ?_⟩
  rcases List.mem_append.mp hq with hh | hh
  · exact h.2 q hh
  · rw [List.mem_singleton] at hh
    rw [hh]
    exact hab
theorem ltV_keys (g : List Ltr) : (ltV g).map (·.1) = (g.map Ltr.c).map fun c => (Sum.inr (chr c) : Key) := by
  unfold ltV
  rw [List.map_map, List.map_map]
  rfl
theorem chr_inj {a b : Nat} (h : (Sum.inr (chr a) : Key) = .inr (chr b)) : a = b := by
  have := Sum.inr.inj h
  have := congrArg Str.cps this
  simpa [chr] using this
theorem ltV_nd {g : List Ltr} (h : (g.map Ltr.c).Nodup) : ((ltV g).map (·.1)).Nodup := by
  rw [ltV_keys]
  exact List.Pairwise.map _ (fun a b hab e => hab (chr_inj e)) h
theorem ltV_val {g : List Ltr} (h : (g.map Ltr.c).Nodup) {x : Ltr} (hx : x ∈ g) : valV (ltV g) (.inr (chr x.c)) = some (.ref x.l) :=
  val_nodup (ltV_nd h) (.inr (chr x.c), .ref x.l) (List.mem_map.mpr ⟨x, hx, rfl⟩)
theorem ltV_none {g : List Ltr} {c : Nat} (h : valV (ltV g) (.inr (chr c)) = none) : ∀ x ∈ g, x.c ≠ c := fun x hx e => by
  obtain ⟨u, hu⟩ := val_mem (kvs := ltV g) (k := .inr (chr c)) (v := .ref x.l) (List.mem_map.mpr ⟨x, hx, by rw [e]⟩)
  rw [hu] at h
  cases h
theorem ltV_some {g : List Ltr} {c : Nat} {v : V} (h : valV (ltV g) (.inr (chr c)) = some v) : ∃ x ∈ g, x.c = c := by
  unfold valV at h
  obtain ⟨kv, h1, h2⟩ := Option.map_eq_some_iff.mp h
  have h3 := List.mem_of_find?_eq_some h1
  have h4 : kv.1 = .inr (chr c) := of_decide_eq_true (List.find?_some (p := fun kv : Key × V => decide (kv.1 = .inr (chr c))) h1)
  obtain ⟨x, hx, e⟩ := List.mem_map.mp h3
  exact ⟨x, hx, chr_inj (by rw [← h4, ← e])⟩
/-- a ride put to a letter that is there -/
theorem RidesD.app {H : Hp} {d p : Addr} {g : List Ltr} {x : Ltr} {a b : Int} (D : RidesD H d g) (hx : x ∈ g) (hp : H p = some (.tup [.int a, .int b])) (hab : a ≤ b) :
    ∃ acc g', H x.l = some (.lst acc) ∧ acc.length = x.r.length ∧ x.r.length ≤ tot g ∧ RidesD (upd H x.l (.lst (acc ++ [V.ref p]))) d g' ∧ tot g' = tot g + 1 ∧ g'.map Ltr.l = g.map Ltr.l := by
  obtain ⟨g1, g2, rfl⟩ := List.append_of_mem hx
  obtain ⟨acc, a1, a2, a3⟩ := (D.ok x hx).2.2.snoc hp hab
  have nd := D.df
  rw [List.map_append, List.map_cons, List.nodup_append] at nd
  obtain ⟨_, n2, n3⟩ := nd
  have n2 := (List.nodup_cons.mp n2).1
  refine ⟨acc, g1 ++ { x with r := x.r ++ [(a, b)] } :: g2, a1, a2, ?_, ⟨?_, ?_, ?_, ?_⟩, ?_, ?_⟩
  · unfold tot
    simp only [List.map_append, List.map_cons, List.sum_append, List.sum_cons]
    omega
  · rw [upd_ne (ne_of D.h a1 (fun z => nomatch z)), D.h]
    unfold ltV
    simp only [List.map_append, List.map_cons]
  · have := D.nd
    simp only [List.map_append, List.map_cons] at this ⊢
    exact this
  · intro y hy
    rcases List.mem_append.mp hy with h | h
    · obtain ⟨q1, q2, q3⟩ := D.ok y (List.mem_append_left _ h)
      exact ⟨q1, q2, q3.oth (fun e => n3 y.l (List.mem_map_of_mem h) x.l (List.mem_cons_self) e) a1⟩
    · rcases List.mem_cons.mp h with h | h
      · rw [h]
        obtain ⟨q1, q2, _⟩ := D.ok x hx
        exact ⟨q1, q2, a3⟩
      · obtain ⟨q1, q2, q3⟩ := D.ok y (List.mem_append_right _ (List.mem_cons_of_mem _ h))
        exact ⟨q1, q2, q3.oth (fun e => n2 (by rw [← e]; exact List.mem_map_of_mem h)) a1⟩
  · have := D.df
    simp only [List.map_append, List.map_cons] at this ⊢
    exact this
  · unfold tot
    simp only [List.map_append, List.map_cons, List.sum_append, List.sum_cons, List.length_append, List.length_singleton]
    omega
  · simp only [List.map_append, List.map_cons]
theorem RidesD.four {H : Hp} {d : Addr} {g : List Ltr} (D : RidesD H d g) : g.length ≤ 4 := by
  have h1 : (g.map Ltr.c).length ≤ ([97, 98, 99, 100] : List Nat).length := D.nd.length_le_of_subset fun c hc => by
    obtain ⟨x, hx, rfl⟩ := List.mem_map.mp hc
    have b1 := (D.ok x hx).1
    have b2 := (D.ok x hx).2.1
    obtain h | h | h | h : x.c = 97 ∨ x.c = 98 ∨ x.c = 99 ∨ x.c = 100 := by omega
    all_goals (rw [h]; decide)
  rw [List.length_map] at h1
  exact h1
theorem RidesL.cat {H : Hp} {a b q : Addr} {r1 r2 : List (Int × Int)} {xs ys : List V} (h1 : RidesL H a r1) (h2 : RidesL H b r2) (e1 : H a = some (.lst xs)) (e2 : H b = some (.lst ys)) (nq : H q = none) : RidesL (upd H q (.lst (xs ++ ys))) q (r1 ++ r2) := by
  obtain ⟨⟨ts, t1, t2, t3⟩, h1'⟩ := h1
  obtain ⟨⟨us, u1, u2, u3⟩, h2'⟩ := h2
  rw [t1] at e1
  rw [u1] at e2
  cases e1
  cases e2
  have x : Ex H (upd H q (.lst (ts.map V.ref ++ us.map V.ref))) := Evl.Ex.new nq
  refine ⟨⟨ts ++ us, by rw [upd_same, List.map_append], by rw [List.length_append, List.length_append, t2, u2], fun i t p h g => ?_⟩, fun p hp => ?_⟩
  · rcases Nat.lt_or_ge i ts.length with hi | hi
    · rw [List.getElem?_append_left hi] at h
      rw [List.getElem?_append_left (by omega)] at g
      exact x _ _ (t3 i t p h g)
    · rw [List.getElem?_append_right hi] at h
      rw [List.getElem?_append_right (by omega), ← t2] at g
      exact x _ _ (u3 _ t p h g)
  · rcases List.mem_append.mp hp with h | h
    · exact h1' p h
    · exact h2' p h
theorem LinkD.mv {K : PySem.W.Frag} {H H' : Hp} {ks : List (Key × V)} (hk : ∀ a C dx fs, H a = some (.ins C dx fs) → H' a = some (.ins C dx fs)) (h : LinkD K H ks) : LinkD K H' ks := fun kv hkv => by
  obtain ⟨c, a, dx, fs, e, h1, h2, h3⟩ := h kv hkv
  exact ⟨c, a, dx, fs, e, h1, h2, hk _ _ _ _ h3⟩
theorem LinkD.put {K : PySem.W.Frag} {H : Hp} {ks : List (Key × V)} (h : LinkD K H ks) {c : Nat} {a dx : Addr} {fs : List (Str × V)} (c1 : 97 ≤ c) (c2 : c ≤ 100) (ha : H a = some (.ins (He.ga K "Link") dx fs)) : LinkD K H (putK ks (.inr (chr c)) (.ref a)) := by
  intro kv hkv
  unfold putK at hkv
  split at hkv
  · obtain ⟨e, he, q⟩ := List.mem_map.mp hkv
    split at q
    · rename_i ee
      exact ⟨c, a, dx, fs, by rw [← q, ee], c1, c2, ha⟩
    · rw [← q]
      exact h e he
  · rcases List.mem_append.mp hkv with hh | hh
    · exact h kv hh
    · rw [List.mem_singleton] at hh
      exact ⟨c, a, dx, fs, hh, c1, c2, ha⟩
theorem putK_ne {κ : Type} [DecidableEq κ] {kvs : List (κ × V)} {k : κ} {v : V} : putK kvs k v ≠ [] := by
  unfold putK
  split
  · rename_i h
    cases kvs with
    | nil => cases h
    | cons a b => exact fun z => by cases z
  · exact fun z => by
      have := congrArg List.length z
      simp at this
theorem RidesL.exp {H H' : Hp} {q l : Addr} {r : List (Int × Int)} {u : HO} (e : Exp q H H') (hq : H q = some u) (n1 : ∀ ys, u ≠ .lst ys) (n2 : ∀ ys, u ≠ .tup ys) (h : RidesL H l r) : RidesL H' l r := by
  obtain ⟨⟨ts, t1, t2, t3⟩, h'⟩ := h
  exact ⟨⟨ts, e _ _ t1 (ne_of t1 hq (fun z => n1 _ z.symm)), t2, fun i t x a b => e _ _ (t3 i t x a b) (ne_of (t3 i t x a b) hq (fun z => n2 _ z.symm))⟩, h'⟩
theorem RidesL.mv {H H' : Hp} {l : Addr} {r : List (Int × Int)} (e1 : ∀ b ys, H b = some (.lst ys) → H' b = some (.lst ys)) (e2 : ∀ b ys, H b = some (.tup ys) → H' b = some (.tup ys)) (h : RidesL H l r) : RidesL H' l r := by
  obtain ⟨⟨ts, t1, t2, t3⟩, h'⟩ := h
  exact ⟨⟨ts, e1 _ _ t1, t2, fun i t x a b => e2 _ _ (t3 i t x a b)⟩, h'⟩
theorem RidesD.ex {H H' : Hp} {d : Addr} {g : List Ltr} (e : Ex H H') (D : RidesD H d g) : RidesD H' d g := ⟨e _ _ D.h, D.nd, fun x hx => ⟨(D.ok x hx).1, (D.ok x hx).2.1, (D.ok x hx).2.2.ex e⟩, D.df⟩
def spTable (K : PySem.W.Frag) : Sp := fun vs H Q _ => ∃ (l nl d : Addr) (slow : Nat → Nat → Bool) (L : List Tl) (N : List Nat), vs = [.ref l, .ref nl, .ref d] ∧ LAt H l L ∧ WFL L ∧ L.length ≤ 30 ∧ H nl = some (.lst (nV N)) ∧ N.length = L.length ∧
  (∀ k c i, L[k]? = some (.st c i) → if isF c = true then N.getD i 0 ≤ N.getD k 0 else N.getD k 0 ≤ N.getD i 0) ∧ SlowAt slow H d ∧ 1 ≤ stepsK L L.length ∧ ∀ v H', Ex H H' → Q v H'
section
variable {P : Program} {w : World} {K : PySem.W.Frag} {mg : Str → Option Value} {base : Heap}
abbrev N_rides_by : List Str := ["listed", "numbers", "found", "k", "told", "ride"]
theorem sc_rides_by : FnScope N_rides_by ["listed", "numbers"] (defScope s_rides_by) := ⟨rfl, rfl, rfl, by decide +kernel, rfl, by decide +kernel, by decide +kernel⟩
theorem c_rides_by (T : Tx K mg) : C8.Cal P w K mg base 1 "rides_by" spRidesBy [] :=
  mkCal T fn_rides_by rfl rfl rfl T.mg_rides_by sc_rides_by (fun _ _ _ _ _ _ us hl => match us, hl with | [_, _], _ => rfl) (fun vs H Q E h => by obtain ⟨l, nl, L, N, rfl, _⟩ := h; rfl) fun f cdv A outer s0 H vs Q E hr h => by
    obtain ⟨l, nl, L, N, rfl, hL, wl, hn, hN, hNl, hst, k⟩ := h
    refine ⟨_, (pss_cons (ps_set (i := 2) sc_rides_by.nd rfl (Or.inl rfl) pe_dnewK)
      (pss_cons (ps_for PassesOwn.never rfl (pi_enum (by rfl) T.f_enumerate (pa_cons (pv 0) pa_nil)) (pg_tup rfl (pgs_cons (pg_name (i := 3) sc_rides_by.nd rfl (Or.inl rfl)) (pgs_cons (pg_name (i := 4) sc_rides_by.nd rfl (Or.inl rfl)) pgs_nil))) (pss_one (ps_if (pt_cmpR op_eq (pe_ix (ix_tupK (K := K) rfl) (pv 4) pe_int (fun _ _ => rfl)) pe_str (nomark _)) (pss_cons (ps_set (i := 5) sc_rides_by.nd rfl (Or.inl rfl) (pe_tup (pa_cons (pe_ix (ix_listK (K := K) rfl) (pv 1) (pe_ix (ix_tupK (K := K) rfl) (pv 4) pe_int (fun _ _ => rfl)) (fun _ _ => rfl)) (pa_cons (pe_ix (ix_listK (K := K) rfl) (pv 1) (pv 3) (fun _ _ => rfl)) pa_nil))))
          (pss_one (ps_expr (pe_bm PySem.F.plainAttrs_list PySem.F.slot_list_append PySem.F.type_list_append mt_append (pe_dsetd (pv 2) (pe_lower (pe_ix (ix_tupK (K := K) rfl) (pv 4) pe_int (fun _ _ => rfl))) (pe_lst pa_nil) ⟨rfl, by rfl, rfl, rfl⟩) (pa_cons (pe_ifExp (pt_val (pe_bm0 PySem.F.plainAttrs_str PySem.F.slot_str_islower PySem.F.type_str_islower mt_islower (pe_ix (ix_tupK (K := K) rfl) (pv 4) pe_int (fun _ _ => rfl)))) (pv 5) (pe_revT (K := K) rfl (pv 5))) pa_nil))))) pss_nil)))
      (pss_one (ps_ret (pv 2))))), ?_⟩
    intro d nd
    obtain ⟨tl, l1, l2, l3⟩ := id hL
    have xd : Ex H (upd H d (.dK [])) := Evl.Ex.new nd
    refine ⟨_, rfl, l, _, rfl, SqL.of (xd _ _ l1), ?_⟩
    refine for_wk (wk_enum (K := K) (a := l) (xs := tl.map V.ref)) (fun i σ H' => Ex H H' ∧ ∃ v3 v4 v5 g, σ = [some (.ref l), some (.ref nl), some (.ref d), v3, v4, v5] ∧ RidesD H' d g ∧ tot g = stepsK L i ∧ ∀ x ∈ g, H x.l = none)
      ⟨xd, none, none, none, [], rfl, ⟨upd_same, .nil, (fun x h => by cases h), .nil⟩, rfl, fun x h => by cases h⟩ (fun i σ H' _ p => SqL.of (p.1 _ _ l1)) ?_ ?_
    · rintro i y σ H1 H2 hi ⟨x1, v3, v4, v5, g, rfl, D, hg, hf⟩ ⟨E1, xx, rfl, nE, rfl, hy⟩
      rw [List.getElem?_map] at hy
      obtain ⟨t, ht, rfl⟩ := Option.map_eq_some_iff.mp hy
      obtain ⟨tv, htv⟩ : ∃ r, L[i]? = some r := ⟨L[i]'(by rw [← l2]; exact (List.getElem?_eq_some_iff.mp ht).1), List.getElem?_eq_getElem _⟩
      have xE : Ex H1 (upd H1 E1 (.tup [iV i, .ref t])) := Evl.Ex.new nE
      have ht1 := xE _ _ (x1 _ _ (l3 i t tv ht htv))
      have D2 := D.ex xE
      have x2 := x1.trans xE
      rw [List.length_map] at hi
      have nx : stepsK L (i + 1) = stepsK L i + (if isSt tv = true then 1 else 0) := by
        unfold stepsK
        rw [List.take_add_one, htv, List.countP_append]
        simp
      have htot : tot g ≤ 1000 := by
        rw [hg]
        exact Nat.le_trans (List.countP_le_length) (by rw [List.length_take]; omega)
      refine ⟨E1, _, rfl, SqT.of upd_same, rfl, _, _, rfl, _, _, rfl, rfl, ?_⟩
      generalize upd H1 E1 (.tup [iV i, .ref t]) = H2 at xE ht1 D2 x2
      cases tv with
      | beg =>
        refine ⟨_, rfl, t, _, _, _, rfl, rfl, SqT.of ht1, rfl, rfl, _, rfl, ?_⟩
        show (if decide (V.str "begin" = V.str "step") = true then _ else _)
        rw [show decide (V.str "begin" = V.str "step") = false from by decide +kernel]
        exact iteF ⟨x2, _, _, _, g, rfl, D2, by rw [nx]; exact hg, hf⟩
      | lat a b =>
        refine ⟨_, rfl, t, _, _, _, rfl, rfl, SqT.of ht1, rfl, rfl, _, rfl, ?_⟩
        show (if decide (V.str "later" = V.str "step") = true then _ else _)
        rw [show decide (V.str "later" = V.str "step") = false from by decide +kernel]
        exact iteF ⟨x2, _, _, _, g, rfl, D2, by rw [nx]; exact hg, hf⟩
      | son a b =>
        refine ⟨_, rfl, t, _, _, _, rfl, rfl, SqT.of ht1, rfl, rfl, _, rfl, ?_⟩
        show (if decide (V.str "sooner" = V.str "step") = true then _ else _)
        rw [show decide (V.str "sooner" = V.str "step") = false from by decide +kernel]
        exact iteF ⟨x2, _, _, _, g, rfl, D2, by rw [nx]; exact hg, hf⟩
      | st c j =>
        have okst := wl.ok _ _ htv
        have okc' := okst.1
        have hji := okst.2
        have hin : i < L.length := by omega
        refine ⟨_, rfl, t, _, _, _, rfl, rfl, SqT.of ht1, rfl, rfl, _, rfl, ?_⟩
        show (if decide (V.str "step" = V.str "step") = true then _ else _)
        rw [show decide (V.str "step" = V.str "step") = true from by decide +kernel]
        refine iteT ?_
        have hN2 := x2 _ _ hN
        refine ⟨_, rfl, _, rfl, t, _, _, _, rfl, rfl, SqT.of ht1, rfl, nl, _, _, _, rfl, rfl, SqL.of hN2, atI_nat (nV_at (by omega)), _, rfl, _, rfl, nl, _, _, _, rfl, rfl, SqL.of hN2, atI_nat (nV_at (by omega)), by show 2 ≤ sizeLine; decide, fun p np => ?_⟩
        have xp : Ex H2 (upd H2 p (.tup [iV (N.getD j 0), iV (N.getD i 0)])) := Evl.Ex.new np
        have hp : (upd H2 p (.tup [iV (N.getD j 0), iV (N.getD i 0)])) p = some (.tup [iV (N.getD j 0), iV (N.getD i 0)]) := upd_same
        have ht3 := xp _ _ ht1
        have D3 := D2.ex xp
        have x3 := x2.trans xp
        generalize upd H2 p (.tup [iV (N.getD j 0), iV (N.getD i 0)]) = H3 at xp hp ht3 D3 x3 ⊢
        have fin : ∀ (v : V) (Hq : Hp) (Kf : L2.St → Hp → Prop), (∀ σ H', (Ex H H' ∧ ∃ v3 v4 v5 g, σ = [some (.ref l), some (.ref nl), some (.ref d), v3, v4, v5] ∧ RidesD H' d g ∧ tot g = stepsK L (i + 1) ∧ ∀ x ∈ g, H x.l = none) → Kf σ H') →
            Ex H Hq → Hq t = some (.tup (tlV (.st c j))) → Hq p = some (.tup [iV (N.getD j 0), iV (N.getD i 0)]) → (∃ g1 x, v = .ref x.l ∧ x ∈ g1 ∧ RidesD Hq d g1 ∧ tot g1 = tot g ∧ ∀ x ∈ g1, H x.l = none) →
            (tyV K "list" v Hq ∧ (tCons (tIf (tB (tBM0 K "str" (fun x xs H Q => ∃ a, x = V.str a ∧ xs = [] ∧ True ∧ Q (V.bl (Txt.islower a)) H) (tOp (rIxT K) (tVar 4) (tC (V.int 1))))) (tVar 5) (tRevT K (tVar 5))) tNil)
              [some (.ref l), some (.ref nl), some (.ref d), some (iV i), some (.ref t), some (.ref p)] Hq fun xs H2 => rAppend v xs H2 fun _ H1 => Kf [some (.ref l), some (.ref nl), some (.ref d), some (iV i), some (.ref t), some (.ref p)] H1) := by
          intro v Hq Kf hK xq htq hpq ⟨g1, x, ev, hx, Dq, ht1, hfr⟩
          subst ev
          obtain ⟨ts, a1, _⟩ := id (Dq.ok x hx).2.2.1
          have done : ∀ (Hr : Hp) (q : Addr) (a b : Int), Ex Hq Hr → Hr q = some (.tup [.int a, .int b]) → a ≤ b → rAppend (.ref x.l) [.ref q] Hr fun _ H1 => Kf [some (.ref l), some (.ref nl), some (.ref d), some (iV i), some (.ref t), some (.ref p)] H1 := by
            intro Hr q a b xr hq hab
            obtain ⟨acc, g', b1, b2, b3, b4, b5, b6⟩ := (Dq.ex xr).app hx hq hab
            refine ⟨x.l, acc, _, rfl, rfl, b1, lt_line (by omega), hK _ _ ⟨Evl.Ex.mut (xq.trans xr) (hfr x hx), _, _, _, g', rfl, b4, by rw [b5, ht1, hg, nx]; rfl, fun y hy => ?_⟩⟩
            have : y.l ∈ g'.map Ltr.l := List.mem_map_of_mem hy
            rw [b6] at this
            obtain ⟨y', hy', e⟩ := List.mem_map.mp this
            rw [← e]
            exact hfr y' hy'
          refine ⟨.inl ⟨rfl, _, SqL.of a1⟩, ?_⟩
          refine ⟨_, rfl, t, _, _, _, rfl, rfl, SqT.of htq, rfl, rfl, _, rfl, rfl, trivial, _, rfl, ?_⟩
          rw [islow_chr okc']
          have hs := hst i c j htv
          cases fc : isF c with
          | true =>
            rw [fc] at hs
            exact iteT ⟨_, rfl, done Hq p _ _ (.refl _) hpq (Int.ofNat_le.mpr hs)⟩
          | false =>
            rw [fc] at hs
            exact iteF ⟨_, rfl, p, _, _, rfl, SqT.of hpq, fun q nq => done _ q _ _ (Evl.Ex.new nq) upd_same (Int.ofNat_le.mpr hs)⟩
        have hlen : (ltV g).length < sizeLine := lt_line (by have := D.four; unfold ltV; rw [List.length_map]; omega)
        refine ⟨_, rfl, d, rfl, .inl ⟨_, .inl D3.h⟩, _, rfl, t, _, _, _, rfl, rfl, SqT.of ht3, rfl, ⟨_, rfl⟩, _, rfl, rfl, (by show 1 ≤ 5592405; decide), by show 0 ≤ sizeLine; decide, fun z nz => ?_⟩
        have xz : Ex H3 (upd H3 z (.lst [])) := Evl.Ex.new nz
        have D4 := D3.ex xz
        have hz : (upd H3 z (.lst [])) z = some (.lst []) := upd_same
        have x4 := x3.trans xz
        have ht4 := xz _ _ ht3
        have hp4 := xz _ _ hp
        have nzg : ∀ x ∈ g, x.l ≠ z := fun x hx => by
          obtain ⟨_, a1, _⟩ := (D3.ok x hx).2.2.1
          exact ne_of_none a1 nz
        refine ⟨ltV g, .inr (chr (lo c)), D4.h, by rw [low_chr okc']; rfl, hlen, fun v hv => ?_, fun hv => ?_⟩
        · obtain ⟨x, hx, ex⟩ := ltV_some hv
          have := ltV_val D4.nd hx
          rw [ex, hv] at this
          exact fin v _ _ (fun σ H' z => z) x4 ht4 hp4 ⟨g, x, Option.some.inj this, hx, D4, rfl, hf⟩
        · have hno := ltV_none hv
          have e1 : putK (ltV g) (.inr (chr (lo c))) (.ref z) = ltV (g ++ [⟨lo c, z, []⟩]) := by
            rw [putK_new _ hv]
            unfold ltV
            rw [List.map_append]
            rfl
          rw [e1]
          have nHz : H z = none := by
            cases hq : H z with
            | none => rfl
            | some o => exact absurd (x3 _ _ hq) (by rw [nz]; exact fun z => nomatch z)
          have dz : d ≠ z := ne_of_none D3.h nz
          have lb := lo_bd okc'
          refine fin _ _ _ (fun σ H' z => z) (Evl.Ex.mut x4 nd) (by rw [upd_ne (ne_of ht4 D4.h (fun z => nomatch z))]; exact ht4) (by rw [upd_ne (ne_of hp4 D4.h (fun z => nomatch z))]; exact hp4) ⟨g ++ [⟨lo c, z, []⟩], ⟨lo c, z, []⟩, rfl, List.mem_append_right _ (List.mem_singleton.mpr rfl), ⟨upd_same, ?_, fun y hy => ?_, ?_⟩, ?_, fun y hy => ?_⟩
          · rw [List.map_append, List.nodup_append]
            refine ⟨D4.nd, by simp, fun a ha b hb => ?_⟩
            obtain ⟨x, hx, rfl⟩ := List.mem_map.mp ha
            simp at hb
            rw [hb]
            exact hno x hx
          · rcases List.mem_append.mp hy with h | h
            · obtain ⟨q1, q2, q3⟩ := D4.ok y h
              exact ⟨q1, q2, q3.dk D4.h (fun _ z => nomatch z) (fun _ z => nomatch z)⟩
            · rw [List.mem_singleton] at h
              rw [h]
              exact ⟨lb.1, lb.2, RowsP.nil (by rw [upd_ne dz.symm]; exact hz), fun p hp => by cases hp⟩
          · rw [List.map_append, List.nodup_append]
            refine ⟨D4.df, by simp, fun a ha b hb => ?_⟩
            obtain ⟨x, hx, rfl⟩ := List.mem_map.mp ha
            simp at hb
            rw [hb]
            exact nzg x hx
          · unfold tot
            simp
          · rcases List.mem_append.mp hy with h | h
            · exact hf y h
            · rw [List.mem_singleton] at h
              rw [h]
              exact nHz
    · rintro σ H1 ⟨x1, v3, v4, v5, g, rfl, D, hg, hf⟩
      rw [List.length_map, l2] at hg
      exact ⟨_, rfl, k d g H1 x1 D hg⟩
abbrev N_timetable_of : List Str := ["listed", "numbers", "slower", "rides", "links", "letter", "told", "other"]
theorem sc_timetable_of : FnScope N_timetable_of ["listed", "numbers", "slower"] (defScope s_timetable_of) := ⟨rfl, rfl, rfl, by decide +kernel, rfl, by decide +kernel, by decide +kernel⟩
theorem c_timetable_of (T : Tx K mg) : C8.Cal P w K mg base 5 "timetable_of" (spTable K) [] :=
  mkCal T fn_timetable_of rfl rfl rfl T.mg_timetable_of sc_timetable_of (fun _ _ _ _ _ _ us hl => match us, hl with | [_, _, _], _ => rfl) (fun vs H Q E h => by obtain ⟨l, nl, d, slow, L, N, rfl, _⟩ := h; rfl) fun f cdv A outer s0 H vs Q E hr h => by
    obtain ⟨l, nl, d, slow, L, N, rfl, hL, wl, hn, hN, hNl, hst, hs, hk1, k⟩ := h
    have hu := hu_of hr
    refine ⟨_, (pss_cons (ps_par (i := 3) (j := 4) (by rfl) sc_timetable_of.nd rfl rfl (by decide) rfl rfl (pa_cons (C8.pe_c (c_rides_by T) hr (by decide) (by rfl) (pa_cons (pv 0) (pa_cons (pv 1) pa_nil))) (pa_cons pe_dnewK pa_nil)) (by rfl))
      (pss_cons (ps_lock (ps_for PassesOwn.never rfl (pi_keys (pv 3)) (pg_name (i := 5) sc_timetable_of.nd rfl (Or.inl rfl)) (pss_cons (ps_set (i := 6) sc_timetable_of.nd rfl (Or.inl rfl) (pe_lst pa_nil))
        (pss_cons (ps_for PassesOwn.never rfl (pi_keys (pv 3)) (pg_name (i := 7) sc_timetable_of.nd rfl (Or.inl rfl)) (pss_one (ps_if (pt_cmp (pc_din hu (pe_tup (pa_cons (pv 5) (pa_cons (pv 7) pa_nil))) (pv 2))) (pss_one (ps_set (i := 6) sc_timetable_of.nd rfl (Or.inl rfl) (pe_op op_cat (pv 6) (pe_dget hu (pv 3) (pv 7) (fun _ _ => rfl))))) pss_nil)))
        (pss_one (ps_dput hu (pv 4) (pv 5) (C8.pe_mk (k_Link T) hr (by decide) (by rfl) (pa_cons (pv 6) pa_nil)) rfl))))))
      (pss_one (ps_ret (C8.pe_mk (k_Timetable T) hr (by decide) (by rfl) (pa_cons (pv 4) pa_nil)))))), ?_⟩
    refine ⟨_, rfl, _, rfl, l, nl, L, N, rfl, hL, wl, hn, hN, hNl, hst, fun rd g H1 x1 D tg => fun ld nld => ⟨_, _, rfl, ?_⟩⟩
    have xl : Ex H1 (upd H1 ld (.dK [])) := Evl.Ex.new nld
    have hld : (upd H1 ld (.dK [])) ld = some (.dK []) := upd_same
    have D1 := D.ex xl
    have x2 := x1.trans xl
    have nldH : H ld = none := by
      cases hq : H ld with
      | none => rfl
      | some o => exact absurd (x1 _ _ hq) (by rw [nld]; exact fun z => nomatch z)
    show tSeq _ _ _ _ (upd H1 ld (.dK []))
    have rl : rd ≠ ld := ne_of_none D.h nld
    generalize upd H1 ld (.dK []) = H2 at xl hld D1 x2
    have gt : ∀ x ∈ g, x.r.length ≤ tot g := fun x hx => by
      obtain ⟨g1, g2, rfl⟩ := List.append_of_mem hx
      unfold tot
      simp only [List.map_append, List.map_cons, List.sum_append, List.sum_cons]
      omega
    have tg30 : tot g ≤ 30 := by
      rw [tg]
      exact Nat.le_trans (List.countP_le_length) (by rw [List.length_take]; omega)
    have hs2 := hs.ex x2
    obtain ⟨es, he1, he2⟩ := hs2
    refine ⟨rd, .dK (ltV g), D1.h, trivial, fun od => ?_⟩
    refine ⟨_, rfl, rd, od, rfl, .inl ⟨ltV g, upd_same, ?_⟩⟩
    have sg : (ltV g).length = g.length := by unfold ltV; rw [List.length_map]
    refine for_wk (wk_keys (d := rd) (o := od) (kvs := ltV g)) (fun i σ H' => Ex H (upd H' rd (.dK (ltV g))) ∧ (∀ b o, H2 b = some o → b ≠ rd → b ≠ ld → H' b = some o) ∧ H' rd = some (.frz od (.dK (ltV g))) ∧ ∃ v5 v6 v7 ks, σ = [some (.ref l), some (.ref nl), some (.ref d), some (.ref rd), some (.ref ld), v5, v6, v7] ∧ H' ld = some (.dK ks) ∧ LinkD K H' ks ∧ ks.length ≤ i ∧ (0 < i → ks ≠ []))
      ⟨?_, fun b o h h1 h2 => by rw [upd_ne h1]; exact h, upd_same, none, none, none, [], rfl, by rw [upd_ne rl.symm]; exact hld, (fun kv h => by cases h), Nat.le_refl _, fun h => absurd h (Nat.not_lt_zero _)⟩ (fun i σ H' _ p => p.2.2.1) ?_ ?_
    · intro b o h
      by_cases e : b = rd
      · rw [e] at h ⊢
        have := x2 _ _ h
        rw [D1.h] at this
        rw [upd_same]
        exact this
      · rw [upd_ne e, upd_ne e]
        exact x2 _ _ h
    · rintro i y σ H3 H4 hi ⟨y3, z3, f3, v5, v6, v7, ks, rfl, hks, hLk, hkl, _⟩ ⟨rfl, kk, vv, hkk, rfl⟩
      have hg : ∃ x, g[i]? = some x ∧ (kk, vv) = (.inr (chr x.c), .ref x.l) := by
        unfold ltV at hkk
        rw [List.getElem?_map] at hkk
        obtain ⟨x, h1, h2⟩ := Option.map_eq_some_iff.mp hkk
        exact ⟨x, h1, h2.symm⟩
      obtain ⟨x, hxg, e⟩ := hg
      cases e
      have hxm := List.mem_of_getElem? hxg
      obtain ⟨cx1, cx2, _⟩ := D1.ok x hxm
      refine ⟨by show 0 ≤ sizeLine; decide, fun tl nt => ?_⟩
      have xt : Ex H4 (upd H4 tl (.lst [])) := Evl.Ex.new nt
      have R0 : ∀ x ∈ g, RidesL H4 x.l x.r := fun x hx => (D1.ok x hx).2.2.mv (fun b ys h => z3 _ _ h (ne_of h D1.h (fun z => nomatch z)) (ne_of h hld (fun z => nomatch z))) (fun b ys h => z3 _ _ h (ne_of h D1.h (fun z => nomatch z)) (ne_of h hld (fun z => nomatch z)))
      have he4 : H4 d = some (.dT es) := z3 _ _ he1 (ne_of he1 D1.h (fun z => nomatch z)) (ne_of he1 hld (fun z => nomatch z))
      refine ⟨_, rfl, rd, od, rfl, .inl ⟨ltV g, xt _ _ f3, ?_⟩⟩
      refine for_wk (wk_keys (d := rd) (o := od) (kvs := ltV g)) (fun j σ H' => Ex H4 H' ∧ ∃ v7 tl rs, σ = [some (.ref l), some (.ref nl), some (.ref d), some (.ref rd), some (.ref ld), some (.str (chr x.c)), some (.ref tl), v7] ∧ RidesL H' tl rs ∧ rs.length ≤ tot (g.take j))
        ⟨xt, v7, tl, [], rfl, ⟨RowsP.nil upd_same, fun p hp => by cases hp⟩, Nat.zero_le _⟩ (fun i σ H' _ p => p.1 _ _ f3) ?_ ?_
      · rintro j y σ H5 H6 hj ⟨x5, v7, tl, rs, rfl, hR, hRl⟩ ⟨rfl, k2, v2, hk2, rfl⟩
        have hg : ∃ x, g[j]? = some x ∧ (k2, v2) = (.inr (chr x.c), .ref x.l) := by
          unfold ltV at hk2
          rw [List.getElem?_map] at hk2
          obtain ⟨x, h1, h2⟩ := Option.map_eq_some_iff.mp hk2
          exact ⟨x, h1, h2.symm⟩
        obtain ⟨x', hxg', e⟩ := hg
        cases e
        have hxm' := List.mem_of_getElem? hxg'
        obtain ⟨dx1, dx2, _⟩ := D1.ok x' hxm'
        have nx : tot (g.take (j + 1)) = tot (g.take j) + x'.r.length := by
          unfold tot
          rw [List.take_add_one, hxg', List.map_append, List.sum_append]
          simp
        refine ⟨_, rfl, _, rfl, by show 2 ≤ sizeLine; decide, fun p np => ?_⟩
        have xp : Ex H6 (upd H6 p (.tup ((sk x.c x'.c).map kV))) := Evl.Ex.new np
        have x6 := x5.trans xp
        refine ⟨_, rfl, d, _, rfl, .inr ⟨es, sk x.c x'.c, p, .inl (x6 _ _ he4), rfl, upd_same, rfl⟩, _, rfl, ?_⟩
        have hR6 := hR.ex xp
        cases (valV es (sk x.c x'.c)).isSome with
        | false => exact iteF ⟨x6, _, _, _, rfl, hR6, by omega⟩
        | true =>
          obtain ⟨xs, q1, _⟩ := id hR6.1
          have hx6 := (R0 x' hxm').ex x6
          obtain ⟨ys, q2, q2', _⟩ := id hx6.1
          obtain ⟨xs', q1', q1'', _⟩ := id hR6.1
          have gl := gt x' hxm'
          have tk : tot (g.take (j + 1)) ≤ tot g := by
            conv => rhs; rw [← List.take_append_drop (j + 1) g]
            unfold tot
            rw [List.map_append, List.sum_append]
            omega
          refine iteT ⟨_, rfl, _, rfl, _, rfl, rd, .ref x'.l, rfl, .inl ⟨ltV g, .inr (chr x'.c), .inr ⟨od, x6 _ _ f3⟩, rfl, (ltV_val D.nd hxm').symm⟩, tl, x'.l, _, _, rfl, rfl, q1', q2, Nat.le_of_lt (lt_line (by rw [List.length_map, List.length_map, q1'', q2']; omega)), fun q nq => ?_⟩
          exact ⟨x6.trans (Evl.Ex.new nq), _, q, rs ++ x'.r, rfl, hR6.cat hx6 q1' q2 nq, by rw [nx, List.length_append]; omega⟩
      · rintro σ H5 ⟨x5, v7, tl, rs, rfl, hR, hRl⟩
        rw [sg, List.take_length] at hRl
        refine ⟨_, rfl, ?_⟩
        intro p dx np ndx ne
        have e3 : Ex H5 (upd (upd H5 dx (.own p)) p (.ins (He.ga K "Link") dx [])) := fun b o h => by
          rw [upd_ne (ne_of_none h np), upd_ne (ne_of_none h ndx)]
          exact h
        refine ⟨p, tl, dx, rs, rfl, upd_same, hR.ex e3, by omega, fun fs H6 x6 hp6 => ⟨rfl, ?_⟩⟩
        have x56 : Ex H5 H6 := fun b o h => x6 _ _ (e3 _ _ h) (ne_of_none h np)
        have x46 := x5.trans x56
        have hks6 := x46 _ _ hks
        have f6 := x46 _ _ f3
        rw [sg] at hi
        refine ⟨_, rfl, _, rfl, ld, _, rfl, .inl ⟨ks, .inr (chr x.c), hks6, rfl, lt_line (by have := D.four; omega), rfl⟩, ?_, fun b o h h1 h2 => ?_, ?_, _, _, _, _, rfl, upd_same, ?_, Nat.le_trans (length_putK _ _ _) (Nat.succ_le_succ hkl), fun _ => putK_ne⟩
        · intro b o h
          have hb := y3 b o h
          by_cases e : b = rd
          · rw [e] at hb ⊢
            rw [upd_same] at hb ⊢
            exact hb
          · rw [upd_ne e] at hb ⊢
            rw [upd_ne (fun q => by rw [q, nldH] at h; cases h)]
            exact x46 _ _ hb
        · rw [upd_ne h2]
          exact x46 _ _ (z3 b o h h1 h2)
        · rw [upd_ne rl]
          exact f6
        · exact LinkD.put ((hLk.mv fun a C dx fs h => x46 _ _ h).mv fun a C dx fs h => by rw [upd_ne (ne_of h hks6 (fun z => nomatch z))]; exact h) cx1 cx2 (by rw [upd_ne (ne_of hp6 hks6 (fun z => nomatch z))]; exact hp6)
    · rintro σ H3 ⟨y3, z3, f3, v5, v6, v7, ks, rfl, hks, hLk, hkl, hne⟩
      refine ⟨f3, ?_⟩
      refine ⟨_, rfl, ?_⟩
      intro p dx np ndx ne
      have hks' : (upd H3 rd (.dK (ltV g))) ld = some (.dK ks) := by rw [upd_ne rl.symm]; exact hks
      have e3 : Ex (upd H3 rd (.dK (ltV g))) (upd (upd (upd H3 rd (.dK (ltV g))) dx (.own p)) p (.ins (He.ga K "Timetable") dx [])) := fun b o h => by
        rw [upd_ne (ne_of_none h np), upd_ne (ne_of_none h ndx)]
        exact h
      have hgl : 0 < (ltV g).length := by
        rw [sg]
        cases g with
        | nil => rw [← tg] at hk1; exact absurd hk1 (by decide)
        | cons a b => exact Nat.succ_pos _
      have hLk' : LinkD K (upd H3 rd (.dK (ltV g))) ks := hLk.mv fun a C dx fs h => by
        rw [upd_ne (ne_of h f3 (fun z => nomatch z))]; exact h
      have h4 := D.four
      refine ⟨p, ld, dx, ks, rfl, upd_same, e3 _ _ hks', hne hgl, by omega, hLk'.mv (fun a C dx fs h => e3 _ _ h), fun H4 x4 => ⟨rfl, k _ _ fun b o h => x4 _ _ (e3 _ _ (y3 _ _ h)) (ne_of_none (y3 _ _ h) np)⟩⟩
end
end K35

/-! is_row, has_shape, steps_in, is_plan, need_plan, is_fact, need_facts. -/
namespace K35
open PySem PySem.Spec PyProof.Rows L2
/-- a list or a tuple, walked -/
def iBoth (K : PySem.W.Frag) (tl : TE) : TI := fun σ H R => tl σ H fun x H1 => ∃ a, x = .ref a ∧ ((∃ xs, SqL K H1 a xs) ∧ R (Itl K a) H1 ∨ (∃ xs, SqT K H1 a xs) ∧ R (Itt K a) H1)
theorem pi_both {X : Cx} {K : PySem.W.Frag} (hK : X.K = K) {tg l : Expr} {tl : TE} (hl : PE X l tl) : PI X tg l (iBoth K tl) := by
  subst hK
  refine ⟨fun pins s σ H R I h => ?_⟩
  refine thn (hl.run pins s σ H _ I h) fun v s1 ⟨x, H1, I1, r1, q1⟩ => ?_
  obtain ⟨a, e, q⟩ := q1
  subst e
  cases r1
  rcases q with ⟨⟨xs, hq⟩, q⟩ | ⟨⟨xs, hq⟩, q⟩
  · obtain ⟨its, rv, p, hz⟩ := I1.list hq
    refine wpAny_pyIter_list p.isList ?_
    refine ⟨s1.heap.objs.size, [s1.heap.objs.size], _, _, H1, rfl, I1.kept (t' := s1.toks) fun b o e => Heap.get?_push_of_some _ e, turn_list a _, ⟨_, Heap.get?_push_size _ rfl, rfl, rfl⟩, fun b hb => ?_, q⟩
    have e : b = s1.heap.objs.size := by simpa using hb
    subst e
    exact I1.fpOk (Nat.le_refl _) (I1.hok.fresh (Nat.le_refl _))
  · obtain ⟨its, rv, p, hz⟩ := I1.tuple hq
    refine wpAny_pyIter_tuple (show s1.heap.IsTuple a its.toArray from p) ?_
    refine ⟨s1.heap.objs.size, [s1.heap.objs.size], _, _, H1, rfl, I1.kept (t' := s1.toks) fun b o e => Heap.get?_push_of_some _ e, turn_tuple a _, ⟨_, Heap.get?_push_size _ rfl, rfl, rfl⟩, fun b hb => ?_, q⟩
    have e : b = s1.heap.objs.size := by simpa using hb
    subst e
    exact I1.fpOk (Nat.le_refl _) (I1.hok.fresh (Nat.le_refl _))
theorem wk_tup {K : PySem.W.Frag} {a : Addr} {xs : List V} : Wk (Itt K a) xs.length (fun H => SqT K H a xs) fun i x H H' => H' = H ∧ xs[i]? = some x :=
  ⟨fun i H hi h => ⟨xs, xs[i], h, List.getElem?_eq_getElem hi⟩, fun H h => ⟨xs, h, Nat.le_refl _⟩, fun i H x H' _ h q => ⟨q.1, q.2 xs h⟩⟩
def rowS (r : List Nat) : Str := ⟨r.toArray⟩
/-- a plan in the heap -/
def PlAt (H : Hp) : V → Pl → Prop
  | v, .row r => v = .str (rowS r)
  | v, .thn p q => ∃ t a b, v = .ref t ∧ H t = some (.tup [.str "then", a, b]) ∧ PlAt H a p ∧ PlAt H b q
  | v, .lat p q => ∃ t a b, v = .ref t ∧ H t = some (.tup [.str "later", a, b]) ∧ PlAt H a p ∧ PlAt H b q
  | v, .son p q => ∃ t a b, v = .ref t ∧ H t = some (.tup [.str "sooner", a, b]) ∧ PlAt H a p ∧ PlAt H b q
theorem PlAt.mv {H H' : Hp} (hk : ∀ t vs, H t = some (.tup vs) → H' t = some (.tup vs)) : ∀ {p : Pl} {v : V}, PlAt H v p → PlAt H' v p
  | .row r, v, h => h
  | .thn p q, v, ⟨t, a, b, e, h, h1, h2⟩ => ⟨t, a, b, e, hk _ _ h, PlAt.mv hk h1, PlAt.mv hk h2⟩
  | .lat p q, v, ⟨t, a, b, e, h, h1, h2⟩ => ⟨t, a, b, e, hk _ _ h, PlAt.mv hk h1, PlAt.mv hk h2⟩
  | .son p q, v, ⟨t, a, b, e, h, h1, h2⟩ => ⟨t, a, b, e, hk _ _ h, PlAt.mv hk h1, PlAt.mv hk h2⟩
theorem PlAt.ex {H H' : Hp} {p : Pl} {v : V} (e : Ex H H') (h : PlAt H v p) : PlAt H' v p := h.mv fun t vs q => e _ _ q
def dep : Pl → Nat
  | .row _ => 1
  | .thn p q => 1 + max (dep p) (dep q)
  | .lat p q => 1 + max (dep p) (dep q)
  | .son p q => 1 + max (dep p) (dep q)
def stp : Pl → List Nat
  | .row r => r
  | .thn p q => stp p ++ stp q
  | .lat p q => stp p ++ stp q
  | .son p q => stp p ++ stp q
def sz : Pl → Nat
  | .row r => r.length
  | .thn p q => sz p + sz q
  | .lat p q => sz p + sz q + 1
  | .son p q => sz p + sz q + 1
def ROk : Pl → Prop
  | .row r => r.length ≤ 8 ∧ ∀ c ∈ r, okc c
  | .thn p q => ROk p ∧ ROk q
  | .lat p q => ROk p ∧ ROk q
  | .son p q => ROk p ∧ ROk q
/-- a plan that need_plan takes -/
structure POk (p : Pl) : Prop where
  d : dep p ≤ 4
  r : ROk p
  s : (stp p).length ≤ 10
theorem dep_pos (p : Pl) : 1 ≤ dep p := by cases p <;> (unfold dep; omega)
def spIsRow : Sp := fun vs H Q _ => ∃ r : List Nat, vs = [.str (rowS r)] ∧ r.length ≤ 60 ∧ (∀ c ∈ r, okc c) ∧ ∀ H', Ex H H' → Q (.bl true) H'
def spShape (n : Nat) : Sp := fun vs H Q _ => ∃ (v : V) (p : Pl), vs = [v, iV n] ∧ PlAt H v p ∧ dep p ≤ n ∧ ROk p ∧ ∀ H', Ex H H' → Q (.bl true) H'
def spStepsIn (n : Nat) : Sp := fun vs H Q _ => ∃ (v : V) (p : Pl), vs = [v] ∧ PlAt H v p ∧ dep p ≤ n ∧ (stp p).length ≤ 1000 ∧ ∀ H', Ex H H' → Q (.str (rowS (stp p))) H'
def spIsPlan : Sp := fun vs H Q _ => ∃ (v : V) (p : Pl), vs = [v] ∧ PlAt H v p ∧ POk p ∧ ∀ H', Ex H H' → Q (.bl true) H'
def spNeedPlan : Sp := fun vs H Q _ => ∃ (v : V) (p : Pl), vs = [v] ∧ PlAt H v p ∧ POk p ∧ ∀ H', Ex H H' → Q .non H'
/-- facts in the heap: a list, or the empty tuple -/
def FcAt (K : PySem.W.Frag) (H : Hp) (v : V) (fs : List (Nat × Nat)) : Prop := ∃ (a : Addr) (ts : List Addr), v = .ref a ∧ (H a = some (.lst (ts.map V.ref)) ∨ (ts = [] ∧ SqT K H a [])) ∧ ts.length = fs.length ∧
  ∀ (i : Nat) (t : Addr) (x : Nat × Nat), ts[i]? = some t → fs[i]? = some x → H t = some (.tup [.str (chr x.1), .str (chr x.2)])
def spIsFact : Sp := fun vs H Q _ => ∃ (t : Addr) (p : Nat × Nat), vs = [.ref t] ∧ H t = some (.tup [.str (chr p.1), .str (chr p.2)]) ∧ p ∈ prs12 ∧ ∀ H', Ex H H' → Q (.bl true) H'
def spNeedFacts (K : PySem.W.Frag) : Sp := fun vs H Q _ => ∃ (v : V) (fs : List (Nat × Nat)), vs = [v] ∧ FcAt K H v fs ∧ OkF fs ∧ ∀ H', Ex H H' → Q .non H'
section
variable {P : Program} {w : World} {K : PySem.W.Frag} {mg : Str → Option Value} {base : Heap}
abbrev N_is_row : List Str := ["thing", "step"]
theorem sc_is_row : FnScope N_is_row ["thing"] (defScope s_is_row) := ⟨rfl, rfl, rfl, by decide +kernel, rfl, by decide +kernel, by decide +kernel⟩
theorem c_is_row (T : Tx K mg) : C8.Cal P w K mg base 1 "is_row" spIsRow [] :=
  mkCal T fn_is_row rfl rfl rfl T.mg_is_row sc_is_row (fun _ _ _ _ _ _ us hl => match us, hl with | [_], _ => rfl) (fun vs H Q E h => by obtain ⟨r, rfl, _⟩ := h; rfl) fun f cdv A outer s0 H vs Q E hr h => by
    obtain ⟨r, rfl, hl, hc, k⟩ := h
    refine ⟨_, (pss_one (ps_ret (pe_and (pe_callB (call_isiK (K := K) rfl) (by rfl) T.f_isinstance (by decide +kernel) (pa_cons (pv 0) (pa_cons (pe_bltn (v := .ty "str") (by rfl) T.f_str (by decide +kernel) rfl) pa_nil))) (pe_and (pe_cmpR op_le (pe_callB call_len_str (by rfl) T.f_len (by decide +kernel) (pa_cons (pv 0) pa_nil)) (C8.pe_gc rfl T.i_MOST_STEPS_rows) (nomark _)) (pe_one (pe_callB (cr_all rfl) (by rfl) T.f_all (by decide +kernel) (pa_cons (pe_lc (own := [("step", 1)]) (g := gName 1) rfl sc_is_row.nd (pi_str (pv 0)) (blkOk_by (own := [("step", 1)]) (N := N_is_row) (sc := defScope s_is_row) (by decide +kernel)) (fun _ _ _ _ _ => (pg_name (i := 1) sc_is_row.nd rfl (Or.inl rfl))) (fun _ _ _ _ _ => pts_nil) (fun _ _ _ _ _ => (pe_cmpR op_in_sign (pv 1) (C8.pe_gc rfl T.s_STEPS) rfl))) pa_nil))))))), ?_⟩
    have hlen : (rowS r).length = r.length := List.size_toArray ..
    refine ⟨_, rfl, _, _, _, _, _, rfl, .ty _, .base (.str _), kit_ss K, _, rfl, iteT ?_⟩
    refine ⟨_, rfl, _, rfl, by rw [hlen]; exact Nat.le_of_lt (lt_line (by omega)), _, _, rfl, rfl, _, rfl, ?_⟩
    rw [hlen, decide_eq_true (show (r.length : Int) ≤ 60 by omega)]
    refine iteT ⟨_, rfl, _, rfl, fun D nD => ?_⟩
    refine lc_wk (wk_str (z := rowS r)) (fun i H' => Ex H H' ∧ H' D = some (.lst ((List.replicate i true).map V.bl))) ⟨Evl.Ex.new nD, upd_same⟩ (fun _ _ _ _ => trivial) ?_ ?_
    · rintro i y H1 H2 hi ⟨x1, q⟩ ⟨rfl, c, hcc, rfl⟩
      have hcr : r[i]? = some c := by
        rw [← hcc]
        show _ = r.toArray[i]?
        rw [List.getElem?_toArray]
      have hi' : i < r.length := (List.getElem?_eq_some_iff.mp hcr).1
      have ok := hc c (List.mem_of_getElem? hcr)
      refine ⟨rfl, ?_⟩
      refine ⟨_, rfl, c, _, rfl, rfl, _, q, lt_line (by rw [List.length_map, List.length_replicate]; omega), Evl.Ex.mut x1 nD, ?_⟩
      rw [upd_same]
      show some (HO.lst (_ ++ [V.bl (decide (c ∈ ("ABCDabcd" : Str).cps.toList))])) = _
      have d : decide (c ∈ ("ABCDabcd" : Str).cps.toList) = true := by
        rcases okc_cases ok with h | h | h | h | h | h | h | h <;> subst h <;> decide +kernel
      rw [d, List.replicate_succ', List.map_append]
      rfl
    · rintro H1 ⟨x1, q⟩
      refine ⟨D, List.replicate (rowS r).cps.size true, rfl, SqL.of q, ?_⟩
      rw [show ∀ n, (List.replicate n true).all id = true from fun n => by simp]
      exact k H1 x1
abbrev N_has_shape : List Str := ["thing", "deep"]
theorem sc_has_shape : FnScope N_has_shape ["thing", "deep"] (defScope s_has_shape) := ⟨rfl, rfl, rfl, by decide +kernel, rfl, by decide +kernel, by decide +kernel⟩
theorem c_has_shape (T : Tx K mg) : ∀ n, C8.Cal P w K mg base (n + 1) "has_shape" (spShape n) []
  | 0 => mkCal T fn_has_shape rfl rfl rfl T.mg_has_shape sc_has_shape (fun _ _ _ _ _ _ us hl => match us, hl with | [_, _], _ => rfl) (fun vs H Q E h => by obtain ⟨v, p, rfl, _⟩ := h; rfl) fun f cdv A outer s0 H vs Q E hr h => by
    obtain ⟨v, p, rfl, hp, hd, _⟩ := h
    have := dep_pos p
    omega
  | n + 1 => by
    have ih := c_has_shape T n
    exact mkCal T fn_has_shape rfl rfl rfl T.mg_has_shape sc_has_shape (fun _ _ _ _ _ _ us hl => match us, hl with | [_, _], _ => rfl) (fun vs H Q E h => by obtain ⟨v, p, rfl, _⟩ := h; rfl) fun f cdv A outer s0 H vs Q E hr h => by
      obtain ⟨v, p, rfl, hp, hd, ho, k⟩ := h
      refine ⟨_, (pss_cons (ps_if (pt_cmpR op_eq (pv 1) pe_int (nomark _)) (pss_one (ps_ret pe_bl)) pss_nil)
      (pss_cons (ps_if (pt_not (pt_val (pe_callB (call_isiK (K := K) rfl) (by rfl) T.f_isinstance (by decide +kernel) (pa_cons (pv 0) (pa_cons (pe_bltn (v := .ty "tuple") (by rfl) T.f_tuple (by decide +kernel) rfl) pa_nil))))) (pss_one (ps_ret (pe_and (C8.pe_c (c_is_row T) hr (by omega) (by rfl) (pa_cons (pv 0) pa_nil)) (pe_one (pe_cmpR op_le (pe_callB call_len_str (by rfl) T.f_len (by decide +kernel) (pa_cons (pv 0) pa_nil)) (C8.pe_gc rfl T.i_MOST_IN_ROW) (nomark _)))))) pss_nil)
      (pss_cons (ps_if (PW.pt (pw_or (pt_cmpR op_ne (pe_callB call_len_seq (by rfl) T.f_len (by decide +kernel) (pa_cons (pv 0) pa_nil)) pe_int (nomark _)) (pw_or (pt_not (pt_val (pe_callB (call_isiK (K := K) rfl) (by rfl) T.f_isinstance (by decide +kernel) (pa_cons (pe_ix (ix_tupK (K := K) rfl) (pv 0) pe_int (fun _ _ => rfl)) (pa_cons (pe_bltn (v := .ty "str") (by rfl) T.f_str (by decide +kernel) rfl) pa_nil))))) (pw_or1 (pt_cmpR (op_notIn_seqK (K := K) rfl) (pe_ix (ix_tupK (K := K) rfl) (pv 0) pe_int (fun _ _ => rfl)) (pe_glob (x := "WORDS") (v := V.ref (He.ga K "WORDS")) rfl T.mg_WORDS rfl) rfl))))) (pss_one (ps_ret pe_bl)) pss_nil)
      (pss_one (ps_ret (pe_and (C8.pe_c ih hr (by omega) (by rfl) (pa_cons (pe_ix (ix_tupK (K := K) rfl) (pv 0) pe_int (fun _ _ => rfl)) (pa_cons (pe_op op_sub (pv 1) pe_int) pa_nil))) (pe_one (C8.pe_c ih hr (by omega) (by rfl) (pa_cons (pe_ix (ix_tupK (K := K) rfl) (pv 0) pe_int (fun _ _ => rfl)) (pa_cons (pe_op op_sub (pv 1) pe_int) pa_nil)))))))))), ?_⟩
      have d0 : decide (iV (n + 1) = V.int 0) = false := decide_eq_false fun z => by
        have := V.int.inj z
        omega
      have sb : V.int (((n + 1 : Nat) : Int) - 1) = iV n := by
        show V.int _ = V.int _
        congr 1
        omega
      refine ⟨_, rfl, rfl, _, rfl, ?_⟩
      show (if decide (iV (n + 1) = V.int 0) = true then _ else _)
      rw [d0]
      refine iteF ?_
      refine Classical.byContradiction fun hG => ?_
      have two : ∀ (t : Addr) (wd : Str) (a b : V) (p1 p2 : Pl), v = .ref t → H t = some (.tup [.str wd, a, b]) → (if true = true then !inV (V.str wd) [.str "then", .str "later", .str "sooner"] else inV (V.str wd) [.str "then", .str "later", .str "sooner"]) = false → PlAt H a p1 → PlAt H b p2 → dep p1 ≤ n → dep p2 ≤ n → ROk p1 → ROk p2 → False := by
        intro t wd a b p1 p2 ev ht hw h1 h2 d1 d2 o1 o2
        subst ev
        refine hG ?_
        refine ⟨_, rfl, _, _, _, _, _, rfl, .ty _, .base (.tup ht), kit_tt K, _, rfl, iteF ?_⟩
        refine ⟨_, rfl, t, _, rfl, .inr (SqT.of ht), rfl, _, rfl, iteF ?_⟩
        refine ⟨_, rfl, t, _, _, _, rfl, rfl, SqT.of ht, rfl, _, _, _, _, _, rfl, .ty _, .base (.str _), kit_ss K, _, rfl, iteF ?_⟩
        refine ⟨_, rfl, t, _, _, _, rfl, rfl, SqT.of ht, rfl, _, _, rfl, .inr (T.words H), rfl, rfl, _, rfl, ?_⟩
        rw [hw]
        refine iteF ?_
        refine ⟨_, rfl, t, _, _, _, rfl, rfl, SqT.of ht, rfl, _, rfl, _, _, rfl, rfl, a, p1, (by show [a, V.int (((n + 1 : Nat) : Int) - 1)] = _; rw [sb]), h1, d1, o1, fun H1 x1 => ⟨_, rfl, iteT ?_⟩⟩
        refine ⟨_, rfl, t, _, _, _, rfl, rfl, SqT.of (x1 _ _ ht), rfl, _, rfl, _, _, rfl, rfl, b, p2, (by show [b, V.int (((n + 1 : Nat) : Int) - 1)] = _; rw [sb]), h2.ex x1, d2, o2, fun H2 x2 => k H2 (x1.trans x2)⟩
      have n1 : ∀ p1 p2, 1 + max (dep p1) (dep p2) ≤ n + 1 → dep p1 ≤ n ∧ dep p2 ≤ n := fun p1 p2 h => by omega
      cases p with
      | row r =>
        have hp : v = .str (rowS r) := hp
        subst hp
        have h8 := ho.1
        refine hG ?_
        refine ⟨_, rfl, _, _, _, _, _, rfl, .ty _, .base (.str _), kit_st K, _, rfl, iteT ?_⟩
        refine ⟨_, rfl, r, rfl, by omega, ho.2, fun H1 x1 => ⟨_, rfl, iteT ⟨_, rfl, _, rfl, ?_, _, _, rfl, rfl, ?_⟩⟩⟩
        · rw [show (rowS r).length = r.length from List.size_toArray ..]
          exact Nat.le_of_lt (lt_line (by omega))
        · rw [show (rowS r).length = r.length from List.size_toArray ..]
          show Q (.bl (decide ((r.length : Int) ≤ 8))) H1
          rw [decide_eq_true (show (r.length : Int) ≤ 8 by omega)]
          exact k H1 x1
      | thn p1 p2 =>
        obtain ⟨t, a, b, ev, ht, h1, h2⟩ := hp
        exact two t _ a b p1 p2 ev ht (by decide +kernel) h1 h2 (n1 p1 p2 hd).1 (n1 p1 p2 hd).2 ho.1 ho.2
      | lat p1 p2 =>
        obtain ⟨t, a, b, ev, ht, h1, h2⟩ := hp
        exact two t _ a b p1 p2 ev ht (by decide +kernel) h1 h2 (n1 p1 p2 hd).1 (n1 p1 p2 hd).2 ho.1 ho.2
      | son p1 p2 =>
        obtain ⟨t, a, b, ev, ht, h1, h2⟩ := hp
        exact two t _ a b p1 p2 ev ht (by decide +kernel) h1 h2 (n1 p1 p2 hd).1 (n1 p1 p2 hd).2 ho.1 ho.2
abbrev N_steps_in : List Str := ["plan"]
theorem sc_steps_in : FnScope N_steps_in ["plan"] (defScope s_steps_in) := ⟨rfl, rfl, rfl, by decide +kernel, rfl, by decide +kernel, by decide +kernel⟩
theorem c_steps_in (T : Tx K mg) : ∀ n, C8.Cal P w K mg base (n + 1) "steps_in" (spStepsIn n) []
  | 0 => mkCal T fn_steps_in rfl rfl rfl T.mg_steps_in sc_steps_in (fun _ _ _ _ _ _ us hl => match us, hl with | [_], _ => rfl) (fun vs H Q E h => by obtain ⟨v, p, rfl, _⟩ := h; rfl) fun f cdv A outer s0 H vs Q E hr h => by
    obtain ⟨v, p, rfl, hp, hd, _⟩ := h
    have := dep_pos p
    omega
  | n + 1 => by
    have ih := c_steps_in T n
    exact mkCal T fn_steps_in rfl rfl rfl T.mg_steps_in sc_steps_in (fun _ _ _ _ _ _ us hl => match us, hl with | [_], _ => rfl) (fun vs H Q E h => by obtain ⟨v, p, rfl, _⟩ := h; rfl) fun f cdv A outer s0 H vs Q E hr h => by
      obtain ⟨v, p, rfl, hp, hd, ho, k⟩ := h
      refine ⟨_, (pss_one (ps_ret (pe_ifExp (pt_val (pe_callB (call_isiK (K := K) rfl) (by rfl) T.f_isinstance (by decide +kernel) (pa_cons (pv 0) (pa_cons (pe_bltn (v := .ty "str") (by rfl) T.f_str (by decide +kernel) rfl) pa_nil)))) (pv 0) (pe_op op_add_str (C8.pe_c ih hr (by omega) (by rfl) (pa_cons (pe_ix (ix_tupK (K := K) rfl) (pv 0) pe_int (fun _ _ => rfl)) pa_nil)) (C8.pe_c ih hr (by omega) (by rfl) (pa_cons (pe_ix (ix_tupK (K := K) rfl) (pv 0) pe_int (fun _ _ => rfl)) pa_nil)))))), ?_⟩
      have two : ∀ (t : Addr) (wd a b : V) (p1 p2 : Pl), v = .ref t → H t = some (.tup [wd, a, b]) → PlAt H a p1 → PlAt H b p2 → dep p1 ≤ n → dep p2 ≤ n → stp p = stp p1 ++ stp p2 →
          (tIf (tB (tCB (rIsi K) (tCons (tVar 0) (tCons (tC (V.ty "str")) tNil)))) (tVar 0)
        (tOp (fun x y H Q => ∃ i j, x = V.str i ∧ y = V.str j ∧ i.length + j.length ≤ sizeLine ∧ Q (V.str (i ++ j)) H)
          (tCall (spStepsIn n) [] C8.E0 (tCons (tOp (rIxT K) (tVar 0) (tC (V.int 1))) tNil))
          (tCall (spStepsIn n) [] C8.E0 (tCons (tOp (rIxT K) (tVar 0) (tC (V.int 2))) tNil)))) (L2.start N_steps_in [v]) H Q := by
        intro t wd a b p1 p2 ev ht h1 h2 d1 d2 es
        subst ev
        have hl : (stp p1).length + (stp p2).length ≤ 1000 := by rw [es, List.length_append] at ho; exact ho
        refine ⟨_, rfl, _, _, _, _, _, rfl, .ty _, .base (.tup ht), kit_ts K, _, rfl, iteF ?_⟩
        refine ⟨_, rfl, t, _, _, _, rfl, rfl, SqT.of ht, rfl, a, p1, rfl, h1, d1, by omega, fun H1 x1 => ?_⟩
        refine ⟨_, rfl, t, _, _, _, rfl, rfl, SqT.of (x1 _ _ ht), rfl, b, p2, rfl, h2.ex x1, d2, by omega, fun H2 x2 => ?_⟩
        refine ⟨_, _, rfl, rfl, ?_, ?_⟩
        · rw [show (rowS (stp p1)).length = (stp p1).length from List.size_toArray .., show (rowS (stp p2)).length = (stp p2).length from List.size_toArray ..]
          exact Nat.le_of_lt (lt_line hl)
        · have e : rowS (stp p1) ++ rowS (stp p2) = rowS (stp p) := by
            rw [es]
            show (⟨(stp p1).toArray ++ (stp p2).toArray⟩ : Str) = ⟨(stp p1 ++ stp p2).toArray⟩
            rw [List.append_toArray]
          rw [e]
          exact k H2 (x1.trans x2)
      cases p with
      | row r =>
        have hp : v = .str (rowS r) := hp
        subst hp
        exact ⟨_, rfl, _, _, _, _, _, rfl, .ty _, .base (.str _), kit_ss K, _, rfl, iteT ⟨_, rfl, k H (.refl _)⟩⟩
      | thn p1 p2 =>
        obtain ⟨t, a, b, ev, ht, h1, h2⟩ := hp
        have : 1 + max (dep p1) (dep p2) ≤ n + 1 := hd
        exact two t _ a b p1 p2 ev ht h1 h2 (by omega) (by omega) rfl
      | lat p1 p2 =>
        obtain ⟨t, a, b, ev, ht, h1, h2⟩ := hp
        have : 1 + max (dep p1) (dep p2) ≤ n + 1 := hd
        exact two t _ a b p1 p2 ev ht h1 h2 (by omega) (by omega) rfl
      | son p1 p2 =>
        obtain ⟨t, a, b, ev, ht, h1, h2⟩ := hp
        have : 1 + max (dep p1) (dep p2) ≤ n + 1 := hd
        exact two t _ a b p1 p2 ev ht h1 h2 (by omega) (by omega) rfl
abbrev N_is_plan : List Str := ["thing"]
theorem sc_is_plan : FnScope N_is_plan ["thing"] (defScope s_is_plan) := ⟨rfl, rfl, rfl, by decide +kernel, rfl, by decide +kernel, by decide +kernel⟩
theorem c_is_plan (T : Tx K mg) : C8.Cal P w K mg base 6 "is_plan" spIsPlan [] :=
  have c_has_shape := fun T => c_has_shape (P := P) (w := w) (K := K) (mg := mg) (base := base) T 4
  have c_steps_in := fun T => c_steps_in (P := P) (w := w) (K := K) (mg := mg) (base := base) T 4
  mkCal T fn_is_plan rfl rfl rfl T.mg_is_plan sc_is_plan (fun _ _ _ _ _ _ us hl => match us, hl with | [_], _ => rfl) (fun vs H Q E h => by obtain ⟨v, p, rfl, _⟩ := h; rfl) fun f cdv A outer s0 H vs Q E hr h => by
    obtain ⟨v, p, rfl, hp, ok, k⟩ := h
    refine ⟨_, (pss_one (ps_ret (pe_and (C8.pe_c (c_has_shape T) hr (by decide) (by rfl) (pa_cons (pv 0) (pa_cons (C8.pe_gc rfl T.i_MOST_DEEP) pa_nil))) (pe_one (pe_cmpR op_le (pe_callB call_len_str (by rfl) T.f_len (by decide +kernel) (pa_cons (C8.pe_c (c_steps_in T) hr (by decide) (by rfl) (pa_cons (pv 0) pa_nil)) pa_nil)) (C8.pe_gc rfl T.i_MOST_STEPS_plans) (nomark _)))))), ?_⟩
    refine ⟨_, rfl, v, p, rfl, hp, ok.d, ok.r, fun H1 x1 => ⟨_, rfl, iteT ?_⟩⟩
    have := ok.s
    refine ⟨_, rfl, v, p, rfl, hp.ex x1, ok.d, by omega, fun H2 x2 => ⟨_, rfl, ?_, _, _, rfl, rfl, ?_⟩⟩
    · rw [show (rowS (stp p)).length = (stp p).length from List.size_toArray ..]
      exact Nat.le_of_lt (lt_line (by omega))
    · rw [show (rowS (stp p)).length = (stp p).length from List.size_toArray ..]
      show Q (.bl (decide (((stp p).length : Int) ≤ 10))) H2
      rw [decide_eq_true (show ((stp p).length : Int) ≤ 10 by omega)]
      exact k H2 (x1.trans x2)
abbrev N_need_plan : List Str := ["plan"]
theorem sc_need_plan : FnScope N_need_plan ["plan"] (defScope s_need_plan) := ⟨rfl, rfl, rfl, by decide +kernel, rfl, by decide +kernel, by decide +kernel⟩
theorem c_need_plan (T : Tx K mg) : C8.Cal P w K mg base 7 "need_plan" spNeedPlan [] :=
  mkCal T fn_need_plan rfl rfl rfl T.mg_need_plan sc_need_plan (fun _ _ _ _ _ _ us hl => match us, hl with | [_], _ => rfl) (fun vs H Q E h => by obtain ⟨v, p, rfl, _⟩ := h; rfl) fun f cdv A outer s0 H vs Q E hr h => by
    obtain ⟨v, p, rfl, hp, ok, k⟩ := h
    refine ⟨_, (pss_one (ps_if (pt_not (pt_val (C8.pe_c (c_is_plan T) hr (by decide) (by rfl) (pa_cons (pv 0) pa_nil)))) (pss_one ps_never) pss_nil)), ?_⟩
    refine ⟨_, rfl, v, p, rfl, hp, ok, fun H1 x1 => ⟨_, rfl, ?_⟩⟩
    exact iteF (k H1 x1)
abbrev N_is_fact : List Str := ["thing", "letter"]
theorem sc_is_fact : FnScope N_is_fact ["thing"] (defScope s_is_fact) := ⟨rfl, rfl, rfl, by decide +kernel, rfl, by decide +kernel, by decide +kernel⟩
theorem c_is_fact (T : Tx K mg) : C8.Cal P w K mg base 1 "is_fact" spIsFact [] :=
  mkCal T fn_is_fact rfl rfl rfl T.mg_is_fact sc_is_fact (fun _ _ _ _ _ _ us hl => match us, hl with | [_], _ => rfl) (fun vs H Q E h => by obtain ⟨t, p, rfl, _⟩ := h; rfl) fun f cdv A outer s0 H vs Q E hr h => by
    obtain ⟨t, p, rfl, ht, hp, k⟩ := h
    refine ⟨_, (pss_cons (ps_if (PW.pt (pw_or (pt_not (pt_val (pe_callB (call_isiK (K := K) rfl) (by rfl) T.f_isinstance (by decide +kernel) (pa_cons (pv 0) (pa_cons (pe_bltn (v := .ty "tuple") (by rfl) T.f_tuple (by decide +kernel) rfl) pa_nil))))) (pw_or1 (pt_cmpR op_ne (pe_callB call_len_seq (by rfl) T.f_len (by decide +kernel) (pa_cons (pv 0) pa_nil)) pe_int (nomark _))))) (pss_one (ps_ret pe_bl)) pss_nil)
      (pss_cons (ps_for PassesOwn.never rfl (pi_tup (pv 0)) (pg_name (i := 1) sc_is_fact.nd rfl (Or.inl rfl)) (pss_one (ps_if (PW.pt (pw_or (pt_not (pt_val (pe_callB (call_isiK (K := K) rfl) (by rfl) T.f_isinstance (by decide +kernel) (pa_cons (pv 1) (pa_cons (pe_bltn (v := .ty "str") (by rfl) T.f_str (by decide +kernel) rfl) pa_nil))))) (pw_or (pt_cmpR op_ne (pe_callB call_len_str (by rfl) T.f_len (by decide +kernel) (pa_cons (pv 1) pa_nil)) pe_int (nomark _)) (pw_or1 (pt_cmpR op_notIn_sign (pv 1) (C8.pe_gc rfl T.s_LINKS) rfl))))) (pss_one (ps_ret pe_bl)) pss_nil)))
      (pss_one (ps_ret (pe_cmpR op_ne (pe_ix (ix_tupK (K := K) rfl) (pv 0) pe_int (fun _ _ => rfl)) (pe_ix (ix_tupK (K := K) rfl) (pv 0) pe_int (fun _ _ => rfl)) (nomark _)))))), ?_⟩
    have hb : (97 ≤ p.1 ∧ p.1 ≤ 100) ∧ (97 ≤ p.2 ∧ p.2 ≤ 100) ∧ p.1 ≠ p.2 := by
      have : ∀ p ∈ prs12, (97 ≤ p.1 ∧ p.1 ≤ 100) ∧ (97 ≤ p.2 ∧ p.2 ≤ 100) ∧ p.1 ≠ p.2 := by decide +kernel
      exact this p hp
    have cN : ∀ c, 97 ≤ c → c ≤ 100 → decide (c ∈ ("abcd" : Str).cps.toList) = true := fun c h1 h2 => by
      obtain h | h | h | h : c = 97 ∨ c = 98 ∨ c = 99 ∨ c = 100 := by omega
      all_goals (subst h; decide +kernel)
    refine ⟨_, rfl, _, _, _, _, _, rfl, .ty _, .base (.tup ht), kit_tt K, _, rfl, iteF ?_⟩
    refine ⟨_, rfl, t, _, rfl, .inr (SqT.of ht), rfl, _, rfl, iteF ?_⟩
    refine ⟨_, rfl, t, rfl, ⟨_, SqT.of ht⟩, ?_⟩
    refine for_wk (wk_tup (K := K) (a := t) (xs := [.str (chr p.1), .str (chr p.2)])) (fun i σ H' => H' = H ∧ ∃ v1, σ = [some (.ref t), v1]) ⟨rfl, none, rfl⟩ (fun i σ H' _ q => by rw [q.1]; exact SqT.of ht) ?_ ?_
    · rintro i y σ H1 H2 hi ⟨rfl, v1, rfl⟩ ⟨rfl, hy⟩
      obtain ⟨c, rfl, c1, c2⟩ : ∃ c, y = .str (chr c) ∧ 97 ≤ c ∧ c ≤ 100 := by
        match i, hy with
        | 0, hy => cases hy; exact ⟨_, rfl, hb.1⟩
        | 1, hy => cases hy; exact ⟨_, rfl, hb.2.1⟩
      refine ⟨_, rfl, _, _, _, _, _, rfl, .ty _, .base (.str _), kit_ss K, _, rfl, iteF ?_⟩
      refine ⟨_, rfl, _, rfl, (by show 1 ≤ sizeLine; decide), rfl, _, rfl, iteF ?_⟩
      refine ⟨_, rfl, c, _, rfl, rfl, _, rfl, ?_⟩
      rw [cN c c1 c2]
      exact iteF ⟨rfl, _, rfl⟩
    · rintro σ H1 ⟨rfl, v1, rfl⟩
      refine ⟨_, rfl, t, _, _, _, rfl, rfl, SqT.of ht, rfl, _, rfl, t, _, _, _, rfl, rfl, SqT.of ht, rfl, rfl, ?_⟩
      have d : decide (V.str (chr p.1) = V.str (chr p.2)) = false := decide_eq_false fun z => hb.2.2 (chr_inj (congrArg Sum.inr (V.str.inj z)))
      show Q (.bl (!decide (V.str (chr p.1) = V.str (chr p.2)))) H1
      rw [d]
      exact k H1 (.refl _)
abbrev N_need_facts : List Str := ["facts", "fact"]
theorem sc_need_facts : FnScope N_need_facts ["facts"] (defScope s_need_facts) := ⟨rfl, rfl, rfl, by decide +kernel, rfl, by decide +kernel, by decide +kernel⟩
theorem c_need_facts (T : Tx K mg) : C8.Cal P w K mg base 2 "need_facts" (spNeedFacts K) [] :=
  mkCal T fn_need_facts rfl rfl rfl T.mg_need_facts sc_need_facts (fun _ _ _ _ _ _ us hl => match us, hl with | [_], _ => rfl) (fun vs H Q E h => by obtain ⟨v, fs, rfl, _⟩ := h; rfl) fun f cdv A outer s0 H vs Q E hr h => by
    obtain ⟨v, fs, rfl, hF, ok, k⟩ := h
    refine ⟨_, (pss_cons (ps_if (PW.pt (pw_or (pt_not (pt_val (pe_callB call_isiT (by rfl) T.f_isinstance (by decide +kernel) (pa_cons (pv 0) (pa_cons (pe_tup (pa_cons (pe_bltn (v := .ty "list") (by rfl) T.f_list (by decide +kernel) rfl) (pa_cons (pe_bltn (v := .ty "tuple") (by rfl) T.f_tuple (by decide +kernel) rfl) pa_nil))) pa_nil))))) (pw_or1 (pt_cmpR op_gt (pe_callB call_len_seq (by rfl) T.f_len (by decide +kernel) (pa_cons (pv 0) pa_nil)) (C8.pe_gc rfl T.i_MOST_FACTS) (nomark _))))) (pss_one ps_never) pss_nil)
      (pss_one (ps_if (pt_not (pt_val (pe_callB (cr_all rfl) (by rfl) T.f_all (by decide +kernel) (pa_cons (pe_lc (own := [("fact", 1)]) (g := gName 1) rfl sc_need_facts.nd (pi_both (K := K) rfl (pv 0)) (blkOk_by (own := [("fact", 1)]) (N := N_need_facts) (sc := defScope s_need_facts) (by decide +kernel)) (fun _ _ _ _ _ => (pg_name (i := 1) sc_need_facts.nd rfl (Or.inl rfl))) (fun _ _ _ _ _ => pts_nil) (fun _ _ _ _ _ => (C8.pe_c (c_is_fact T) hr (by decide) (by rfl) (pa_cons (pv 1) pa_nil)))) pa_nil)))) (pss_one ps_never) pss_nil))), ?_⟩
    obtain ⟨a, ts, rfl, ha, hl, hf⟩ := hF
    have hfl := ok.1
    refine ⟨_, rfl, by show 2 ≤ sizeLine; decide, fun p1 n1 => ?_⟩
    have x1 : Ex H (upd H p1 (.tup [.ty "list", .ty "tuple"])) := Evl.Ex.new n1
    have h1 : (upd H p1 (.tup [.ty "list", .ty "tuple"])) p1 = some (.tup [.ty "list", .ty "tuple"]) := upd_same
    generalize upd H p1 (.tup [.ty "list", .ty "tuple"]) = H1 at x1 h1
    have hs : (SqL K H1 a (ts.map V.ref) ∨ SqT K H1 a (ts.map V.ref)) ∧ ((∃ t u, TyX K H1 (.ref a) t ∧ u = [Value.type "list", .type "tuple"] ∧ PySem.W.kitAny K t u = some true)) := by
      rcases ha with h | ⟨rfl, h⟩
      · exact ⟨.inl (SqL.of (x1 _ _ h)), _, _, .base (.lst (x1 _ _ h)), rfl, kit_llt K⟩
      · rcases h with (h | ⟨o, h⟩) | ⟨o, its, n, e1, e2, e3, e4, e5⟩
        · exact ⟨.inr (SqT.of (x1 _ _ h)), _, _, .base (.tup (x1 _ _ h)), rfl, kit_tlt K⟩
        · exact ⟨.inr (.inl (.inr ⟨o, x1 _ _ h⟩)), _, _, .fTuple (x1 _ _ h), rfl, kit_tlt K⟩
        · exact ⟨.inr (.inr ⟨o, its, n, e1, e2, e3, e4, e5⟩), _, _, .kTuple e1 e2, rfl, kit_tlt K⟩
    obtain ⟨hs1, t, u, ty, rfl, kk⟩ := hs
    refine ⟨_, p1, _, t, _, true, rfl, h1, .cons (.ty _) (.cons (.ty _) .nil), ty, kk, _, rfl, iteF ?_⟩
    refine ⟨_, rfl, a, _, rfl, hs1, _, _, rfl, rfl, _, rfl, ?_⟩
    rw [List.length_map, hl, decide_eq_false (show ¬ ((12 : Int) < (fs.length : Int)) by omega)]
    refine iteF ?_
    have turn : ∀ (D : Addr) (i : Nat) (y : V) (H2 : Hp), H1 D = none → i < (ts.map V.ref).length → Ex H1 H2 → (ts.map V.ref)[i]? = some y → H2 D = some (.lst ((List.replicate i true).map V.bl)) → ∀ σ, σ = ([some (.ref a), some y] : L2.St) →
        (tCall spIsFact [] C8.E0 (tCons (tVar 1) tNil)) σ H2 fun y H4 => ∃ acc, H4 D = some (.lst acc) ∧ acc.length < sizeLine ∧ (Ex H1 (upd H4 D (.lst (acc ++ [y]))) ∧ (upd H4 D (.lst (acc ++ [y]))) D = some (.lst ((List.replicate (i + 1) true).map V.bl))) := by
      intro D i y H2 nD hi x2 hy q σ eσ
      subst eσ
      rw [List.getElem?_map] at hy
      obtain ⟨t, ht, rfl⟩ := Option.map_eq_some_iff.mp hy
      obtain ⟨r, hr0⟩ : ∃ r, fs[i]? = some r := ⟨fs[i]'(by rw [← hl]; exact (List.getElem?_eq_some_iff.mp ht).1), List.getElem?_eq_getElem _⟩
      refine ⟨_, rfl, t, r, rfl, x2 _ _ (x1 _ _ (hf i t r ht hr0)), ok.2 r (List.mem_of_getElem? hr0), fun H3 x3 => ⟨_, x3 _ _ q, ?_, Evl.Ex.mut (x2.trans x3) nD, ?_⟩⟩
      · rw [List.length_map, List.length_replicate]
        rw [List.length_map] at hi
        exact lt_line (by omega)
      · rw [upd_same, List.replicate_succ', List.map_append]
        rfl
    have fin : ∀ (D : Addr) (H2 : Hp), Ex H1 H2 → H2 D = some (.lst ((List.replicate (ts.map V.ref).length true).map V.bl)) → ∃ (D' : Addr) (bs : List Bool), [V.ref D] = [V.ref D'] ∧ SqL K H2 D' (bs.map V.bl) ∧ (bs.all id = true ∧ Q .non H2) := fun D H2 x2 q =>
      ⟨D, _, rfl, SqL.of q, by simp, k H2 (x1.trans x2)⟩
    rcases ha with h | ⟨e, h⟩
    · have h' := x1 _ _ h
      refine ⟨_, rfl, a, rfl, .inl ⟨⟨_, SqL.of h'⟩, fun D nD => ?_⟩⟩
      refine lc_wk (wk_list (K := K) (a := a) (xs := ts.map V.ref)) (fun i H' => Ex H1 H' ∧ H' D = some (.lst ((List.replicate i true).map V.bl))) ⟨Evl.Ex.new nD, upd_same⟩ (fun i H' _ p => SqL.of (p.1 _ _ h')) ?_ ?_
      · rintro i y H2 H3 hi ⟨x2, q⟩ ⟨rfl, hy⟩
        refine ⟨rfl, ?_⟩
        exact turn D i y _ nD hi x2 hy q _ rfl
      · rintro H2 ⟨x2, q⟩
        obtain ⟨D', bs, e1, e2, e3, e4⟩ := fin D H2 x2 q
        refine ⟨D', bs, e1, e2, _, rfl, ?_⟩
        rw [e3]
        exact iteF e4
    · have h' : ∀ H', SqT K H a [] → Ex H H' → SqT K H' a (ts.map V.ref) := fun H' h x => by
        rw [e]
        rcases h with (h | ⟨o, h⟩) | h
        · exact .inl (.inl (x _ _ h))
        · exact .inl (.inr ⟨o, x _ _ h⟩)
        · exact .inr h
      refine ⟨_, rfl, a, rfl, .inr ⟨⟨_, h' _ h x1⟩, fun D nD => ?_⟩⟩
      refine lc_wk (wk_tup (K := K) (a := a) (xs := ts.map V.ref)) (fun i H' => Ex H1 H' ∧ H' D = some (.lst ((List.replicate i true).map V.bl))) ⟨Evl.Ex.new nD, upd_same⟩ (fun i H' _ p => h' _ h (x1.trans p.1)) ?_ ?_
      · rintro i y H2 H3 hi ⟨x2, q⟩ ⟨rfl, hy⟩
        refine ⟨rfl, ?_⟩
        exact turn D i y _ nD hi x2 hy q _ rfl
      · rintro H2 ⟨x2, q⟩
        obtain ⟨D', bs, e1, e2, e3, e4⟩ := fin D H2 x2 q
        refine ⟨D', bs, e1, e2, _, rfl, ?_⟩
        rw [e3]
        exact iteF e4
end
end K35

/-! row_values, plan_values, listed_values, never_slower. -/
namespace K35
open PySem PySem.Spec PyProof.Rows L2
/-- the list grown -/
structure Gr (l : Addr) (H : Hp) (L : List Tl) (H' : Hp) (L' : List Tl) (m k : Nat) : Prop where
  x : Exp l H H'
  at_ : LAt H' l L'
  wf : WFL L'
  len : L'.length = L.length + m
  app : ∃ M, L' = L ++ M
  sc : L'.countP isSt = L.countP isSt + k
theorem PlaR.grow {L M : List Tl} : ∀ {r : List Nat} {s e : Nat}, PlaR L r s e → PlaR (L ++ M) r s e
  | [], s, e, h => h
  | c :: r, s, e, ⟨k, h1, h2⟩ => ⟨k, by rw [List.getElem?_append_left (List.getElem?_eq_some_iff.mp h1).1]; exact h1, PlaR.grow h2⟩
theorem Pla.grow {L M : List Tl} : ∀ {p : Pl} {s e : Nat}, Pla L p s e → Pla (L ++ M) p s e
  | .row r, s, e, h => PlaR.grow h
  | .thn p q, s, e, ⟨m, h1, h2⟩ => ⟨m, Pla.grow h1, Pla.grow h2⟩
  | .lat p q, s, e, ⟨a, b, h1, h2, h3⟩ => ⟨a, b, Pla.grow h1, Pla.grow h2, by rw [List.getElem?_append_left (List.getElem?_eq_some_iff.mp h3).1]; exact h3⟩
  | .son p q, s, e, ⟨a, b, h1, h2, h3⟩ => ⟨a, b, Pla.grow h1, Pla.grow h2, by rw [List.getElem?_append_left (List.getElem?_eq_some_iff.mp h3).1]; exact h3⟩
theorem WFL.snoc {L : List Tl} (w : WFL L) {t : Tl} (h : okT L.length t) : WFL (L ++ [t]) where
  b0 := by rw [List.getElem?_append_left (List.getElem?_eq_some_iff.mp w.b0).1]; exact w.b0
  ok := fun k u e => by
    rcases Nat.lt_trichotomy k L.length with hk | hk | hk
    · rw [List.getElem?_append_left hk] at e
      exact w.ok k u e
    · subst hk
      rw [List.getElem?_append_right (Nat.le_refl _), Nat.sub_self] at e
      cases e
      exact h
    · rw [List.getElem?_eq_none (by rw [List.length_append, List.length_singleton]; omega)] at e
      cases e
theorem Gr.refl {l : Addr} {H : Hp} {L : List Tl} (h : LAt H l L) (w : WFL L) : Gr l H L H L 0 0 := ⟨fun _ _ h _ => h, h, w, rfl, ⟨[], by simp⟩, rfl⟩
theorem Gr.trans {l : Addr} {H H1 H2 : Hp} {L L1 L2 : List Tl} {m n k j : Nat} (a : Gr l H L H1 L1 m k) (b : Gr l H1 L1 H2 L2 n j) : Gr l H L H2 L2 (m + n) (k + j) := by
  obtain ⟨M, hM⟩ := a.app
  obtain ⟨N, hN⟩ := b.app
  exact ⟨fun c o h hc => b.x _ _ (a.x _ _ h hc) hc, b.at_, b.wf, by rw [b.len, a.len, Nat.add_assoc], ⟨M ++ N, by rw [hN, hM, List.append_assoc]⟩, by rw [b.sc, a.sc, Nat.add_assoc]⟩
theorem Gr.snoc {l p : Addr} {H H1 H2 : Hp} {L L1 : List Tl} {m k : Nat} (a : Gr l H L H1 L1 m k) {t : Tl} (ok : okT L1.length t) (x : Ex H1 H2) (hp : H2 p = some (.tup (tlV t))) :
    ∃ acc, H2 l = some (.lst acc) ∧ acc.length = L1.length ∧ Gr l H L (upd H2 l (.lst (acc ++ [V.ref p]))) (L1 ++ [t]) (m + 1) (k + (if isSt t = true then 1 else 0)) := by
  obtain ⟨acc, a1, a2, a3⟩ := RowsP.snoc FT.st (RowsAt.ex x a.at_) hp
  obtain ⟨M, hM⟩ := a.app
  exact ⟨acc, a1, a2, fun c o h hc => by rw [upd_ne hc]; exact x _ _ (a.x _ _ h hc), a3, a.wf.snoc ok, by rw [List.length_append, List.length_singleton, a.len, Nat.add_assoc], ⟨M ++ [t], by rw [hM, List.append_assoc]⟩, by rw [List.countP_append, a.sc, Nat.add_assoc]; simp⟩
theorem Gr.pl {l : Addr} {H H' : Hp} {L L' : List Tl} {m k : Nat} (g : Gr l H L H' L' m k) (hl : ∃ acc, H l = some (.lst acc)) {v : V} {p : Pl} (h : PlAt H v p) : PlAt H' v p := by
  obtain ⟨acc, hl⟩ := hl
  exact h.mv fun t vs q => g.x _ _ q (ne_of q hl (fun z => nomatch z))
theorem LAt.lst {H : Hp} {l : Addr} {L : List Tl} (h : LAt H l L) : ∃ acc, H l = some (.lst acc) := by
  obtain ⟨ts, h1, _⟩ := h
  exact ⟨_, h1⟩
def spRowV : Sp := fun vs H Q _ => ∃ (r : List Nat) (s : Nat) (l : Addr) (L : List Tl), vs = [.str (rowS r), iV s, .ref l] ∧ (∀ c ∈ r, okc c) ∧ s < L.length ∧ LAt H l L ∧ WFL L ∧ L.length + r.length ≤ 60 ∧
  ∀ e H' L', Gr l H L H' L' r.length r.length → PlaR L' r s e → e < L'.length → Q (iV e) H'
def spPlanV (n : Nat) : Sp := fun vs H Q _ => ∃ (v : V) (p : Pl) (s : Nat) (l : Addr) (L : List Tl), vs = [v, iV s, .ref l] ∧ PlAt H v p ∧ dep p ≤ n ∧ ROk p ∧ s < L.length ∧ LAt H l L ∧ WFL L ∧ L.length + sz p ≤ 60 ∧
  ∀ e H' L', Gr l H L H' L' (sz p) (stp p).length → Pla L' p s e → e < L'.length → Q (iV e) H'
def spListed : Sp := fun vs H Q _ => ∃ (v u : V) (p q : Pl), vs = [v, u] ∧ PlAt H v p ∧ PlAt H u q ∧ dep p ≤ 4 ∧ dep q ≤ 4 ∧ ROk p ∧ ROk q ∧ 1 + sz p + sz q ≤ 60 ∧
  ∀ t l e L e1 e2 H', Ex H H' → H' t = some (.tup [.ref l, .ref e]) → H' e = some (.tup [iV e1, iV e2]) → LAt H' l L → WFL L → L.length = 1 + sz p + sz q → L.countP isSt = (stp p).length + (stp q).length → Pla L p 0 e1 → Pla L q 0 e2 → e1 < L.length → e2 < L.length → Q (.ref t) H'
section
variable {P : Program} {w : World} {K : PySem.W.Frag} {mg : Str → Option Value} {base : Heap}
abbrev N_row_values : List Str := ["row", "start", "found", "step"]
theorem sc_row_values : FnScope N_row_values ["row", "start", "found"] (defScope s_row_values) := ⟨rfl, rfl, rfl, by decide +kernel, rfl, by decide +kernel, by decide +kernel⟩
theorem c_row_values (T : Tx K mg) : C8.Cal P w K mg base 1 "row_values" spRowV [] :=
  mkCal T fn_row_values rfl rfl rfl T.mg_row_values sc_row_values (fun _ _ _ _ _ _ us hl => match us, hl with | [_, _, _], _ => rfl) (fun vs H Q E h => by obtain ⟨r, s, l, L, rfl, _⟩ := h; rfl) fun f cdv A outer s0 H vs Q E hr h => by
    obtain ⟨r, s, l, L, rfl, hc, hs, hL, wl, hn, k⟩ := h
    refine ⟨_, (pss_cons (ps_for PassesOwn.never rfl (pi_str (pv 0)) (pg_name (i := 3) sc_row_values.nd rfl (Or.inl rfl)) (pss_cons (ps_expr (pe_bm PySem.F.plainAttrs_list PySem.F.slot_list_append PySem.F.type_list_append mt_append (pv 2) (pa_cons (pe_tup (pa_cons pe_str (pa_cons (pv 3) (pa_cons (pv 1) pa_nil)))) pa_nil)))
        (pss_one (ps_set (i := 1) sc_row_values.nd rfl (Or.inl rfl) (pe_op op_sub (pe_callB call_len_seq (by rfl) T.f_len (by decide +kernel) (pa_cons (pv 2) pa_nil)) pe_int)))))
      (pss_one (ps_ret (pv 1)))), ?_⟩
    have hsz : (rowS r).cps.size = r.length := List.size_toArray ..
    refine ⟨_, rfl, _, rfl, ?_⟩
    refine for_wk (wk_str (z := rowS r)) (fun i σ H' => ∃ e v1 v3 L', σ = [some (.str (rowS r)), some v1, some (.ref l), v3] ∧ v1 = iV e ∧ Gr l H L H' L' i i ∧ PlaR L' (r.take i) s e ∧ e < L'.length)
      ⟨s, _, none, L, rfl, rfl, .refl hL wl, rfl, hs⟩ (fun _ _ _ _ _ => trivial) ?_ ?_
    · rintro i y σ H1 H2 hi ⟨e, v1, v3, L', rfl, rfl, g, pl, he⟩ ⟨rfl, c, hcc, rfl⟩
      rw [hsz] at hi
      have hcr : r[i]? = some c := by
        rw [← hcc]
        show _ = r.toArray[i]?
        rw [List.getElem?_toArray]
      have okc' := hc c (List.mem_of_getElem? hcr)
      obtain ⟨acc0, hl0⟩ := g.at_.lst
      refine ⟨_, rfl, .inl ⟨rfl, _, SqL.of hl0⟩, _, rfl, _, rfl, by show 3 ≤ sizeLine; decide, fun p np => ?_⟩
      have xp : Ex H2 (upd H2 p (.tup [.str "step", .str (chr c), iV e])) := Evl.Ex.new np
      obtain ⟨acc, a1, a2, g'⟩ := g.snoc (t := .st c e) ⟨okc', he⟩ xp upd_same
      have gl := g.len
      refine ⟨l, acc, _, rfl, rfl, a1, lt_line (by rw [a2, gl]; omega), ?_⟩
      refine ⟨_, rfl, l, _, rfl, .inl (SqL.of upd_same), _, _, rfl, rfl, L'.length, _, _, L' ++ [Tl.st c e], rfl, ?_, g', ?_, ?_⟩
      · show V.int (((acc ++ [V.ref p]).length : Int) - 1) = V.int (L'.length : Int)
        rw [List.length_append, a2]
        congr 1
        simp
      · rw [List.take_add_one, hcr]
        exact PlaR.app.mpr ⟨e, pl.grow, L'.length, by rw [List.getElem?_append_right (Nat.le_refl _), Nat.sub_self]; rfl, rfl⟩
      · rw [List.length_append, List.length_singleton]; omega
    · rintro σ H1 ⟨e, v1, v3, L', rfl, rfl, g, pl, he⟩
      rw [hsz] at g pl
      rw [List.take_length] at pl
      exact ⟨_, rfl, k e H1 L' g pl he⟩
abbrev N_plan_values : List Str := ["plan", "start", "found", "word", "one", "two", "first", "second"]
theorem sc_plan_values : FnScope N_plan_values ["plan", "start", "found"] (defScope s_plan_values) := ⟨rfl, rfl, rfl, by decide +kernel, rfl, by decide +kernel, by decide +kernel⟩
theorem c_plan_values (T : Tx K mg) : ∀ n, C8.Cal P w K mg base (n + 1) "plan_values" (spPlanV n) []
  | 0 => mkCal T fn_plan_values rfl rfl rfl T.mg_plan_values sc_plan_values (fun _ _ _ _ _ _ us hl => match us, hl with | [_, _, _], _ => rfl) (fun vs H Q E h => by obtain ⟨v, p, s, l, L, rfl, _⟩ := h; rfl) fun f cdv A outer s0 H vs Q E hr h => by
    obtain ⟨v, p, s, l, L, rfl, hp, hd, _⟩ := h
    have := dep_pos p
    omega
  | n + 1 => by
    have ih := c_plan_values T n
    exact mkCal T fn_plan_values rfl rfl rfl T.mg_plan_values sc_plan_values (fun _ _ _ _ _ _ us hl => match us, hl with | [_, _, _], _ => rfl) (fun vs H Q E h => by obtain ⟨v, p, s, l, L, rfl, _⟩ := h; rfl) fun f cdv A outer s0 H vs Q E hr h => by
      obtain ⟨v, p, s, l, L, rfl, hp, hd, ho, hs, hL, wl, hn, k⟩ := h
      refine ⟨_, (pss_cons (ps_if (pt_val (pe_callB (call_isiK (K := K) rfl) (by rfl) T.f_isinstance (by decide +kernel) (pa_cons (pv 0) (pa_cons (pe_bltn (v := .ty "str") (by rfl) T.f_str (by decide +kernel) rfl) pa_nil)))) (pss_one (ps_ret (C8.pe_c (c_row_values T) hr (by omega) (by rfl) (pa_cons (pv 0) (pa_cons (pv 1) (pa_cons (pv 2) pa_nil)))))) pss_nil)
      (pss_cons (ps_asg (pv 0) (pg_tup rfl (pgs_cons (pg_name (i := 3) sc_plan_values.nd rfl (Or.inl rfl)) (pgs_cons (pg_name (i := 4) sc_plan_values.nd rfl (Or.inl rfl)) (pgs_cons (pg_name (i := 5) sc_plan_values.nd rfl (Or.inl rfl)) pgs_nil)))))
      (pss_cons (ps_set (i := 6) sc_plan_values.nd rfl (Or.inl rfl) (C8.pe_c ih hr (by omega) (by rfl) (pa_cons (pv 4) (pa_cons (pv 1) (pa_cons (pv 2) pa_nil)))))
      (pss_cons (ps_if (pt_cmpR op_eq (pv 3) pe_str (nomark _)) (pss_one (ps_ret (C8.pe_c ih hr (by omega) (by rfl) (pa_cons (pv 5) (pa_cons (pv 6) (pa_cons (pv 2) pa_nil)))))) pss_nil)
      (pss_cons (ps_set (i := 7) sc_plan_values.nd rfl (Or.inl rfl) (C8.pe_c ih hr (by omega) (by rfl) (pa_cons (pv 5) (pa_cons (pv 1) (pa_cons (pv 2) pa_nil)))))
      (pss_cons (ps_expr (pe_bm PySem.F.plainAttrs_list PySem.F.slot_list_append PySem.F.type_list_append mt_append (pv 2) (pa_cons (pe_tup (pa_cons (pv 3) (pa_cons (pv 6) (pa_cons (pv 7) pa_nil)))) pa_nil)))
      (pss_one (ps_ret (pe_op op_sub (pe_callB call_len_seq (by rfl) T.f_len (by decide +kernel) (pa_cons (pv 2) pa_nil)) pe_int))))))))), ?_⟩
      have n1 : ∀ p1 p2, 1 + max (dep p1) (dep p2) ≤ n + 1 → dep p1 ≤ n ∧ dep p2 ≤ n := fun p1 p2 h => by omega
      obtain ⟨acc0, hl0⟩ := hL.lst
      have joint : ∀ (wd : Str) (t : Addr) (a b : V) (p1 p2 : Pl) (tj : Nat → Nat → Tl), (∀ i j, tlV (tj i j) = [.str wd, iV i, iV j]) → (∀ k i j, i < k → j < k → okT k (tj i j)) → (∀ i j, isSt (tj i j) = false) → decide (V.str wd = V.str "then") = false → v = .ref t → H t = some (.tup [.str wd, a, b]) → PlAt H a p1 → PlAt H b p2 → dep p1 ≤ n → dep p2 ≤ n → ROk p1 → ROk p2 →
          L.length + (sz p1 + sz p2 + 1) ≤ 60 → (∀ e1 e2 e H' L', Gr l H L H' L' (sz p1 + sz p2 + 1) ((stp p1).length + (stp p2).length) → Pla L' p1 s e1 → Pla L' p2 s e2 → L'[e]? = some (tj e1 e2) → e < L'.length → Q (iV e) H') →
          (tSeq
            (tIfS (tB (tCB (rIsi K) (tCons (tVar 0) (tCons (tC (V.ty "str")) tNil))))
              (tRet (tCall spRowV [] C8.E0 (tCons (tVar 0) (tCons (tVar 1) (tCons (tVar 2) tNil))))) tNext)
            (tSeq
              (tAsg (tVar 0) (gTup K 3 (gCons (gName 3) (gCons (gName 4) (gCons (gName 5) gNil)))))
              (tSeq (tAsg (tCall (spPlanV n) [] C8.E0 (tCons (tVar 4) (tCons (tVar 1) (tCons (tVar 2) tNil)))) (gName 6))
                (tSeq
                  (tIfS (tTest (tOp rEq (tVar 3) (tC (V.str (Str.ofString "then")))))
                    (tRet (tCall (spPlanV n) [] C8.E0 (tCons (tVar 5) (tCons (tVar 6) (tCons (tVar 2) tNil))))) tNext)
                  (tSeq (tAsg (tCall (spPlanV n) [] C8.E0 (tCons (tVar 5) (tCons (tVar 1) (tCons (tVar 2) tNil)))) (gName 7))
                    (tSeq
                      (tDrop (tBM K "list" rAppend (tVar 2) (tCons (tTup (tCons (tVar 3) (tCons (tVar 6) (tCons (tVar 7) tNil)))) tNil)))
                      (tRet
                        (tOp (rI0 fun i j => V.int (i - j))
                          (tCB (fun xs H_1 Q => ∃ p ys, xs = [V.ref p] ∧ (SqL K H_1 p ys ∨ SqT K H_1 p ys) ∧ Q (V.int ys.length) H_1) (tCons (tVar 2) tNil))
                          (tC (V.int 1)))))))))) { nx := fun x H' => Q V.non H', rt := Q } (L2.start N_plan_values [v, iV s, V.ref l]) H := by
        intro wd t a b p1 p2 tj ht1 ht2 ht3 hw ev ht ha hb d1 d2 o1 o2 hsz kk
        subst ev
        refine ⟨_, rfl, _, _, _, _, _, rfl, .ty _, .base (.tup ht), kit_ts K, _, rfl, iteF ?_⟩
        refine ⟨_, rfl, t, _, rfl, SqT.of ht, rfl, _, _, rfl, _, _, rfl, _, _, rfl, rfl, ?_⟩
        refine ⟨_, rfl, _, rfl, _, rfl, a, p1, s, l, L, rfl, ha, d1, o1, hs, hL, wl, by omega, fun e1 H1 L1 g1 q1 l1 => ?_⟩
        refine ⟨_, rfl, rfl, _, rfl, ?_⟩
        show (if decide (V.str wd = V.str "then") = true then _ else _)
        rw [hw]
        refine iteF ?_
        have gl1 := g1.len
        refine ⟨_, rfl, _, rfl, _, rfl, b, p2, s, l, L1, rfl, g1.pl ⟨_, hl0⟩ hb, d2, o2, by omega, g1.at_, g1.wf, by omega, fun e2 H2 L2' g2 q2 l2 => ?_⟩
        have g12 := g1.trans g2
        have gl2 := g2.len
        obtain ⟨M, hM⟩ := g2.app
        obtain ⟨acc1, hl1⟩ := g12.at_.lst
        have e1lt : e1 < L2'.length := by omega
        refine ⟨_, rfl, .inl ⟨rfl, _, SqL.of hl1⟩, _, rfl, _, rfl, _, rfl, by show 3 ≤ sizeLine; decide, fun p np => ?_⟩
        have xp : Ex H2 (upd H2 p (.tup [.str wd, iV e1, iV e2])) := Evl.Ex.new np
        obtain ⟨acc, a1, a2, g'⟩ := g12.snoc (t := tj e1 e2) (ht2 _ _ _ e1lt l2) xp (p := p) (by rw [ht1]; exact upd_same)
        refine ⟨l, acc, _, rfl, rfl, a1, lt_line (by rw [a2]; omega), ?_⟩
        refine ⟨_, rfl, l, _, rfl, .inl (SqL.of upd_same), _, _, rfl, rfl, ?_⟩
        have ev : V.int (((acc ++ [V.ref p]).length : Int) - 1) = iV L2'.length := by
          rw [List.length_append, a2]
          show V.int _ = V.int _
          congr 1
          simp
        show Q (V.int (((acc ++ [V.ref p]).length : Int) - 1)) _
        rw [ev]
        rw [ht3] at g'
        exact kk e1 e2 L2'.length _ _ g' (by rw [hM]; exact q1.grow.grow) q2.grow (by rw [List.getElem?_append_right (Nat.le_refl _), Nat.sub_self]; rfl) (by rw [List.length_append, List.length_singleton]; omega)
      cases p with
      | row r =>
        have hp : v = .str (rowS r) := hp
        subst hp
        refine ⟨_, rfl, _, _, _, _, _, rfl, .ty _, .base (.str _), kit_ss K, _, rfl, iteT ?_⟩
        exact ⟨_, rfl, _, rfl, _, rfl, r, s, l, L, rfl, ho.2, hs, hL, wl, hn, fun e H' L' g p lt => k e H' L' g p lt⟩
      | thn p1 p2 =>
        obtain ⟨t, a, b, ev, ht, ha, hb⟩ := hp
        subst ev
        have hn : L.length + (sz p1 + sz p2) ≤ 60 := hn
        refine ⟨_, rfl, _, _, _, _, _, rfl, .ty _, .base (.tup ht), kit_ts K, _, rfl, iteF ?_⟩
        refine ⟨_, rfl, t, _, rfl, SqT.of ht, rfl, _, _, rfl, _, _, rfl, _, _, rfl, rfl, ?_⟩
        refine ⟨_, rfl, _, rfl, _, rfl, a, p1, s, l, L, rfl, ha, (n1 p1 p2 hd).1, ho.1, hs, hL, wl, by omega, fun e1 H1 L1 g1 q1 l1 => ?_⟩
        refine ⟨_, rfl, rfl, _, rfl, ?_⟩
        show (if decide (V.str "then" = V.str "then") = true then _ else _)
        rw [show decide (V.str "then" = V.str "then") = true from by decide +kernel]
        refine iteT ?_
        have gl1 := g1.len
        refine ⟨_, rfl, _, rfl, _, rfl, b, p2, e1, l, L1, rfl, g1.pl ⟨_, hl0⟩ hb, (n1 p1 p2 hd).2, ho.2, l1, g1.at_, g1.wf, by omega, fun e2 H2 L2' g2 q2 l2 => ?_⟩
        obtain ⟨M, hM⟩ := g2.app
        exact k e2 H2 L2' (by have g12 := g1.trans g2; rw [← List.length_append] at g12; exact g12) ⟨e1, by rw [hM]; exact q1.grow, q2⟩ l2
      | lat p1 p2 =>
        obtain ⟨t, a, b, ev, ht, ha, hb⟩ := hp
        exact joint _ t a b p1 p2 .lat (fun _ _ => rfl) (fun _ _ _ h1 h2 => ⟨h1, h2⟩) (fun _ _ => rfl) (by decide +kernel) ev ht ha hb (n1 p1 p2 hd).1 (n1 p1 p2 hd).2 ho.1 ho.2 hn fun e1 e2 e H' L' g q1 q2 q3 lt => k e H' L' (by rw [← List.length_append] at g; exact g) ⟨e1, e2, q1, q2, q3⟩ lt
      | son p1 p2 =>
        obtain ⟨t, a, b, ev, ht, ha, hb⟩ := hp
        exact joint _ t a b p1 p2 .son (fun _ _ => rfl) (fun _ _ _ h1 h2 => ⟨h1, h2⟩) (fun _ _ => rfl) (by decide +kernel) ev ht ha hb (n1 p1 p2 hd).1 (n1 p1 p2 hd).2 ho.1 ho.2 hn fun e1 e2 e H' L' g q1 q2 q3 lt => k e H' L' (by rw [← List.length_append] at g; exact g) ⟨e1, e2, q1, q2, q3⟩ lt
abbrev N_listed_values : List Str := ["one", "two", "found", "first", "second"]
theorem sc_listed_values : FnScope N_listed_values ["one", "two"] (defScope s_listed_values) := ⟨rfl, rfl, rfl, by decide +kernel, rfl, by decide +kernel, by decide +kernel⟩
theorem c_listed_values (T : Tx K mg) : C8.Cal P w K mg base 6 "listed_values" spListed [] :=
  have c_plan_values := fun T => c_plan_values (P := P) (w := w) (K := K) (mg := mg) (base := base) T 4
  mkCal T fn_listed_values rfl rfl rfl T.mg_listed_values sc_listed_values (fun _ _ _ _ _ _ us hl => match us, hl with | [_, _], _ => rfl) (fun vs H Q E h => by obtain ⟨v, u, p, q, rfl, _⟩ := h; rfl) fun f cdv A outer s0 H vs Q E hr h => by
    obtain ⟨v, u, p, q, rfl, hp, hq, dp, dq, op, oq, hn, k⟩ := h
    refine ⟨_, (pss_cons (ps_set (i := 2) sc_listed_values.nd rfl (Or.inl rfl) (pe_lst (pa_cons (pe_tup (pa_cons pe_str pa_nil)) pa_nil)))
      (pss_cons (ps_set (i := 3) sc_listed_values.nd rfl (Or.inl rfl) (C8.pe_c (c_plan_values T) hr (by decide) (by rfl) (pa_cons (pv 0) (pa_cons pe_int (pa_cons (pv 2) pa_nil)))))
      (pss_cons (ps_set (i := 4) sc_listed_values.nd rfl (Or.inl rfl) (C8.pe_c (c_plan_values T) hr (by decide) (by rfl) (pa_cons (pv 1) (pa_cons pe_int (pa_cons (pv 2) pa_nil)))))
      (pss_one (ps_ret (pe_tup (pa_cons (pv 2) (pa_cons (pe_tup (pa_cons (pv 3) (pa_cons (pv 4) pa_nil))) pa_nil)))))))), ?_⟩
    refine ⟨by show 1 ≤ sizeLine; decide, fun t1 n1 => ⟨by show 1 ≤ sizeLine; decide, fun l nl => ?_⟩⟩
    have x1 : Ex H (upd H t1 (.tup [.str "begin"])) := Evl.Ex.new n1
    have x2 : Ex (upd H t1 (.tup [.str "begin"])) (upd (upd H t1 (.tup [.str "begin"])) l (.lst [.ref t1])) := Evl.Ex.new nl
    have nlH : H l = none := by
      cases hq : H l with
      | none => rfl
      | some o => exact absurd (x1 _ _ hq) (by rw [nl]; exact fun z => nomatch z)
    have L0 : LAt (upd (upd H t1 (.tup [.str "begin"])) l (.lst [.ref t1])) l [.beg] := ⟨[t1], upd_same, rfl, fun i t x h g => by
      match i, h, g with
      | 0, h, g =>
        cases h
        cases g
        exact x2 _ _ upd_same⟩
    have W0 : WFL [.beg] := ⟨rfl, fun k t h => by
      match k, h with
      | 0, h => cases h; exact rfl⟩
    have x02 := x1.trans x2
    show tSeq _ _ _ _ (upd (upd H t1 (.tup [.str "begin"])) l (.lst [.ref t1]))
    generalize upd (upd H t1 (.tup [.str "begin"])) l (.lst [.ref t1]) = H2 at x2 L0 x02
    refine ⟨_, rfl, _, rfl, v, p, 0, l, [.beg], rfl, hp.ex x02, dp, op, by decide, L0, W0, by show 1 + sz p ≤ 60; omega, fun e1 H3 L3 g3 q3 l3 => ?_⟩
    have gl3 := g3.len
    refine ⟨_, rfl, _, rfl, u, q, 0, l, L3, rfl, g3.pl L0.lst (hq.ex x02), dq, oq, by omega, g3.at_, g3.wf, by rw [gl3]; show 1 + sz p + sz q ≤ 60; omega, fun e2 H4 L4 g4 q4 l4 => ?_⟩
    have gl4 := g4.len
    obtain ⟨M, hM⟩ := g4.app
    refine ⟨_, rfl, _, rfl, _, rfl, by show 2 ≤ sizeLine; decide, fun pe npe => ⟨by show 2 ≤ sizeLine; decide, fun pt npt => ?_⟩⟩
    have x5 : Ex H4 (upd H4 pe (.tup [iV e1, iV e2])) := Evl.Ex.new npe
    have x6 : Ex (upd H4 pe (.tup [iV e1, iV e2])) (upd (upd H4 pe (.tup [iV e1, iV e2])) pt (.tup [.ref l, .ref pe])) := Evl.Ex.new npt
    refine k pt l pe L4 e1 e2 _ (fun b o h => ?_) upd_same (x6 _ _ upd_same) ((g4.at_.ex x5).ex x6) g4.wf (by rw [gl4, gl3]; rfl) (by rw [g4.sc, g3.sc]; show 0 + _ + _ = _; omega) (by rw [hM]; exact q3.grow) q4 (by omega) l4
    have hb : b ≠ l := fun z => by rw [z, nlH] at h; cases h
    exact x6 _ _ (x5 _ _ (g4.x _ _ (g3.x _ _ (x02 _ _ h) hb) hb))
end
end K35

/-! never_slower. -/
namespace K35
open PySem PySem.Spec PyProof.Rows L2
structure Tb (H : Hp) (d : Addr) (S m : Nat) : Prop where
  t : ∃ es, H d = some (.dT es) ∧ es.length ≤ m ∧ ∀ a b, a ∈ LK → b ∈ LK → (valV es (sk a b)).isSome = S.testBit (ixb a b)
theorem mem_LK {a : Nat} (h : a ∈ LK) : 97 ≤ a ∧ a ≤ 100 := by
  unfold LK at h
  simp at h
  omega
theorem sk_inj {a b x y : Nat} (h : sk a b = sk x y) : a = x ∧ b = y := by
  unfold sk at h
  have h1 := (List.cons.inj h).1
  have h2 := (List.cons.inj (List.cons.inj h).2).1
  exact ⟨chr_inj h1, chr_inj h2⟩
theorem tb_put {es : List (List Key × V)} {S : Nat} (h : ∀ a b, a ∈ LK → b ∈ LK → (valV es (sk a b)).isSome = S.testBit (ixb a b)) {x y : Nat} (hx : x ∈ LK) (hy : y ∈ LK) (v : V) :
    ∀ a b, a ∈ LK → b ∈ LK → (valV (putK es (sk x y) v) (sk a b)).isSome = (put1 S x y).testBit (ixb a b) := by
  intro a b ha hb
  rw [valV_put]
  unfold put1
  rw [Nat.testBit_or, Nat.testBit_two_pow, ← h a b ha hb]
  have a1 := mem_LK ha
  have b1 := mem_LK hb
  have x1 := mem_LK hx
  have y1 := mem_LK hy
  by_cases e : a = x ∧ b = y
  · obtain ⟨rfl, rfl⟩ := e
    simp
  · have n1 : ¬ sk a b = sk x y := fun q => e (sk_inj q)
    have n2 : ¬ ixb x y = ixb a b := by unfold ixb; omega
    rw [if_neg n1]
    simp [n2]
theorem Tb.put {H : Hp} {d : Addr} {S m : Nat} {es : List (List Key × V)} (hl : es.length ≤ m) (h : ∀ a b, a ∈ LK → b ∈ LK → (valV es (sk a b)).isSome = S.testBit (ixb a b)) {x y : Nat} (hx : x ∈ LK) (hy : y ∈ LK) (v : V) :
    Tb (upd H d (.dT (putK es (sk x y) v))) d (put1 S x y) (m + 1) := ⟨_, upd_same, Nat.le_trans (length_putK _ _ _) (Nat.succ_le_succ hl), tb_put h hx hy v⟩
theorem Tb.ex {H H' : Hp} {d : Addr} {S m : Nat} (x : Ex H H') (h : Tb H d S m) : Tb H' d S m := by
  obtain ⟨es, h1, h2⟩ := h.t
  exact ⟨es, x _ _ h1, h2⟩
theorem Tb.up {H : Hp} {d : Addr} {S m m' : Nat} (hm : m ≤ m') (h : Tb H d S m) : Tb H d S m' := by
  obtain ⟨es, h1, h2, h3⟩ := h.t
  exact ⟨es, h1, Nat.le_trans h2 hm, h3⟩
theorem lk_at {i c : Nat} (h : ("abcd" : Str).cps[i]? = some c) : LK[i]? = some c ∧ c ∈ LK := by
  have e : ("abcd" : Str).cps.toList = LK := by decide +kernel
  rw [← Array.getElem?_toList, e] at h
  exact ⟨h, List.mem_of_getElem? h⟩
def spNever (K : PySem.W.Frag) : Sp := fun vs H Q _ => ∃ (v : V) (fs : List (Nat × Nat)), vs = [v] ∧ FcAt K H v fs ∧ OkF fs ∧ ∀ d H', Ex H H' → SlowAt (slowOf fs) H' d → Q (.ref d) H'
section
variable {P : Program} {w : World} {K : PySem.W.Frag} {mg : Str → Option Value} {base : Heap}
abbrev N_never_slower : List Str := ["facts", "found", "fact", "middle", "one", "other", "letter"]
theorem sc_never_slower : FnScope N_never_slower ["facts"] (defScope s_never_slower) := ⟨rfl, rfl, rfl, by decide +kernel, rfl, by decide +kernel, by decide +kernel⟩
theorem c_never_slower (T : Tx K mg) : C8.Cal P w K mg base 1 "never_slower" (spNever K) [] :=
  mkCal T fn_never_slower rfl rfl rfl T.mg_never_slower sc_never_slower (fun _ _ _ _ _ _ us hl => match us, hl with | [_], _ => rfl) (fun vs H Q E h => by obtain ⟨v, fs, rfl, _⟩ := h; rfl) fun f cdv A outer s0 H vs Q E hr h => by
    obtain ⟨v, fs, rfl, hF, ok, k⟩ := h
    have hu := hu_of hr
    refine ⟨_, (pss_cons (ps_setDcT (i := 1) (own := [("letter", 6)]) (g := gName 6) hu rfl sc_never_slower.nd rfl rfl (sw_trueD rfl rfl rfl (by decide +kernel)) (pi_str (C8.pe_gc rfl T.s_LINKS)) (blkOk_by (own := [("letter", 6)]) (N := N_never_slower) (sc := defScope s_never_slower) (by decide +kernel)) (fun _ _ _ _ _ => (pg_name (i := 6) sc_never_slower.nd rfl (Or.inl rfl))) (fun _ _ _ _ _ => pts_nil) (fun _ _ _ _ _ => (pe_tup (pa_cons (pv 6) (pa_cons (pv 6) pa_nil)))) (fun _ _ _ _ _ => pe_bl))
      (pss_cons (ps_for PassesOwn.never rfl (pi_both (K := K) rfl (pv 0)) (pg_name (i := 2) sc_never_slower.nd rfl (Or.inl rfl)) (pss_one (ps_dput hu (pv 1) (pv 2) pe_bl rfl)))
      (pss_cons (ps_for PassesOwn.never rfl (pi_str (C8.pe_gc rfl T.s_LINKS)) (pg_name (i := 3) sc_never_slower.nd rfl (Or.inl rfl)) (pss_one (ps_for PassesOwn.never rfl (pi_str (C8.pe_gc rfl T.s_LINKS)) (pg_name (i := 4) sc_never_slower.nd rfl (Or.inl rfl)) (pss_one (ps_for PassesOwn.never rfl (pi_str (C8.pe_gc rfl T.s_LINKS)) (pg_name (i := 5) sc_never_slower.nd rfl (Or.inl rfl)) (pss_one (ps_if (PW.pt (pw_and (pt_cmp (pc_din hu (pe_tup (pa_cons (pv 4) (pa_cons (pv 3) pa_nil))) (pv 1))) (pw_and1 (pt_cmp (pc_din hu (pe_tup (pa_cons (pv 3) (pa_cons (pv 5) pa_nil))) (pv 1)))))) (pss_one (ps_dput hu (pv 1) (pe_tup (pa_cons (pv 4) (pa_cons (pv 5) pa_nil))) pe_bl rfl)) pss_nil)))))))
      (pss_one (ps_ret (pv 1)))))), ?_⟩
    obtain ⟨a, ts, rfl, ha, hl, hf⟩ := hF
    refine ⟨_, rfl, fun d nd => ?_⟩
    refine dcT_wk (wk_str (z := ("abcd" : Str))) (fun i H' => Ex H H' ∧ Tb H' d (K35.s0 (LK.take i)) i) ⟨Evl.Ex.new nd, ⟨[], upd_same, Nat.le_refl _, fun a b _ _ => by simp [valV_nil, K35.s0]⟩⟩ (fun _ _ _ _ => trivial) ?_ ?_
    · rintro i y H1 H2 hi ⟨x1, tb⟩ ⟨rfl, c, hcc, rfl⟩
      obtain ⟨hlk, mc⟩ := lk_at hcc
      have hi4 : i < 4 := hi
      refine ⟨rfl, ?_⟩
      refine ⟨_, rfl, _, rfl, by show 2 ≤ sizeLine; decide, fun p np => ?_⟩
      have xp : Ex H2 (upd H2 p (.tup ((sk c c).map kV))) := Evl.Ex.new np
      obtain ⟨es, t1, t2, t3⟩ := (tb.ex xp).t
      refine ⟨es, sk c c, p, rfl, upd_same, t1, lt_line (by omega), Evl.Ex.mut (x1.trans xp) nd, ?_⟩
      have q := Tb.put (H := upd H2 p (.tup ((sk c c).map kV))) (d := d) t2 t3 mc mc (.bl true)
      have e : K35.s0 (LK.take (i + 1)) = put1 (K35.s0 (LK.take i)) c c := by
        unfold K35.s0
        rw [List.take_add_one, hlk, List.foldl_append]
        rfl
      rw [e]
      exact q
    rintro H1 ⟨x1, tb⟩
    have tb1 : Tb H1 d (sF (K35.s0 LK) (fs.take 0)) 4 := tb
    have hok : ∀ p ∈ fs, p.1 ∈ LK ∧ p.2 ∈ LK := fun p hp => by
      have : ∀ p ∈ prs12, p.1 ∈ LK ∧ p.2 ∈ LK := by decide +kernel
      exact this p (ok.2 p hp)
    have hl2 := ok.1
    have factStep : ∀ (i : Nat) (y : V) (H2 : Hp) (v2 : Option V) (Kf : L2.St → Hp → Prop), (ts.map V.ref)[i]? = some y → Ex H H2 → Tb H2 d (sF (K35.s0 LK) (fs.take i)) (4 + i) →
        (∀ σ H', (Ex H H' ∧ (∃ v2, σ = ([some (.ref a), some (.ref d), v2, none, none, none, none] : L2.St)) ∧ Tb H' d (sF (K35.s0 LK) (fs.take (i + 1))) (4 + (i + 1))) → Kf σ H') →
        (∃ (a' : Addr) (H4 : Hp), V.ref d = .ref a' ∧ DPut H2 a' y (.bl true) H4 ∧ Kf [some (.ref a), some (.ref d), some y, none, none, none, none] H4) := by
      intro i y H2 v2 Kf hy x2 tb2 hK
      rw [List.getElem?_map] at hy
      obtain ⟨t, ht, rfl⟩ := Option.map_eq_some_iff.mp hy
      have hi : i < fs.length := by rw [← hl]; exact (List.getElem?_eq_some_iff.mp ht).1
      obtain ⟨r, hr0⟩ : ∃ r, fs[i]? = some r := ⟨fs[i], List.getElem?_eq_getElem hi⟩
      obtain ⟨m1, m2⟩ := hok r (List.mem_of_getElem? hr0)
      obtain ⟨es, t1, t2, t3⟩ := tb2.t
      refine ⟨d, _, rfl, .inr ⟨es, sk r.1 r.2, t, t1, rfl, x2 _ _ (hf i t r ht hr0), lt_line (by omega), rfl⟩, hK _ _ ⟨Evl.Ex.mut x2 nd, ⟨_, rfl⟩, ?_⟩⟩
      have e : sF (K35.s0 LK) (fs.take (i + 1)) = put1 (sF (K35.s0 LK) (fs.take i)) r.1 r.2 := by
        unfold sF
        rw [List.take_add_one, hr0, List.foldl_append]
        rfl
      rw [e]
      exact Tb.put t2 t3 m1 m2 _
    have rest : ∀ (H2 : Hp) (v2 : Option V) , Ex H H2 → Tb H2 d (sF (K35.s0 LK) fs) 6 →
        (tSeq
          (tFor (iStr (tC (V.str (Str.ofString "abcd")))) (gName 3)
            (tFor (iStr (tC (V.str (Str.ofString "abcd")))) (gName 4)
              (tFor (iStr (tC (V.str (Str.ofString "abcd")))) (gName 5)
                (tIfS
                  (tAnd (tB (tDIn (tTup (tCons (tVar 4) (tCons (tVar 3) tNil))) (tVar 1)))
                    (tB (tDIn (tTup (tCons (tVar 3) (tCons (tVar 5) tNil))) (tVar 1))))
                  (sDPut (tVar 1) (tTup (tCons (tVar 4) (tCons (tVar 5) tNil))) (tC (V.bl true))) tNext))))
          (tRet (tVar 1))) { nx := fun x H' => Q V.non H', rt := Q } [some (.ref a), some (.ref d), v2, none, none, none, none] H2 := by
      intro H2 v2 x2 tb2
      generalize hS0 : sF (K35.s0 LK) fs = S0 at tb2
      have tk4 : ∀ i, ("abcd" : Str).cps.size = i → i = 4 := fun i h => by rw [← h]; rfl
      have tkAll : LK.take ("abcd" : Str).cps.size = LK := by decide +kernel
      refine ⟨_, rfl, ?_⟩
      refine for_wk (wk_str (z := ("abcd" : Str))) (fun i σ H' => Ex H H' ∧ (∃ v3 v4 v5, σ = ([some (.ref a), some (.ref d), v2, v3, v4, v5, none] : L2.St)) ∧ Tb H' d (w1 S0 (LK.take i)) (6 + 16 * i)) ⟨x2, ⟨none, none, none, rfl⟩, tb2⟩ (fun _ _ _ _ _ => trivial) ?_ ?_
      · rintro i y σ H3 H3' hi ⟨x3, ⟨v3, v4, v5, rfl⟩, tb3⟩ ⟨rfl, m, hm, rfl⟩
        obtain ⟨lm, mm⟩ := lk_at hm
        have hi4 : i < 4 := hi
        generalize hS1 : w1 S0 (LK.take i) = S1 at tb3
        refine ⟨_, rfl, ?_⟩
        refine for_wk (wk_str (z := ("abcd" : Str))) (fun j σ H' => Ex H H' ∧ (∃ v4 v5, σ = ([some (.ref a), some (.ref d), v2, some (.str (chr m)), v4, v5, none] : L2.St)) ∧ Tb H' d (w2 m S1 (LK.take j)) (6 + 16 * i + 4 * j)) ⟨x3, ⟨v4, v5, rfl⟩, tb3⟩ (fun _ _ _ _ _ => trivial) ?_ ?_
        · rintro j y σ H4 H4' hj ⟨x4, ⟨v4, v5, rfl⟩, tb4⟩ ⟨rfl, o, ho, rfl⟩
          obtain ⟨lo', mo⟩ := lk_at ho
          have hj4 : j < 4 := hj
          generalize hS2 : w2 m S1 (LK.take j) = S2 at tb4
          refine ⟨_, rfl, ?_⟩
          refine for_wk (wk_str (z := ("abcd" : Str))) (fun l σ H' => Ex H H' ∧ (∃ v5, σ = ([some (.ref a), some (.ref d), v2, some (.str (chr m)), some (.str (chr o)), v5, none] : L2.St)) ∧ Tb H' d (w3 m o S2 (LK.take l)) (6 + 16 * i + 4 * j + l)) ⟨x4, ⟨v5, rfl⟩, tb4⟩ (fun _ _ _ _ _ => trivial) ?_ ?_
          · rintro l y σ H5 H5' hl' ⟨x5, ⟨v5, rfl⟩, tb5⟩ ⟨rfl, b, hb, rfl⟩
            obtain ⟨lb, mb⟩ := lk_at hb
            have hl4 : l < 4 := hl'
            have e : w3 m o S2 (LK.take (l + 1)) = if ((w3 m o S2 (LK.take l)).testBit (ixb o m) && (w3 m o S2 (LK.take l)).testBit (ixb m b)) = true then put1 (w3 m o S2 (LK.take l)) o b else w3 m o S2 (LK.take l) := by
              unfold w3
              rw [List.take_add_one, lb, List.foldl_append]
              rfl
            rw [e]
            generalize w3 m o S2 (LK.take l) = S3 at tb5
            refine ⟨_, rfl, _, rfl, by show 2 ≤ sizeLine; decide, fun p np => ?_⟩
            have xp : Ex H5' (upd H5' p (.tup ((sk o m).map kV))) := Evl.Ex.new np
            obtain ⟨es, t1, t2, t3⟩ := (tb5.ex xp).t
            refine ⟨_, rfl, d, _, rfl, .inr ⟨es, sk o m, p, .inl t1, rfl, upd_same, rfl⟩, _, rfl, ?_⟩
            rw [t3 o m mo mm]
            cases h1 : S3.testBit (ixb o m) with
            | false => exact iteF (iteF ⟨x5.trans xp, ⟨_, rfl⟩, ⟨es, t1, by omega, by simpa using t3⟩⟩)
            | true =>
              refine iteT ?_
              refine ⟨_, rfl, _, rfl, by show 2 ≤ sizeLine; decide, fun p2 np2 => ?_⟩
              have xp2 : Ex (upd H5' p (.tup ((sk o m).map kV))) (upd (upd H5' p (.tup ((sk o m).map kV))) p2 (.tup ((sk m b).map kV))) := Evl.Ex.new np2
              refine ⟨_, rfl, d, _, rfl, .inr ⟨es, sk m b, p2, .inl (xp2 _ _ t1), rfl, upd_same, rfl⟩, _, rfl, ?_⟩
              rw [t3 m b mm mb]
              have x7 := (x5.trans xp).trans xp2
              cases h2 : S3.testBit (ixb m b) with
              | false => exact iteF ⟨x7, ⟨_, rfl⟩, ⟨es, xp2 _ _ t1, by omega, by simpa using t3⟩⟩
              | true =>
                refine iteT ?_
                refine ⟨_, rfl, _, rfl, _, rfl, by show 2 ≤ sizeLine; decide, fun p3 np3 => ?_⟩
                have xp3 : Ex (upd (upd H5' p (.tup ((sk o m).map kV))) p2 (.tup ((sk m b).map kV))) (upd (upd (upd H5' p (.tup ((sk o m).map kV))) p2 (.tup ((sk m b).map kV))) p3 (.tup ((sk o b).map kV))) := Evl.Ex.new np3
                refine ⟨d, _, rfl, .inr ⟨es, sk o b, p3, xp3 _ _ (xp2 _ _ t1), rfl, upd_same, lt_line (by omega), rfl⟩, Evl.Ex.mut (x7.trans xp3) nd, ⟨_, rfl⟩, ?_⟩
                have q := Tb.put (H := (upd (upd (upd H5' p (.tup ((sk o m).map kV))) p2 (.tup ((sk m b).map kV))) p3 (.tup ((sk o b).map kV)))) (d := d) t2 t3 mo mb (.bl true)
                exact q
          · rintro σ H5 ⟨x5, ⟨v5, rfl⟩, tb5⟩
            rw [tkAll] at tb5
            refine ⟨x5, ⟨_, _, rfl⟩, ?_⟩
            have e : w2 m S1 (LK.take (j + 1)) = w3 m o S2 LK := by
              rw [← hS2]
              unfold w2
              rw [List.take_add_one, lo', List.foldl_append]
              rfl
            rw [e]
            exact tb5.up (by show 6 + 16 * i + 4 * j + 4 ≤ _; omega)
        · rintro σ H4 ⟨x4, ⟨v4, v5, rfl⟩, tb4⟩
          rw [tkAll] at tb4
          refine ⟨x4, ⟨_, _, _, rfl⟩, ?_⟩
          have e : w1 S0 (LK.take (i + 1)) = w2 m S1 LK := by
            rw [← hS1]
            unfold w1
            rw [List.take_add_one, lm, List.foldl_append]
            rfl
          rw [e]
          exact tb4.up (by show 6 + 16 * i + 4 * 4 ≤ _; omega)
      · rintro σ H3 ⟨x3, ⟨v3, v4, v5, rfl⟩, tb3⟩
        rw [tkAll, ← hS0] at tb3
        obtain ⟨es, t1, t2, t3⟩ := tb3.t
        refine ⟨_, rfl, k d H3 x3 ⟨es, t1, fun x y hx1 hx2 hy1 hy2 => ?_⟩⟩
        have mx : x ∈ LK := inL_iff.mp (by unfold inL; simp; omega)
        have my : y ∈ LK := inL_iff.mp (by unfold inL; simp; omega)
        rw [t3 x y mx my, slow_in ok mx my]
        rfl
    rcases ha with h | ⟨ets, h⟩
    · have h' := x1 _ _ h
      refine ⟨_, rfl, a, rfl, .inl ⟨⟨_, SqL.of h'⟩, ?_⟩⟩
      refine for_wk (wk_list (K := K) (a := a) (xs := ts.map V.ref)) (fun i σ H' => Ex H H' ∧ (∃ v2, σ = ([some (.ref a), some (.ref d), v2, none, none, none, none] : L2.St)) ∧ Tb H' d (sF (K35.s0 LK) (fs.take i)) (4 + i)) ⟨x1, ⟨none, rfl⟩, tb1⟩ (fun i σ H' _ p => SqL.of (p.1 _ _ h)) ?_ ?_
      · rintro i y σ H2 H3 hi ⟨x2, ⟨v2, rfl⟩, tb2⟩ ⟨rfl, hy⟩
        obtain ⟨a', H4, e1, e2, e3⟩ := factStep i y _ v2 _ hy x2 tb2 fun σ H' z => z
        exact ⟨_, rfl, _, rfl, a', H4, e1, e2, e3⟩
      · rintro σ H2 ⟨x2, ⟨v2, rfl⟩, tb2⟩
        rw [List.length_map, hl, List.take_length] at tb2
        exact rest H2 v2 x2 (tb2.up (by omega))
    · have h' : ∀ H', Ex H H' → SqT K H' a (ts.map V.ref) := fun H' x => by
        rw [ets]
        rcases h with (h | ⟨o, h⟩) | h
        · exact .inl (.inl (x _ _ h))
        · exact .inl (.inr ⟨o, x _ _ h⟩)
        · exact .inr h
      refine ⟨_, rfl, a, rfl, .inr ⟨⟨_, h' _ x1⟩, ?_⟩⟩
      refine for_wk (wk_tup (K := K) (a := a) (xs := ts.map V.ref)) (fun i σ H' => Ex H H' ∧ (∃ v2, σ = ([some (.ref a), some (.ref d), v2, none, none, none, none] : L2.St)) ∧ Tb H' d (sF (K35.s0 LK) (fs.take i)) (4 + i)) ⟨x1, ⟨none, rfl⟩, tb1⟩ (fun i σ H' _ p => h' _ p.1) ?_ ?_
      · rintro i y σ H2 H3 hi ⟨x2, ⟨v2, rfl⟩, tb2⟩ ⟨rfl, hy⟩
        obtain ⟨a', H4, e1, e2, e3⟩ := factStep i y _ v2 _ hy x2 tb2 fun σ H' z => z
        exact ⟨_, rfl, _, rfl, a', H4, e1, e2, e3⟩
      · rintro σ H2 ⟨x2, ⟨v2, rfl⟩, tb2⟩
        rw [List.length_map, hl, List.take_length] at tb2
        exact rest H2 v2 x2 (tb2.up (by omega))
end
end K35

/-! compared, compare, is_never, alike. -/
namespace K35
open PySem PySem.Spec PyProof.Rows L2
theorem FcAt.ex {K : PySem.W.Frag} {H H' : Hp} {v : V} {fs : List (Nat × Nat)} (x : Ex H H') (h : FcAt K H v fs) : FcAt K H' v fs := by
  obtain ⟨a, ts, e, h1, h2, h3⟩ := h
  refine ⟨a, ts, e, ?_, h2, fun i t p g1 g2 => x _ _ (h3 i t p g1 g2)⟩
  rcases h1 with h1 | ⟨e1, h1⟩
  · exact .inl (x _ _ h1)
  · refine .inr ⟨e1, ?_⟩
    rcases h1 with (h | ⟨o, h⟩) | h
    · exact .inl (.inl (x _ _ h))
    · exact .inl (.inr ⟨o, x _ _ h⟩)
    · exact .inr h
theorem ev_none {slow : Nat → Nat → Bool} (M : Md slow) : ∀ {p : Pl}, stp p = [] → ∀ t, ev M p t = t
  | .row r, h, t => by
    have h : r = [] := h
    subst h
    rfl
  | .thn p q, h, t => by
    have h := List.append_eq_nil_iff.mp h
    show ev M q (ev M p t) = t
    rw [ev_none M h.1, ev_none M h.2]
  | .lat p q, h, t => by
    have h := List.append_eq_nil_iff.mp h
    show max (ev M p t) (ev M q t) = t
    rw [ev_none M h.1, ev_none M h.2]
    exact Int.max_self t
  | .son p q, h, t => by
    have h := List.append_eq_nil_iff.mp h
    show min (ev M p t) (ev M q t) = t
    rw [ev_none M h.1, ev_none M h.2]
    exact Int.min_self t
/-- two plans and facts, that compare takes and decides -/
structure CmpOk (K : PySem.W.Frag) (H : Hp) (v u fv : V) (p q : Pl) (fs : List (Nat × Nat)) : Prop where
  a : PlAt H v p
  b : PlAt H u q
  f : FcAt K H fv fs
  pk : POk p
  qk : POk q
  fo : OkF fs
  s : (stp p).length + (stp q).length ≤ 12
  n : 1 + sz p + sz q ≤ 30
  t : 1 + sz p + sz q ≤ 9 ∨ Tri (slowOf fs) p q
theorem CmpOk.ex {K : PySem.W.Frag} {H H' : Hp} {v u fv : V} {p q : Pl} {fs : List (Nat × Nat)} (x : Ex H H') (c : CmpOk K H v u fv p q fs) : CmpOk K H' v u fv p q fs := ⟨c.a.ex x, c.b.ex x, c.f.ex x, c.pk, c.qk, c.fo, c.s, c.n, c.t⟩
def spCmp (K : PySem.W.Frag) : Sp := fun vs H Q _ => ∃ (v u fv : V) (p q : Pl) (fs : List (Nat × Nat)), vs = [v, u, fv] ∧ CmpOk K H v u fv p q fs ∧
  ∀ t H' (b : Bool) ws, Ex H H' → H' t = some (.tup (.str (if b = true then "never" else "later") :: ws)) → (b = true ↔ Nev (slowOf fs) p q) → Q (.ref t) H'
def spIsNev (K : PySem.W.Frag) : Sp := fun vs H Q _ => ∃ (v u fv : V) (p q : Pl) (fs : List (Nat × Nat)), vs = [v, u, fv] ∧ CmpOk K H v u fv p q fs ∧
  ∀ H' (b : Bool), Ex H H' → (b = true ↔ Nev (slowOf fs) p q) → Q (.bl b) H'
def spAlike (K : PySem.W.Frag) : Sp := fun vs H Q _ => ∃ (v u fv : V) (p q : Pl) (fs : List (Nat × Nat)), vs = [v, u, fv] ∧ CmpOk K H v u fv p q fs ∧ CmpOk K H u v fv q p fs ∧
  ∀ H' (b : Bool), Ex H H' → (b = true ↔ Nev (slowOf fs) p q ∧ Nev (slowOf fs) q p) → Q (.bl b) H'
section
variable {P : Program} {w : World} {K : PySem.W.Frag} {mg : Str → Option Value} {base : Heap}
/-- a def of the module, with defaults: the first j of them are written by the call -/
theorem mkCalD (T : Tx K mg) {d : He.DefD} {x : Str} {i : Nat} {N ps : List Str} {k : Nat} {sp : Sp} (hd : fn[i]? = some d) (hat : d.at_ = (x, none)) (hdf : d.dvs K ≠ []) (hkw : d.kws K = []) (hm : mg x = some (.ref (He.ga K x))) (S : FnScope N ps d.scope) (n j : Nat) (hn : n + ((d.dvs K).length - j) = ps.length)
    (hbind : ∀ (T : Addr) (kV doc pm : Value) (an : Option Addr) (cdv ct : Value) (us its : List Value), us.length = n → its.length = (d.dvs K).length →
      ∃ k, bindArgs (PySem.W.fnOf d.name d.qual d.params d.body d.scope (.ref T) kV doc pm an cdv ct) ⟨us, []⟩ = seqItems? (.ref T) >>= k ∧ k (some its.toArray) = pure (ps.zip (us ++ its.drop j)))
    (len : ∀ vs H Q E, sp vs H Q E → vs.length = ps.length) (hb : Body P w K mg base d N k sp) : C8.Cal P w K mg base (k + 1) x sp ((d.dvs K).drop j) := by
  obtain ⟨fd, F⟩ := T.says.def_ i hd
  rw [hkw, hat] at F
  obtain ⟨ds, r, b⟩ := F.binds1 n j hdf hn hbind
  exact ⟨_, fd, ps, ds, mkF F S len (hb _), hm, F.kp, b, r⟩
abbrev N_compared : List Str := ["one", "two", "facts", "listed", "ends", "slower", "tree", "order", "numbers"]
theorem sc_compared : FnScope N_compared ["one", "two", "facts"] (defScope s_compared) := ⟨rfl, rfl, rfl, by decide +kernel, rfl, by decide +kernel, by decide +kernel⟩
theorem c_compared (T : Tx K mg) : C8.Cal P w K mg base 8 "compared" (spCmp K) [] :=
  mkCal T fn_compared rfl rfl rfl T.mg_compared sc_compared (fun _ _ _ _ _ _ us hl => match us, hl with | [_, _, _], _ => rfl) (fun vs H Q E h => by obtain ⟨v, u, fv, p, q, fs, rfl, _⟩ := h; rfl) fun f cdv A outer s0 H vs Q E hr h => by
    obtain ⟨v, u, fv, p, q, fs, rfl, c, k⟩ := h
    have hu := hu_of hr
    refine ⟨_, (pss_cons (ps_asg (C8.pe_c (c_listed_values T) hr (by decide) (by rfl) (pa_cons (pv 0) (pa_cons (pv 1) pa_nil))) (pg_tup rfl (pgs_cons (pg_name (i := 3) sc_compared.nd rfl (Or.inl rfl)) (pgs_cons (pg_name (i := 4) sc_compared.nd rfl (Or.inl rfl)) pgs_nil))))
      (pss_cons (ps_if (pt_cmpR op_gt (C8.pe_c (c_steps_among T) hr (by decide) (by rfl) (pa_cons (pv 3) pa_nil)) (C8.pe_gc rfl T.i_MOST_STEPS_compare) (nomark _)) (pss_one ps_never) pss_nil)
      (pss_cons (ps_set (i := 5) sc_compared.nd rfl (Or.inl rfl) (C8.pe_c (c_never_slower T) hr (by decide) (by rfl) (pa_cons (pv 2) pa_nil)))
      (pss_cons (ps_asg (C8.pe_c (c_searched T) hr (by decide) (by rfl) (pa_cons (pv 3) (pa_cons (pv 4) (pa_cons (pv 5) pa_nil)))) (pg_tup rfl (pgs_cons (pg_name (i := 6) sc_compared.nd rfl (Or.inl rfl)) (pgs_cons (pg_name (i := 7) sc_compared.nd rfl (Or.inl rfl)) pgs_nil))))
      (pss_cons (ps_if (pt_cmpR op_isN (pv 7) pe_non (nomark _)) (pss_one (ps_ret (pe_tup (pa_cons pe_str (pa_cons (pv 6) pa_nil))))) pss_nil)
      (pss_cons (ps_set (i := 8) sc_compared.nd rfl (Or.inl rfl) (C8.pe_c (c_numbers_of T) hr (by decide) (by rfl) (pa_cons (pv 7) pa_nil)))
      (pss_one (ps_ret (pe_tup (pa_cons pe_str (pa_cons (C8.pe_c (c_timetable_of T) hr (by decide) (by rfl) (pa_cons (pv 3) (pa_cons (pv 8) (pa_cons (pv 5) pa_nil)))) (pa_cons (pe_ix (ix_listK (K := K) rfl) (pv 8) pe_int (fun _ _ => rfl)) pa_nil)))))))))))), ?_⟩
    have hn := c.n
    refine ⟨_, rfl, _, rfl, v, u, p, q, rfl, c.a, c.b, c.pk.d, c.qk.d, c.pk.r, c.qk.r, by omega, fun tp l e L e1 e2 H1 x1 ht he hL wl hlen hst p1 p2 l1 l2 => ?_⟩
    refine ⟨tp, _, rfl, SqT.of ht, rfl, _, _, rfl, _, _, rfl, rfl, ?_⟩
    have hs12 := c.s
    have hsk : stepsK L L.length = (stp p).length + (stp q).length := by
      unfold stepsK
      rw [List.take_length]
      exact hst
    refine ⟨_, rfl, l, L, rfl, hL, by omega, fun H2 x2 => ⟨_, _, rfl, rfl, _, rfl, ?_⟩⟩
    rw [hsk, decide_eq_false (show ¬ ((12 : Int) < (((stp p).length + (stp q).length : Nat) : Int)) by omega)]
    refine iteF ?_
    have x12 := x1.trans x2
    refine ⟨_, rfl, fv, fs, rfl, c.f.ex x12, c.fo, fun d H3 x3 hd => ?_⟩
    have x23 := x2.trans x3
    have x13 := x12.trans x3
    have hL3 := RowsAt.ex x23 hL
    have he3 := x23 _ _ he
    refine ⟨_, rfl, _, rfl, _, rfl, l, e, d, slowOf fs, L, e1, e2, rfl, hL3, wl, by omega, hd, he3, l1, l2, ?pre, fun t pt H4 x4 ht4 hv => ?_, fun t a rs js U B H4 x4 ht4 O F => ?_⟩
    case pre =>
      rcases c.t with h | h
      · exact .inl (by omega)
      · exact .inr fun rs js U B R F => h L e1 e2 rs js U B wl R p1 p2 F
    · refine ⟨t, _, rfl, SqT.of ht4, rfl, _, _, rfl, _, _, rfl, rfl, ?_⟩
      refine ⟨_, rfl, rfl, _, rfl, iteT ⟨_, rfl, by show 2 ≤ sizeLine; decide, fun r nr => ?_⟩⟩
      exact k r _ true _ ((x13.trans x4).trans (Evl.Ex.new nr)) upd_same ⟨fun _ => nev_of wl p1 p2 hv, fun _ => rfl⟩
    · refine ⟨t, _, rfl, SqT.of ht4, rfl, _, _, rfl, _, _, rfl, rfl, ?_⟩
      refine ⟨_, rfl, rfl, _, rfl, iteF ?_⟩
      refine ⟨_, rfl, a, L.length, rs, js, U, B, rfl, O, F.wf, by omega, fun nl H5 x5 hnl => ?_⟩
      have nn := not_nev wl F.R F.wf F.ini F.clo F.nc F.dec (slow_refl fs) (slow_tr c.fo) p1 p2 F.neg
      have nsteps : 1 ≤ stepsK L L.length := by
        rw [hsk]
        rcases Nat.eq_zero_or_pos ((stp p).length + (stp q).length) with h | h
        · have hp0 : stp p = [] := List.length_eq_zero_iff.mp (by omega)
          have hq0 : stp q = [] := List.length_eq_zero_iff.mp (by omega)
          exact absurd (fun M t => by rw [ev_none M hp0, ev_none M hq0]; exact Int.le_refl _) nn
        · exact h
      have gN : ∀ i, i < L.length → (nums L.length B).getD i 0 = numK L.length B i := fun i hi => by
        unfold nums
        rw [List.getD_eq_getElem?_getD, List.getElem?_map, List.getElem?_range hi]
        rfl
      have x45 := x4.trans x5
      refine ⟨_, rfl, _, rfl, _, rfl, l, nl, d, slowOf fs, L, nums L.length B, rfl, RowsAt.ex x45 hL3, wl, by omega, hnl, by simp [nums], fun kk c' i hk => ?_, hd.ex x45, nsteps, fun v6 H6 x6 => ?_⟩
      · obtain ⟨hi, hk'⟩ := wl.idx hk
        rw [gN i hi, gN kk hk']
        have z := F.ini.st kk c' i hk
        cases fc : isF c' with
        | true =>
          rw [fc] at z
          exact num_le F.clo.tc z
        | false =>
          rw [fc] at z
          exact num_le F.clo.tc z
      · have hn0 : 0 < L.length := (List.getElem?_eq_some_iff.mp wl.b0).1
        have hn6 := x6 _ _ hnl
        refine ⟨_, rfl, nl, _, _, _, rfl, rfl, SqL.of hn6, atI_nat (j := 0) (nV_at (by simp [nums]; omega)), by show 3 ≤ sizeLine; decide, fun r nr => ?_⟩
        exact k r _ false _ ((x13.trans x45).trans (x6.trans (Evl.Ex.new nr))) upd_same ⟨fun z => Bool.noConfusion z, fun z => absurd z nn⟩
abbrev N_compare : List Str := ["one", "two", "facts"]
theorem sc_compare : FnScope N_compare ["one", "two", "facts"] (defScope s_compare) := ⟨rfl, rfl, rfl, by decide +kernel, rfl, by decide +kernel, by decide +kernel⟩
theorem c_compare (T : Tx K mg) : C8.Cal P w K mg base 9 "compare" (spCmp K) [] :=
  mkCalD (n := 3) (j := 1) T fn_compare rfl (fun z => nomatch z) rfl T.mg_compare sc_compare rfl (fun _ _ _ _ _ _ _ us its h1 h2 => match us, h1 with | [_, _, _], _ => match its, h2 with | [_], _ => ⟨_, rfl, rfl⟩) (fun vs H Q E h => by obtain ⟨v, u, fv, p, q, fs, rfl, _⟩ := h; rfl) fun f cdv A outer s0 H vs Q E hr h => by
    obtain ⟨v, u, fv, p, q, fs, rfl, c, k⟩ := h
    refine ⟨_, (pss_cons (ps_expr (C8.pe_c (c_need_plan T) hr (by decide) (by rfl) (pa_cons (pv 0) pa_nil)))
      (pss_cons (ps_expr (C8.pe_c (c_need_plan T) hr (by decide) (by rfl) (pa_cons (pv 1) pa_nil)))
      (pss_cons (ps_expr (C8.pe_c (c_need_facts T) hr (by decide) (by rfl) (pa_cons (pv 2) pa_nil)))
      (pss_one (ps_ret (C8.pe_c (c_compared T) hr (by decide) (by rfl) (pa_cons (pv 0) (pa_cons (pv 1) (pa_cons (pv 2) pa_nil))))))))), ?_⟩
    refine ⟨_, rfl, v, p, rfl, c.a, c.pk, fun H1 x1 => ?_⟩
    refine ⟨_, rfl, u, q, rfl, c.b.ex x1, c.qk, fun H2 x2 => ?_⟩
    have x12 := x1.trans x2
    refine ⟨_, rfl, fv, fs, rfl, c.f.ex x12, c.fo, fun H3 x3 => ?_⟩
    have x13 := x12.trans x3
    exact ⟨_, rfl, _, rfl, _, rfl, v, u, fv, p, q, fs, rfl, c.ex x13, fun t H' b ws x4 h1 h2 => k t H' b ws (x13.trans x4) h1 h2⟩
abbrev N_is_never : List Str := ["one", "two", "facts"]
theorem sc_is_never : FnScope N_is_never ["one", "two", "facts"] (defScope s_is_never) := ⟨rfl, rfl, rfl, by decide +kernel, rfl, by decide +kernel, by decide +kernel⟩
theorem c_is_never (T : Tx K mg) : C8.Cal P w K mg base 9 "is_never" (spIsNev K) [] :=
  mkCal T fn_is_never rfl rfl rfl T.mg_is_never sc_is_never (fun _ _ _ _ _ _ us hl => match us, hl with | [_, _, _], _ => rfl) (fun vs H Q E h => by obtain ⟨v, u, fv, p, q, fs, rfl, _⟩ := h; rfl) fun f cdv A outer s0 H vs Q E hr h => by
    obtain ⟨v, u, fv, p, q, fs, rfl, c, k⟩ := h
    refine ⟨_, (pss_one (ps_ret (pe_cmpR op_eq (pe_ix (ix_tupK (K := K) rfl) (C8.pe_c (c_compared T) hr (by decide) (by rfl) (pa_cons (pv 0) (pa_cons (pv 1) (pa_cons (pv 2) pa_nil)))) pe_int (fun _ _ => rfl)) pe_str (nomark _)))), ?_⟩
    refine ⟨_, rfl, _, rfl, _, rfl, v, u, fv, p, q, fs, rfl, c, fun t H1 b ws x1 h1 h2 => ?_⟩
    refine ⟨t, _, _, _, rfl, rfl, SqT.of h1, atI_nat (j := 0) rfl, rfl, ?_⟩
    cases b with
    | true => exact k H1 true x1 h2
    | false => exact k H1 false x1 h2
abbrev N_alike : List Str := ["one", "two", "facts"]
theorem sc_alike : FnScope N_alike ["one", "two", "facts"] (defScope s_alike) := ⟨rfl, rfl, rfl, by decide +kernel, rfl, by decide +kernel, by decide +kernel⟩
theorem b_alike (T : Tx K mg) : Body P w K mg base d_alike N_alike 9 (spAlike K) := fun f cdv A outer s0 H vs Q E hr h => by
    obtain ⟨v, u, fv, p, q, fs, rfl, c, c', k⟩ := h
    refine ⟨_, (pss_cons (ps_expr (C8.pe_c (c_need_plan T) hr (by decide) (by rfl) (pa_cons (pv 0) pa_nil)))
      (pss_cons (ps_expr (C8.pe_c (c_need_plan T) hr (by decide) (by rfl) (pa_cons (pv 1) pa_nil)))
      (pss_cons (ps_expr (C8.pe_c (c_need_facts T) hr (by decide) (by rfl) (pa_cons (pv 2) pa_nil)))
      (pss_one (ps_ret (pe_and (C8.pe_c (c_is_never T) hr (by decide) (by rfl) (pa_cons (pv 0) (pa_cons (pv 1) (pa_cons (pv 2) pa_nil)))) (pe_one (C8.pe_c (c_is_never T) hr (by decide) (by rfl) (pa_cons (pv 1) (pa_cons (pv 0) (pa_cons (pv 2) pa_nil))))))))))), ?_⟩
    refine ⟨_, rfl, v, p, rfl, c.a, c.pk, fun H1 x1 => ?_⟩
    refine ⟨_, rfl, u, q, rfl, c.b.ex x1, c.qk, fun H2 x2 => ?_⟩
    have x12 := x1.trans x2
    refine ⟨_, rfl, fv, fs, rfl, c.f.ex x12, c.fo, fun H3 x3 => ?_⟩
    have x13 := x12.trans x3
    refine ⟨_, rfl, _, rfl, _, rfl, v, u, fv, p, q, fs, rfl, c.ex x13, fun H4 b x4 hb => ⟨b, rfl, ?_⟩⟩
    have x14 := x13.trans x4
    cases b with
    | false => exact iteF (k H4 false x14 ⟨fun z => Bool.noConfusion z, fun z => hb.mpr z.1⟩)
    | true =>
      refine iteT ⟨_, rfl, _, rfl, _, rfl, u, v, fv, q, p, fs, rfl, c'.ex x14, fun H5 b2 x5 hb2 => ?_⟩
      exact k H5 b2 (x14.trans x5) ⟨fun z => ⟨hb.mp rfl, hb2.mp z⟩, fun z => hb2.mpr z.2⟩
theorem c_alike (T : Tx K mg) : C8.Cal P w K mg base 10 "alike" (spAlike K) [] :=
  mkCalD (n := 3) (j := 1) T fn_alike rfl (fun z => nomatch z) rfl T.mg_alike sc_alike rfl (fun _ _ _ _ _ _ _ us its h1 h2 => match us, h1 with | [_, _, _], _ => match its, h2 with | [_], _ => ⟨_, rfl, rfl⟩) (fun vs H Q E h => by obtain ⟨v, u, fv, p, q, fs, rfl, _⟩ := h; rfl) (b_alike T)
theorem c_alike2 (T : Tx K mg) : C8.Cal P w K mg base 10 "alike" (spAlike K) [.ref (He.dflAt ("alike", none) 0 K)] :=
  mkCalD (n := 2) (j := 0) T fn_alike rfl (fun z => nomatch z) rfl T.mg_alike sc_alike rfl (fun _ _ _ _ _ _ _ us its h1 h2 => match us, h1 with | [_, _], _ => match its, h2 with | [_], _ => ⟨_, rfl, rfl⟩) (fun vs H Q E h => by obtain ⟨v, u, fv, p, q, fs, rfl, _⟩ := h; rfl) (b_alike T)
end
end K35

/-! The law's draws. -/
namespace K35
open PySem PySem.Spec PyProof.Rows L2
def kD : Key := .inr "digits"
def kG : Key := .inr "great"
def kL : Key := .inr "lumps"
def kT : Key := .inr "turn"
structure DrK (kvs : List (Key × V)) (dg : Int) (ga la : Addr) (tn : Int) : Prop where
  n : kvs.length ≤ 10
  d : valV kvs kD = some (.int dg)
  g : valV kvs kG = some (.ref ga)
  l : valV kvs kL = some (.ref la)
  t : valV kvs kT = some (.int tn)
theorem putK_len {kvs : List (Key × V)} {k : Key} {u v : V} (h : valV kvs k = some u) : (putK kvs k v).length = kvs.length := by
  have q := valV_any k kvs
  rw [h] at q
  have q : (kvs.any fun kv => decide (kv.1 = k)) = true := q
  unfold putK
  rw [if_pos q, List.length_map]
theorem DrK.dig {kvs : List (Key × V)} {dg : Int} {ga la : Addr} {tn : Int} (h : DrK kvs dg ga la tn) (x : Int) : DrK (putK kvs kD (.int x)) x ga la tn where
  n := by rw [putK_len h.d]; exact h.n
  d := by rw [valV_put, if_pos rfl]
  g := by rw [valV_put, if_neg (by decide +kernel)]; exact h.g
  l := by rw [valV_put, if_neg (by decide +kernel)]; exact h.l
  t := by rw [valV_put, if_neg (by decide +kernel)]; exact h.t
theorem DrK.tur {kvs : List (Key × V)} {dg : Int} {ga la : Addr} {tn : Int} (h : DrK kvs dg ga la tn) (x : Int) : DrK (putK kvs kT (.int x)) dg ga la x where
  n := by rw [putK_len h.t]; exact h.n
  d := by rw [valV_put, if_neg (by decide +kernel)]; exact h.d
  g := by rw [valV_put, if_neg (by decide +kernel)]; exact h.g
  l := by rw [valV_put, if_neg (by decide +kernel)]; exact h.l
  t := by rw [valV_put, if_pos rfl]
/-- the draw's dict -/
structure Dr (H : Hp) (d ga la : Addr) (m : Int) : Prop where
  h : ∃ (kvs : List (Key × V)) (dg : Int) (gs ls : List Int) (tn : Int), H d = some (.dK kvs) ∧ DrK kvs dg ga la tn ∧ H ga = some (.lst (gs.map V.int)) ∧ H la = some (.lst (ls.map V.int)) ∧ 0 ≤ dg ∧ (∀ g ∈ gs, 0 ≤ g) ∧ (∀ z ∈ ls, 0 ≤ z ∧ z < 10 ^ 18) ∧ 0 ≤ tn ∧ tn ≤ m ∧ ls.length ≤ 63
  ne : ga ≠ la
def spBegun (K : PySem.W.Frag) : Sp := fun vs H Q _ => ∃ (a : Addr) (ns : List Int), vs = [.ref a] ∧ SqL K H a (ns.map V.int) ∧ ns.length ≤ 63 ∧ ∀ d ga la H', Ex H H' → H d = none → H ga = none → Dr H' d ga la 0 → Q (.ref d) H'
def spNext : Sp := fun vs H Q _ => ∃ (d ga la : Addr) (m many : Int), vs = [.ref d, .int many] ∧ Dr H d ga la m ∧ m ≤ 1000000 ∧ 1 ≤ many ∧ many ≤ 1000 ∧ ∀ z H', Kp d ga H H' → Dr H' d ga la (m + 1) → 0 ≤ z → z < many → Q (.int z) H'
section
variable {P : Program} {w : World} {K : PySem.W.Frag} {mg : Str → Option Value} {base : Heap}
abbrev N__law_begun : List Str := ["_law_script", "_law_great", "_law_lump"]
theorem sc__law_begun : FnScope N__law_begun ["_law_script"] (defScope s__law_begun) := ⟨rfl, rfl, rfl, by decide +kernel, rfl, by decide +kernel, by decide +kernel⟩
theorem c__law_begun (T : Tx K mg) : C8.Cal P w K mg base 1 "_law_begun" (spBegun K) [] :=
  mkCal T fn__law_begun rfl rfl rfl T.mg__law_begun sc__law_begun (fun _ _ _ _ _ _ us hl => match us, hl with | [_], _ => rfl) (fun vs H Q E h => by obtain ⟨a, ns, rfl, _⟩ := h; rfl) fun f cdv A outer s0 H vs Q E hr h => by
    obtain ⟨a, ns, rfl, hS, hn, k⟩ := h
    refine ⟨_, (pss_cons (ps_setLc (i := 1) (own := [("_law_lump", 2)]) (g := gName 2) rfl sc__law_begun.nd rfl rfl (sw_true rfl rfl rfl (by decide +kernel)) (pi_list (pv 0)) (blkOk_by (own := [("_law_lump", 2)]) (N := N__law_begun) (sc := defScope s__law_begun) (by decide +kernel)) (fun _ _ _ _ _ => (pg_name (i := 2) sc__law_begun.nd rfl (Or.inl rfl))) (fun _ _ _ _ _ => (pts_one (pt_cmpR op_ge (pe_callB call_abs (by rfl) T.f_abs (by decide +kernel) (pa_cons (pv 2) pa_nil)) (pe_op op_pow pe_int pe_int) (nomark _)))) (fun _ _ _ _ _ => (pe_op op_fdivW (pe_callB call_abs (by rfl) T.f_abs (by decide +kernel) (pa_cons (pv 2) pa_nil)) (pe_op op_pow pe_int pe_int))))
      (pss_one (ps_ret (pe_disp (pps_cons pe_str pe_int (pps_cons pe_str (pv 1) (pps_cons pe_str (pe_lc (own := [("_law_lump", 2)]) (g := gName 2) rfl sc__law_begun.nd (pi_list (pv 0)) (blkOk_by (own := [("_law_lump", 2)]) (N := N__law_begun) (sc := defScope s__law_begun) (by decide +kernel)) (fun _ _ _ _ _ => (pg_name (i := 2) sc__law_begun.nd rfl (Or.inl rfl))) (fun _ _ _ _ _ => pts_nil) (fun _ _ _ _ _ => (pe_op op_mod (pe_callTy call_int1 (by rfl) T.f_int (by decide +kernel) (pa_cons (pe_callB call_abs (by rfl) T.f_abs (by decide +kernel) (pa_cons (pv 2) pa_nil)) pa_nil)) (pe_op op_pow pe_int pe_int)))) (pps_cons pe_str pe_int pps_nil)))) (by rfl) (by rfl) (fun z => by cases z) (by decide))))), ?_⟩
    have ab : ∀ z : Int, 0 ≤ (if z < 0 then -z else z) := fun z => by split <;> omega
    have p18 : (0 : Int) < 10 ^ (18 : Int).toNat := by decide
    refine ⟨_, rfl, a, rfl, ⟨_, hS⟩, fun g ng => ?_⟩
    refine lc_wk (wk_list (K := K) (a := a) (xs := ns.map V.int)) (fun i H' => Ex H H' ∧ ∃ gs : List Int, H' g = some (.lst (gs.map V.int)) ∧ gs.length ≤ i ∧ ∀ z ∈ gs, 0 ≤ z) ⟨Evl.Ex.new ng, [], upd_same, Nat.le_refl _, fun z h => by cases h⟩ (fun i H' _ p => Evl.ex_l p.1 hS) ?_ ?_
    · rintro i y H1 H2 hi ⟨x1, gs, hg, hgl, hgz⟩ ⟨rfl, hy⟩
      rw [List.getElem?_map] at hy
      obtain ⟨z, hz, rfl⟩ := Option.map_eq_some_iff.mp hy
      rw [List.length_map] at hi
      refine ⟨rfl, ?_⟩
      refine ⟨_, rfl, _, rfl, _, _, rfl, rfl, ⟨by decide, by decide, by decide⟩, _, _, rfl, rfl, _, rfl, ?_⟩
      refine ite2 (fun _ => ?_) fun _ => ⟨x1, gs, hg, Nat.le_succ_of_le hgl, hgz⟩
      refine ⟨_, rfl, _, rfl, _, _, rfl, rfl, ⟨by decide, by decide, by decide⟩, _, _, rfl, rfl, wide_div (b := 60) p18 (by decide) (by decide) (by decide), _, hg, lt_line (by rw [List.length_map]; omega), Evl.Ex.mut x1 ng, gs ++ [(if z < 0 then -z else z) / 10 ^ (18 : Int).toNat], ?_, by rw [List.length_append, List.length_singleton]; omega, fun q hq => ?_⟩
      · rw [upd_same, List.map_append]; rfl
      · rcases List.mem_append.mp hq with h | h
        · exact hgz q h
        · rw [List.mem_singleton] at h
          rw [h]
          exact Int.ediv_nonneg (ab z) (Int.le_of_lt p18)
    · rintro H1 ⟨x1, gs, hg, hgl, hgz⟩
      intro d nd
      have xd : Ex H1 (upd H1 d (.dK [])) := Evl.Ex.new nd
      have hdd : (upd H1 d (.dK [])) d = some (.dK []) := upd_same
      have x2 := x1.trans xd
      have hg2 := xd _ _ hg
      have ndH : H d = none := by
        cases hq : H d with
        | none => rfl
        | some o => exact absurd (x1 _ _ hq) (by rw [nd]; exact fun z => nomatch z)
      generalize upd H1 d (.dK []) = H2 at xd hdd x2 hg2 ⊢
      refine ⟨_, rfl, _, rfl, a, rfl, ⟨_, Evl.ex_l x2 hS⟩, fun la nla => ?_⟩
      have xl : Ex H2 (upd H2 la (.lst [])) := Evl.Ex.new nla
      refine lc_wk (wk_list (K := K) (a := a) (xs := ns.map V.int)) (fun i H' => Ex H2 H' ∧ ∃ ls : List Int, H' la = some (.lst (ls.map V.int)) ∧ ls.length = i ∧ ∀ z ∈ ls, 0 ≤ z ∧ z < 10 ^ 18) ⟨xl, [], upd_same, rfl, fun z h => by cases h⟩ (fun i H' _ p => Evl.ex_l (x2.trans p.1) hS) ?_ ?_
      · rintro i y H3 H4 hi ⟨x3, ls, hl, hll, hlz⟩ ⟨rfl, hy⟩
        rw [List.getElem?_map] at hy
        obtain ⟨z, hz, rfl⟩ := Option.map_eq_some_iff.mp hy
        rw [List.length_map] at hi
        refine ⟨rfl, ?_⟩
        refine ⟨_, rfl, _, rfl, .inl ⟨_, rfl, _, _, rfl, rfl, ⟨by decide, by decide, by decide⟩, _, _, rfl, rfl, p18, _, hl, lt_line (by rw [List.length_map]; omega), Evl.Ex.mut x3 nla, ls ++ [(if z < 0 then -z else z) % 10 ^ (18 : Int).toNat], ?_, by rw [List.length_append, List.length_singleton]; omega, fun q hq => ?_⟩⟩
        · rw [upd_same, List.map_append]; rfl
        · rcases List.mem_append.mp hq with h | h
          · exact hlz q h
          · rw [List.mem_singleton] at h
            rw [h]
            exact ⟨Int.emod_nonneg _ (by decide), Int.emod_lt_of_pos _ p18⟩
      · rintro H3 ⟨x3, ls, hl, hll, hlz⟩
        rw [List.length_map] at hll
        have hd3 := x3 _ _ hdd
        refine ⟨hd3, [(kD, .int 0), (kG, .ref g), (kL, .ref la), (kT, .int 0)], rfl, (by show 4 ≤ 15; decide), ?_⟩
        have em : mergeK ([] : List (Key × V)) [(kD, .int 0), (kG, .ref g), (kL, .ref la), (kT, .int 0)] = [(kD, .int 0), (kG, .ref g), (kL, .ref la), (kT, .int 0)] := rfl
        have gne : g ≠ d := ne_of_none hg nd
        have lne : la ≠ d := (ne_of_none hdd nla).symm
        have gl : g ≠ la := ne_of_none hg2 nla
        have ngH := ng
        refine k d g la _ (Evl.Ex.mut (x2.trans x3) ndH) ndH ngH ⟨⟨_, 0, gs, ls, 0, upd_same, ⟨?_, rfl, rfl, rfl, rfl⟩, ?_, ?_, Int.le_refl _, hgz, hlz, Int.le_refl _, Int.le_refl _, by omega⟩, gl⟩
        · exact (by decide : 4 ≤ 10)
        · rw [upd_ne gne]; exact x3 _ _ hg2
        · rw [upd_ne lne]; exact hl
abbrev N__law_next : List Str := ["_law_draw", "_law_many", "_law_found", "_law_turn", "_law_lump", "_law_mixed"]
theorem sc__law_next : FnScope N__law_next ["_law_draw", "_law_many"] (defScope s__law_next) := ⟨rfl, rfl, rfl, by decide +kernel, rfl, by decide +kernel, by decide +kernel⟩
theorem c__law_next (T : Tx K mg) : C8.Cal P w K mg base 1 "_law_next" spNext [] :=
  mkCal T fn__law_next rfl rfl rfl T.mg__law_next sc__law_next (fun _ _ _ _ _ _ us hl => match us, hl with | [_, _], _ => rfl) (fun vs H Q E h => by obtain ⟨d, ga, la, m, many, rfl, _⟩ := h; rfl) fun f cdv A outer s0 H vs Q E hr h => by
    obtain ⟨d, ga, la, m, many, rfl, D, hm, h1, h1000, k⟩ := h
    have hu := hu_of hr
    refine ⟨_, (pss_cons (ps_while PassesOwn.never (PW.pt (pw_and (pt_cmpR op_eq (pe_dget hu (pv 0) pe_str (fun _ _ => rfl)) pe_int (nomark _)) (pw_and1 (pt_cmpR (op_neNil (hu64 hr)) (pe_dget hu (pv 0) pe_str (fun _ _ => rfl)) (pe_lst pa_nil) (nomark _))))) (pss_one (ps_dput hu (pv 0) pe_str (pe_bm PySem.F.plainAttrs_list PySem.F.slot_list_pop PySem.F.type_list_pop mt_popAt (pe_dget hu (pv 0) pe_str (fun _ _ => rfl)) (pa_cons pe_int pa_nil)) rfl)))
      (pss_cons (ps_if (pt_cmpR op_gt (pe_dget hu (pv 0) pe_str (fun _ _ => rfl)) pe_int (nomark _)) (pss_cons (ps_set (i := 2) sc__law_next.nd rfl (Or.inl rfl) (pe_op op_mod (pe_callTy call_int1 (by rfl) T.f_int (by decide +kernel) (pa_cons (pe_dget hu (pv 0) pe_str (fun _ _ => rfl)) pa_nil)) (pv 1)))
        (pss_cons (ps_dput hu (pv 0) pe_str (pe_op op_fdivW (pe_dget hu (pv 0) pe_str (fun _ _ => rfl)) (pv 1)) rfl)
        (pss_one (ps_ret (pv 2))))) pss_nil)
      (pss_cons (ps_daug hu (pv 0) pe_str pe_int in_add (fun _ _ _ => rfl))
      (pss_cons (ps_set (i := 3) sc__law_next.nd rfl (Or.inl rfl) (pe_dget hu (pv 0) pe_str (fun _ _ => rfl)))
      (pss_cons (ps_set (i := 4) sc__law_next.nd rfl (Or.inl rfl) pe_int)
      (pss_cons (ps_if (pt_cmpR (op_neNil (hu64 hr)) (pe_dget hu (pv 0) pe_str (fun _ _ => rfl)) (pe_lst pa_nil) (nomark _)) (pss_one (ps_set (i := 4) sc__law_next.nd rfl (Or.inl rfl) (pe_ix (ix_listK (K := K) rfl) (pe_dget hu (pv 0) pe_str (fun _ _ => rfl)) (pe_op op_mod (pe_callTy call_int1 (by rfl) T.f_int (by decide +kernel) (pa_cons (pv 3) pa_nil)) (pe_callB call_len_seq (by rfl) T.f_len (by decide +kernel) (pa_cons (pe_dget hu (pv 0) pe_str (fun _ _ => rfl)) pa_nil))) (fun _ _ => rfl)))) pss_nil)
      (pss_cons (ps_set (i := 5) sc__law_next.nd rfl (Or.inl rfl) (pe_op op_mod (pe_callTy call_int1 (by rfl) T.f_int (by decide +kernel) (pa_cons (pe_op op_pow (pe_op op_add (pe_op op_mod (pe_callTy call_int1 (by rfl) T.f_int (by decide +kernel) (pa_cons (pv 4) pa_nil)) pe_int) (pe_op op_mul pe_int (pv 3))) pe_int) pa_nil)) pe_int))
      (pss_one (ps_ret (pe_op op_mod (pe_callTy call_int1 (by rfl) T.f_int (by decide +kernel) (pa_cons (pe_op op_fdivW (pe_op op_mod (pe_callTy call_int1 (by rfl) T.f_int (by decide +kernel) (pa_cons (pe_op op_pow (pe_op op_add (pv 5) (pe_op op_mul pe_int (pv 3))) pe_int) pa_nil)) pe_int) pe_int) pa_nil)) (pv 1))))))))))), ?_⟩
    obtain ⟨⟨kvs, dg, gs, ls, tn, hd, K0, hga, hla, hdg, hgs, hls, ht0, htm, hl63⟩, hne⟩ := D
    have hlne : la ≠ d := ne_of hla hd (fun z => nomatch z)
    have hgd : ga ≠ d := ne_of hga hd (fun z => nomatch z)
    show tWhile _ _ _ _ _
    refine ⟨fun n σ H' => σ = ([some (.ref d), some (.int many), none, none, none, none] : L2.St) ∧ Kp d ga H H' ∧ ∃ kvs dg gs, n = gs.length ∧ H' d = some (.dK kvs) ∧ DrK kvs dg ga la tn ∧ H' ga = some (.lst (gs.map V.int)) ∧ H' la = some (.lst (ls.map V.int)) ∧ 0 ≤ dg ∧ ∀ g ∈ gs, 0 ≤ g, ⟨gs.length, rfl, fun b o h _ _ => h, kvs, dg, gs, rfl, hd, K0, hga, hla, hdg, hgs⟩, ?_⟩
    clear hd K0 hga hla hdg hgs
    rintro n σ H1 ⟨rfl, x1, kvs, dg, gs, rfl, hd, K1, hga, hla, hdg, hgs⟩
    have gD : ∀ {H' : Hp} {kvs}, H' d = some (.dK kvs) → ∀ {dg tn}, DrK kvs dg ga la tn → DGet H' d (.str "digits") (some (.int dg)) := fun h _ _ k => by rw [← k.d]; exact DGet.k (k := kD) h
    have gG : ∀ {H' : Hp} {kvs}, H' d = some (.dK kvs) → ∀ {dg tn}, DrK kvs dg ga la tn → DGet H' d (.str "great") (some (.ref ga)) := fun h _ _ k => by rw [← k.g]; exact DGet.k (k := kG) h
    have gL : ∀ {H' : Hp} {kvs}, H' d = some (.dK kvs) → ∀ {dg tn}, DrK kvs dg ga la tn → DGet H' d (.str "lumps") (some (.ref la)) := fun h _ _ k => by rw [← k.l]; exact DGet.k (k := kL) h
    have gT : ∀ {H' : Hp} {kvs}, H' d = some (.dK kvs) → ∀ {dg tn}, DrK kvs dg ga la tn → DGet H' d (.str "turn") (some (.int tn)) := fun h _ _ k => by rw [← k.t]; exact DGet.k (k := kT) h
    have tst : ∀ (Tt Ff : Hp → Prop), (∀ H2 g gs', Ex H1 H2 → gs = g :: gs' → Tt H2) → (∀ H2, Ex H1 H2 → Ff H2) →
        (tAnd (tTest (tOp rEq (tDGet (tVar 0) (tC (V.str (Str.ofString "digits")))) (tC (V.int 0)))) (tTest (tOp (rNil K true) (tDGet (tVar 0) (tC (V.str (Str.ofString "great")))) (tLst tNil)))) [some (.ref d), some (.int many), none, none, none, none] H1 (fun c H2 => if c = true then Tt H2 else Ff H2) := by
      intro Tt Ff hT hF
      refine ⟨_, rfl, d, _, rfl, gD hd K1, rfl, _, rfl, ?_⟩
      cases decide (V.int dg = V.int 0) with
      | false => exact iteF (iteF (hF H1 (.refl _)))
      | true =>
        refine iteT ⟨_, rfl, d, _, rfl, gG hd K1, by show 0 ≤ sizeLine; decide, fun p np => ?_⟩
        have xp : Ex H1 (upd H1 p (.lst [])) := Evl.Ex.new np
        refine ⟨ga, p, _, rfl, rfl, SqL.of (xp _ _ hga), SqL.of upd_same, _, rfl, ?_⟩
        cases gs with
        | nil => exact iteF (hF _ xp)
        | cons g gs' => exact iteT (hT _ g gs' xp rfl)
    refine tst _ _ ?_ ?_
    · rintro H2 g gs' x12 rfl
      have hd2 := x12 _ _ hd
      have hg2 := x12 _ _ hga
      have hl2 := x12 _ _ hla
      refine ⟨_, fun _ _ q => q, ?_⟩
      have hd3 : (upd H2 ga (.lst (gs'.map V.int))) d = some (.dK kvs) := by rw [upd_ne hgd.symm]; exact hd2
      refine ⟨_, rfl, d, _, rfl, gG hd2 K1, .inl ⟨rfl, _, SqL.of hg2⟩, ga, _, 0, 0, .int g, rfl, rfl, hg2, by decide, by decide, (by unfold seqIndex?; simp), rfl, _, rfl, d, _, rfl, .inl ⟨kvs, kD, hd3, rfl, lt_line (by have := K1.n; omega), rfl⟩, gs'.length, Nat.lt_succ_self _, rfl, ?_, _, g, gs', rfl, upd_same, K1.dig g, ?_, ?_, hgs g List.mem_cons_self, fun z hz => hgs z (List.mem_cons_of_mem _ hz)⟩
      · intro b o h h1 h2
        rw [upd_ne h1, upd_ne h2]
        exact x12 _ _ (x1 _ _ h h1 h2)
      · rw [upd_ne hgd, upd_same]
        rfl
      · rw [upd_ne hlne, upd_ne hne.symm]
        exact hl2
    · rintro H2 x12
      have hd2 := x12 _ _ hd
      have hg2 := x12 _ _ hga
      have hl2 := x12 _ _ hla
      have x2 : Kp d ga H H2 := fun b o h h1 h2 => x12 _ _ (x1 _ _ h h1 h2)
      refine ⟨_, rfl, d, _, rfl, gD hd2 K1, _, _, rfl, rfl, _, rfl, ?_⟩
      refine ite2 (fun hpos => ?_) fun _ => ?_
      · have hpos : (0 : Int) < dg := of_decide_eq_true hpos
        refine ⟨_, rfl, d, _, rfl, gD hd2 K1, .inl ⟨_, rfl, _, rfl, _, _, rfl, rfl, (by omega), ?_⟩⟩
        refine ⟨_, rfl, d, _, rfl, gD hd2 K1, _, rfl, _, _, rfl, rfl, wide_div (b := 10) (by omega) (by omega) (by decide) (by decide), _, rfl, d, _, rfl, .inl ⟨kvs, kD, hd2, rfl, lt_line (by have := K1.n; omega), rfl⟩, ?_⟩
        refine ⟨_, rfl, k _ _ ?_ ⟨⟨_, dg / many, gs, ls, tn, upd_same, K1.dig _, ?_, ?_, Int.ediv_nonneg hdg (by omega), hgs, hls, ht0, by omega, hl63⟩, hne⟩ (Int.emod_nonneg _ (by omega)) (Int.emod_lt_of_pos _ (by omega))⟩
        · intro b o h h1 h2
          rw [upd_ne h1]
          exact x2 _ _ h h1 h2
        · rw [upd_ne hgd]; exact hg2
        · rw [upd_ne hlne]; exact hl2
      · refine ⟨_, rfl, d, _, rfl, gT hd2 K1, _, _, rfl, rfl, _, .inl ⟨kvs, kT, hd2, rfl, lt_line (by have := K1.n; omega), rfl⟩, ?_⟩
        have K3 := K1.tur (tn + 1)
        have hd3 : (upd H2 d (.dK (putK kvs kT (.int (tn + 1))))) d = some (.dK (putK kvs kT (.int (tn + 1)))) := upd_same
        have hg3 : (upd H2 d (.dK (putK kvs kT (.int (tn + 1))))) ga = some (.lst (gs.map V.int)) := by rw [upd_ne hgd]; exact hg2
        have hl3 : (upd H2 d (.dK (putK kvs kT (.int (tn + 1))))) la = some (.lst (ls.map V.int)) := by rw [upd_ne hlne]; exact hl2
        have x3 : Kp d ga H (upd H2 d (.dK (putK kvs kT (.int (tn + 1))))) := fun b o h h1 h2 => by rw [upd_ne h1]; exact x2 _ _ h h1 h2
        show tSeq _ _ _ _ (upd H2 d (.dK (putK kvs kT (.int (tn + 1)))))
        generalize upd H2 d (.dK (putK kvs kT (.int (tn + 1)))) = H3 at hd3 hg3 hl3 x3
        generalize putK kvs kT (.int (tn + 1)) = kvs3 at hd3 K3
        refine ⟨_, rfl, d, _, rfl, gT hd3 K3, ?_⟩
        refine ⟨_, rfl, d, _, rfl, gL hd3 K3, by show 0 ≤ sizeLine; decide, fun p np => ?_⟩
        have xp : Ex H3 (upd H3 p (.lst [])) := Evl.Ex.new np
        refine ⟨la, p, _, rfl, rfl, SqL.of (xp _ _ hl3), SqL.of upd_same, _, rfl, ?_⟩
        have x4 : Kp d ga H (upd H3 p (.lst [])) := fun b o h h1 h2 => xp _ _ (x3 _ _ h h1 h2)
        have hd4 := xp _ _ hd3
        have hg4 := xp _ _ hg3
        have hl4 := xp _ _ hl3
        generalize upd H3 p (.lst []) = H4 at xp x4 hd4 hg4 hl4
        have last : ∀ (lump : Int) (Kf : VK), 0 ≤ lump → (∀ z, 0 ≤ z → z < many → Kf (.int z) H4) →
            (tOp (rI (fun x j => 0 < j) fun i j => V.int (i % j)) (tCB (fun xs H Q => (∃ i, xs = [V.int i] ∧ Q (V.int i) H) ∨ ∃ k, xs = [V.bl k] ∧ Q (V.int (if k = true then 1 else 0)) H)
                (tCons (tOp (rI CPow fun i j => V.int (i ^ j.toNat)) (tOp (rI0 fun i j => V.int (i + j)) (tOp (rI (fun x j => 0 < j) fun i j => V.int (i % j)) (tCB (fun xs H Q => (∃ i, xs = [V.int i] ∧ Q (V.int i) H) ∨ ∃ k, xs = [V.bl k] ∧ Q (V.int (if k = true then 1 else 0)) H) (tCons (tVar 4) tNil)) (tC (V.int 2147483629)))
                  (tOp (rI CMul fun i j => V.int (i * j)) (tC (V.int 40009)) (tVar 3))) (tC (V.int 3))) tNil)) (tC (V.int 2147483647)))
              [some (.ref d), some (.int many), none, some (.int (tn + 1)), some (.int lump), none] H4 (fun x5 H5 => (tOp (rI (fun x j => 0 < j) fun i j => V.int (i % j))
                            (tCB
                              (fun xs H Q =>
                                (∃ i, xs = [V.int i] ∧ Q (V.int i) H) ∨
                                  ∃ k, xs = [V.bl k] ∧ Q (V.int (if k = true then 1 else 0)) H)
                              (tCons
                                (tOp (rI CDivW fun i j => V.int (i / j))
                                  (tOp (rI (fun x j => 0 < j) fun i j => V.int (i % j))
                                    (tCB
                                      (fun xs H Q =>
                                        (∃ i, xs = [V.int i] ∧ Q (V.int i) H) ∨
                                          ∃ k, xs = [V.bl k] ∧ Q (V.int (if k = true then 1 else 0)) H)
                                      (tCons
                                        (tOp (rI CPow fun i j => V.int (i ^ j.toNat))
                                          (tOp (rI0 fun i j => V.int (i + j)) (tVar 5)
                                            (tOp (rI CMul fun i j => V.int (i * j)) (tC (V.int 104729)) (tVar 3)))
                                          (tC (V.int 5)))
                                        tNil))
                                    (tC (V.int 2147483629)))
                                  (tC (V.int 11)))
                                tNil))
                            (tVar 1)) [some (.ref d), some (.int many), none, some (.int (tn + 1)), some (.int lump), some x5] H5 Kf) := by
          intro lump Kf hl0 hK
          have b1 := Int.emod_nonneg lump (show (2147483629 : Int) ≠ 0 by decide)
          have b2 := Int.emod_lt_of_pos lump (show (0 : Int) < 2147483629 by decide)
          have c1 : (lump % 2147483629 + 40009 * (tn + 1)).natAbs < 2 ^ 64 := by omega
          refine ⟨_, rfl, .inl ⟨_, rfl, _, _, rfl, rfl, (by show (0 : Int) < 2147483629; decide), _, rfl, _, _, rfl, rfl, .inl ⟨by decide, by decide⟩, _, _, rfl, rfl, _, _, rfl, rfl, ⟨by decide, by decide, c1⟩, .inl ⟨_, rfl, _, _, rfl, rfl, (by show (0 : Int) < 2147483647; decide), ?_⟩⟩⟩
          have d1 := Int.emod_nonneg ((lump % 2147483629 + 40009 * (tn + 1)) ^ (3 : Int).toNat) (show (2147483647 : Int) ≠ 0 by decide)
          have d2 := Int.emod_lt_of_pos ((lump % 2147483629 + 40009 * (tn + 1)) ^ (3 : Int).toNat) (show (0 : Int) < 2147483647 by decide)
          show (tOp (rI (fun x j => 0 < j) fun i j => V.int (i % j)) _ _) [some (.ref d), some (.int many), none, some (.int (tn + 1)), some (.int lump), some (.int ((lump % 2147483629 + 40009 * (tn + 1)) ^ (3 : Int).toNat % 2147483647))] H4 Kf
          generalize (lump % 2147483629 + 40009 * (tn + 1)) ^ (3 : Int).toNat % 2147483647 = mx at d1 d2
          have c2 : (mx + 104729 * (tn + 1)).natAbs < 2 ^ 64 := by omega
          refine ⟨_, rfl, _, rfl, _, _, rfl, rfl, .inl ⟨by decide, by decide⟩, _, _, rfl, rfl, _, _, rfl, rfl, ⟨by decide, by decide, c2⟩, .inl ⟨_, rfl, _, _, rfl, rfl, (by show (0 : Int) < 2147483629; decide), _, _, rfl, rfl, wide_div (b := 4) (by decide) (by decide) (by decide) (by decide), .inl ⟨_, rfl, _, rfl, _, _, rfl, rfl, (by show 0 < many; omega), ?_⟩⟩⟩
          exact hK _ (Int.emod_nonneg _ (by omega)) (Int.emod_lt_of_pos _ (by omega))
        have fin : ∀ z, 0 ≤ z → z < many → Q (.int z) H4 := fun z hz1 hz2 =>
          k z H4 x4 ⟨⟨kvs3, dg, gs, ls, tn + 1, hd4, K3, hg4, hl4, hdg, hgs, hls, by omega, by omega, hl63⟩, hne⟩ hz1 hz2
        cases ls with
        | nil => exact iteF (last 0 Q (Int.le_refl _) fin)
        | cons z0 ls' =>
          refine iteT ?_
          have hpos : (0 : Int) < ((z0 :: ls').map V.int).length := by rw [List.length_map, List.length_cons]; omega
          have i1 := Int.emod_nonneg (tn + 1) (show ((((z0 :: ls').map V.int).length : Nat) : Int) ≠ 0 by omega)
          have i2 := Int.emod_lt_of_pos (tn + 1) hpos
          obtain ⟨ix, hix⟩ : ∃ ix : Nat, (tn + 1) % ((((z0 :: ls').map V.int).length : Nat) : Int) = ix := ⟨_, (Int.toNat_of_nonneg i1).symm⟩
          have hlt : ix < (z0 :: ls').length := by
            rw [hix, List.length_map] at i2
            omega
          have hz := List.getElem?_eq_getElem hlt
          refine ⟨_, rfl, d, _, rfl, gL hd4 K3, _, rfl, .inl ⟨_, rfl, _, rfl, d, _, rfl, gL hd4 K3, la, _, rfl, .inl (SqL.of hl4), _, _, rfl, rfl, hpos, ?_⟩⟩
          refine ⟨la, _, _, .int (z0 :: ls')[ix], rfl, rfl, SqL.of hl4, ?_, ?_⟩
          · rw [hix]
            exact atI_nat (by rw [List.getElem?_map, hz]; rfl)
          · exact last _ Q (hls _ (List.getElem_mem hlt)).1 fin
end
end K35

/-! The law's letters, rows and facts. -/
namespace K35
open PySem PySem.Spec PyProof.Rows L2
/-- a draw from a text -/
def spPickS : Sp := fun vs H Q _ => ∃ (d ga la : Addr) (m : Int) (r : List Nat), vs = [.ref d, .str (rowS r)] ∧ Dr H d ga la m ∧ m ≤ 1000000 ∧ r ≠ [] ∧ r.length ≤ 1000 ∧ ∀ c H', c ∈ r → Kp d ga H H' → Dr H' d ga la (m + 1) → Q (.str (chr c)) H'
/-- a draw from a list -/
def spPickL : Sp := fun vs H Q _ => ∃ (d ga la l : Addr) (m : Int) (xs : List V), vs = [.ref d, .ref l] ∧ Dr H d ga la m ∧ m ≤ 1000000 ∧ H l = some (.lst xs) ∧ l ≠ d ∧ l ≠ ga ∧ xs ≠ [] ∧ xs.length ≤ 1000 ∧ ∀ x H', x ∈ xs → Kp d ga H H' → Dr H' d ga la (m + 1) → Q x H'
def spShuf : Sp := fun vs H Q _ => ∃ (d ga la l : Addr) (m : Int) (cs : List Nat), vs = [.ref d, .ref l] ∧ Dr H d ga la m ∧ m ≤ 999900 ∧ H l = some (.lst (cs.map fun c => .str (chr c))) ∧ cs.length ≤ 10 ∧
  ∀ (l' : Addr) (cs' : List Nat) H', Kp d ga H H' → Dr H' d ga la (m + cs.length) → H' l' = some (.lst (cs'.map fun c => .str (chr c))) → l' ≠ ga → cs'.length = cs.length → (∀ c ∈ cs', c ∈ cs) → Q (.ref l') H'
def spOther : Sp := fun vs H Q _ => ∃ c : Nat, vs = [.str (chr c)] ∧ okc c ∧ ∀ c', okc c' → Q (.str (chr c')) H
theorem Dr.mv {H H' : Hp} {d ga la : Addr} {m m' : Int} (D : Dr H d ga la m) (hm : m ≤ m') (h : ∀ b o, H b = some o → b = d ∨ b = ga ∨ b = la → H' b = some o) : Dr H' d ga la m' := by
  obtain ⟨⟨kvs, dg, gs, ls, tn, h1, h2, h3, h4, h5, h6, h7, h8, h9, h10⟩, ne⟩ := D
  exact ⟨⟨kvs, dg, gs, ls, tn, h _ _ h1 (.inl rfl), h2, h _ _ h3 (.inr (.inl rfl)), h _ _ h4 (.inr (.inr rfl)), h5, h6, h7, h8, Int.le_trans h9 hm, h10⟩, ne⟩
theorem Dr.ex {H H' : Hp} {d ga la : Addr} {m : Int} (D : Dr H d ga la m) (x : Ex H H') : Dr H' d ga la m := D.mv (Int.le_refl _) fun b o h _ => x _ _ h
theorem Dr.upd {H : Hp} {d ga la q : Addr} {m : Int} {o : HO} (D : Dr H d ga la m) (h1 : q ≠ d) (h2 : q ≠ ga) (h3 : q ≠ la) : Dr (upd H q o) d ga la m := D.mv (Int.le_refl _) fun b o h e => by
  rw [upd_ne]
  · exact h
  · rcases e with e | e | e <;> (rw [e]; exact Ne.symm (by assumption))
theorem Dr.has {H : Hp} {d ga la q : Addr} {m : Int} (D : Dr H d ga la m) (hq : H q = none) : q ≠ d ∧ q ≠ ga ∧ q ≠ la := by
  obtain ⟨⟨kvs, dg, gs, ls, tn, h1, h2, h3, h4, _⟩, ne⟩ := D
  exact ⟨(ne_of_none h1 hq).symm, (ne_of_none h3 hq).symm, (ne_of_none h4 hq).symm⟩
theorem Kp.ex {q1 q2 : Addr} {H H1 H2 : Hp} (k : Kp q1 q2 H H1) (x : Ex H1 H2) : Kp q1 q2 H H2 := fun b o h h1 h2 => x _ _ (k b o h h1 h2)
theorem Kp.of {q1 q2 : Addr} {H H1 : Hp} (x : Ex H H1) : Kp q1 q2 H H1 := fun b o h _ _ => x _ _ h
theorem Kp.trans {q1 q2 : Addr} {H H1 H2 : Hp} (k : Kp q1 q2 H H1) (x : Kp q1 q2 H1 H2) : Kp q1 q2 H H2 := fun b o h h1 h2 => x _ _ (k b o h h1 h2) h1 h2
theorem map_erase {α β : Type} (f : α → β) : ∀ (l : List α) (j : Nat), (l.map f).eraseIdx j = (l.eraseIdx j).map f
  | [], j => by simp
  | a :: l, 0 => rfl
  | a :: l, j + 1 => by
    show f a :: (l.map f).eraseIdx j = f a :: (l.eraseIdx j).map f
    rw [map_erase f l j]
theorem rowS_len (r : List Nat) : (rowS r).length = r.length := List.size_toArray ..
section
variable {P : Program} {w : World} {K : PySem.W.Frag} {mg : Str → Option Value} {base : Heap}
abbrev N__law_pick : List Str := ["_law_draw", "_law_some_here"]
theorem sc__law_pick : FnScope N__law_pick ["_law_draw", "_law_some_here"] (defScope s__law_pick) := ⟨rfl, rfl, rfl, by decide +kernel, rfl, by decide +kernel, by decide +kernel⟩
theorem c__law_pickS (T : Tx K mg) : C8.Cal P w K mg base 2 "_law_pick" spPickS [] :=
  mkCal T fn__law_pick rfl rfl rfl T.mg__law_pick sc__law_pick (fun _ _ _ _ _ _ us hl => match us, hl with | [_, _], _ => rfl) (fun vs H Q E h => by obtain ⟨d, ga, la, m, r, rfl, _⟩ := h; rfl) fun f cdv A outer s0 H vs Q E hr h => by
    obtain ⟨d, ga, la, m, r, rfl, D, hm, hne, hl, k⟩ := h
    refine ⟨_, (pss_one (ps_ret (pe_ix ix_seq (pv 1) (C8.pe_c (c__law_next T) hr (by decide) (by rfl) (pa_cons (pv 0) (pa_cons (pe_callB call_len (by rfl) T.f_len (by decide +kernel) (pa_cons (pv 1) pa_nil)) pa_nil))) (fun _ _ => rfl)))), ?_⟩
    have hpos : 0 < r.length := List.length_pos_iff.mpr hne
    have hb : (rowS r).length ≤ sizeLine := by rw [rowS_len]; exact Nat.le_of_lt (lt_line hl)
    refine ⟨_, rfl, _, rfl, _, rfl, _, r.length, rfl, ⟨hb, (rowS_len r).symm⟩, d, ga, la, m, r.length, rfl, D, hm, by omega, by omega, fun z H' kp D' z0 z1 => ?_⟩
    obtain ⟨j, rfl⟩ := Int.eq_ofNat_of_zero_le z0
    have hj : j < r.length := by omega
    refine .inr (.inr ⟨rowS r, j, r[j], rfl, rfl, hb, ?_, k r[j] H' (List.getElem_mem hj) kp D'⟩)
    exact atI_nat (by show r.toArray.toList[j]? = _; exact List.getElem?_eq_getElem hj)
theorem c__law_pickL (T : Tx K mg) : C8.Cal P w K mg base 2 "_law_pick" spPickL [] :=
  mkCal T fn__law_pick rfl rfl rfl T.mg__law_pick sc__law_pick (fun _ _ _ _ _ _ us hl => match us, hl with | [_, _], _ => rfl) (fun vs H Q E h => by obtain ⟨d, ga, la, l, m, xs, rfl, _⟩ := h; rfl) fun f cdv A outer s0 H vs Q E hr h => by
    obtain ⟨d, ga, la, l, m, xs, rfl, D, hm, hl, ld, lg, hne, hll, k⟩ := h
    refine ⟨_, (pss_one (ps_ret (pe_ix ix_seq (pv 1) (C8.pe_c (c__law_next T) hr (by decide) (by rfl) (pa_cons (pv 0) (pa_cons (pe_callB call_len (by rfl) T.f_len (by decide +kernel) (pa_cons (pv 1) pa_nil)) pa_nil))) (fun _ _ => rfl)))), ?_⟩
    have hpos : 0 < xs.length := List.length_pos_iff.mpr hne
    refine ⟨_, rfl, _, rfl, _, rfl, _, xs.length, rfl, .inl ⟨xs, SqL.of hl, rfl⟩, d, ga, la, m, xs.length, rfl, D, hm, by omega, by omega, fun z H' kp D' z0 z1 => ?_⟩
    obtain ⟨j, rfl⟩ := Int.eq_ofNat_of_zero_le z0
    have hj : j < xs.length := by omega
    exact .inl ⟨l, xs, j, xs[j], rfl, rfl, SqL.of (kp _ _ hl ld lg), atI_nat (List.getElem?_eq_getElem hj), k xs[j] H' (List.getElem_mem hj) kp D'⟩
abbrev N__law_shuffled : List Str := ["_law_draw", "_law_some_here", "_law_left", "_law_found"]
theorem sc__law_shuffled : FnScope N__law_shuffled ["_law_draw", "_law_some_here"] (defScope s__law_shuffled) := ⟨rfl, rfl, rfl, by decide +kernel, rfl, by decide +kernel, by decide +kernel⟩
theorem c__law_shuffled (T : Tx K mg) : C8.Cal P w K mg base 2 "_law_shuffled" spShuf [] :=
  mkCal T fn__law_shuffled rfl rfl rfl T.mg__law_shuffled sc__law_shuffled (fun _ _ _ _ _ _ us hl => match us, hl with | [_, _], _ => rfl) (fun vs H Q E h => by obtain ⟨d, ga, la, l, m, cs, rfl, _⟩ := h; rfl) fun f cdv A outer s0 H vs Q E hr h => by
    obtain ⟨d, ga, la, l, m, cs, rfl, D, hm, hl, hll, k⟩ := h
    refine ⟨_, (pss_cons (ps_par (i := 2) (j := 3) (by rfl) sc__law_shuffled.nd rfl rfl (by decide) rfl rfl (pa_cons (pe_callTy call_list_of (by rfl) T.f_list (by decide +kernel) (pa_cons (pv 1) pa_nil)) (pa_cons (pe_lst pa_nil) pa_nil)) (by rfl))
      (pss_cons (ps_while PassesOwn.never (pt_cmpR (op_neNil (hu64 hr)) (pv 2) (pe_lst pa_nil) (nomark _)) (pss_one (ps_expr (pe_bm PySem.F.plainAttrs_list PySem.F.slot_list_append PySem.F.type_list_append mt_append (pv 3) (pa_cons (pe_bm PySem.F.plainAttrs_list PySem.F.slot_list_pop PySem.F.type_list_pop mt_popAt (pv 2) (pa_cons (C8.pe_c (c__law_next T) hr (by decide) (by rfl) (pa_cons (pv 0) (pa_cons (pe_callB call_len_seq (by rfl) T.f_len (by decide +kernel) (pa_cons (pv 2) pa_nil)) pa_nil))) pa_nil)) pa_nil)))))
      (pss_one (ps_ret (pv 3))))), ?_⟩
    refine ⟨_, rfl, l, _, rfl, .inl (SqL.of hl), fun lf nlf => ⟨by show 0 ≤ sizeLine; decide, fun ff nff => ⟨_, _, rfl, ?_⟩⟩⟩
    have x1 : Ex H (upd H lf (.lst (cs.map fun c => .str (chr c)))) := Evl.Ex.new nlf
    have x2 : Ex (upd H lf (.lst (cs.map fun c => .str (chr c)))) (upd (upd H lf (.lst (cs.map fun c => .str (chr c)))) ff (.lst [])) := Evl.Ex.new nff
    have hlf := x2 _ _ (upd_same : (upd H lf (.lst (cs.map fun c => .str (chr c)))) lf = _)
    have hff : (upd (upd H lf (.lst (cs.map fun c => .str (chr c)))) ff (.lst [])) ff = some (.lst []) := upd_same
    obtain ⟨lf1, lf2, lf3⟩ := D.has nlf
    obtain ⟨ff1, ff2, ff3⟩ := (D.ex x1).has nff
    have lfff : lf ≠ ff := ne_of_none (upd_same : (upd H lf (.lst (cs.map fun c => .str (chr c)))) lf = _) nff
    have nffH : H ff = none := by
      cases hq : H ff with
      | none => rfl
      | some o => exact absurd (x1 _ _ hq) (by rw [nff]; exact fun z => nomatch z)
    have D2 := (D.ex x1).ex x2
    have x12 := x1.trans x2
    show tSeq _ _ _ _ (upd (upd H lf (.lst (cs.map fun c => .str (chr c)))) ff (.lst []))
    generalize upd (upd H lf (.lst (cs.map fun c => .str (chr c)))) ff (.lst []) = H2 at x2 hlf hff D2 x12
    show tWhile _ _ _ _ _
    refine ⟨fun n σ H' => ∃ ds fs : List Nat, σ = ([some (.ref d), some (.ref l), some (.ref lf), some (.ref ff)] : L2.St) ∧ n = ds.length ∧ fs.length + ds.length = cs.length ∧ (∀ c ∈ ds, c ∈ cs) ∧ (∀ c ∈ fs, c ∈ cs) ∧ H' lf = some (.lst (ds.map fun c => .str (chr c))) ∧ H' ff = some (.lst (fs.map fun c => .str (chr c))) ∧ Kp d ga H H' ∧ Dr H' d ga la (m + fs.length),
      ⟨cs.length, cs, [], rfl, rfl, by simp, fun c h => h, (fun c h => by cases h), hlf, hff, Kp.of x12, by simpa using D2⟩, ?_⟩
    rintro n σ H3 ⟨ds, fs, rfl, rfl, hlen, hds, hfs, h1, h2, kp, D3⟩
    refine ⟨_, rfl, by show 0 ≤ sizeLine; decide, fun p np => ?_⟩
    have xp : Ex H3 (upd H3 p (.lst [])) := Evl.Ex.new np
    refine ⟨lf, p, _, rfl, rfl, SqL.of (xp _ _ h1), SqL.of upd_same, _, rfl, ?_⟩
    have h1 := xp _ _ h1
    have h2 := xp _ _ h2
    have D4 := D3.ex xp
    have kp4 := kp.ex xp
    generalize upd H3 p (.lst []) = H4 at xp h1 h2 D4 kp4
    cases ds with
    | nil =>
      have : fs.length = cs.length := by simpa using hlen
      exact iteF ⟨_, rfl, k ff fs H4 kp4 (by rw [← this]; exact D4) h2 ff2 this hfs⟩
    | cons c0 ds' =>
      refine iteT ⟨_, fun _ _ q => q, ?_⟩
      have hdl : (c0 :: ds').length ≤ 10 := by omega
      refine ⟨_, rfl, .inl ⟨rfl, _, SqL.of h2⟩, _, rfl, .inl ⟨rfl, _, SqL.of h1⟩, _, rfl, _, rfl, lf, _, rfl, .inl (SqL.of h1), d, ga, la, m + fs.length, _, rfl, D4, by omega, by rw [List.length_map, List.length_cons]; omega, by rw [List.length_map]; omega, fun z H5 kp5 D5 z0 z1 => ?_⟩
      obtain ⟨j, rfl⟩ := Int.eq_ofNat_of_zero_le z0
      have hj : j < (c0 :: ds').length := by rw [List.length_map] at z1; omega
      have h1' := kp5 _ _ h1 lf1 lf2
      have h2' := kp5 _ _ h2 ff1 ff2
      have sq := (ixN_seq (Evl.ixN_nat (n := ((c0 :: ds').map fun c => V.str (chr c)).length) (j := j) (by rw [List.length_map]; exact hj))).1
      refine ⟨lf, _, _, j, .str (chr (c0 :: ds')[j]), rfl, rfl, h1', by omega, by omega, sq, by rw [List.getElem?_map, List.getElem?_eq_getElem hj]; rfl, ?_⟩
      have h2'' : (upd H5 lf (.lst (((c0 :: ds').map fun c => V.str (chr c)).eraseIdx j))) ff = some (.lst (fs.map fun c => .str (chr c))) := by rw [upd_ne lfff.symm]; exact h2'
      refine ⟨ff, _, _, rfl, rfl, h2'', lt_line (by rw [List.length_map]; omega), ds'.length, Nat.lt_succ_self _, (c0 :: ds').eraseIdx j, fs ++ [(c0 :: ds')[j]], rfl, ?_, ?_, ?_, ?_, ?_, ?_, ?_, ?_⟩
      · rw [List.length_eraseIdx_of_lt hj]; rfl
      · rw [List.length_append, List.length_eraseIdx_of_lt hj]
        have : (c0 :: ds').length = ds'.length + 1 := rfl
        simp only [List.length_singleton]
        omega
      · exact fun c hc => hds c (List.mem_of_mem_eraseIdx hc)
      · intro c hc
        rcases List.mem_append.mp hc with h | h
        · exact hfs c h
        · rw [List.mem_singleton] at h
          rw [h]
          exact hds _ (List.getElem_mem hj)
      · rw [upd_ne lfff, upd_same, map_erase]
      · rw [upd_same, List.map_append]; rfl
      · intro b o h q1 q2
        have e1 : b ≠ ff := fun q => by rw [q, nffH] at h; cases h
        have e2 : b ≠ lf := fun q => by rw [q, nlf] at h; cases h
        rw [upd_ne e1, upd_ne e2]
        exact kp5 _ _ (kp4 _ _ h q1 q2) q1 q2
      · have := (D5.upd (o := .lst (((c0 :: ds').map fun c => V.str (chr c)).eraseIdx j)) lf1 lf2 lf3).upd (o := .lst (fs.map (fun c => V.str (chr c)) ++ [.str (chr (c0 :: ds')[j])])) ff1 ff2 ff3
        refine this.mv ?_ fun b o h _ => h
        rw [List.length_append, List.length_singleton]
        omega
abbrev N__law_other : List Str := ["_law_step"]
theorem sc__law_other : FnScope N__law_other ["_law_step"] (defScope s__law_other) := ⟨rfl, rfl, rfl, by decide +kernel, rfl, by decide +kernel, by decide +kernel⟩
theorem c__law_other (T : Tx K mg) : C8.Cal P w K mg base 1 "_law_other" spOther [] :=
  mkCal T fn__law_other rfl rfl rfl T.mg__law_other sc__law_other (fun _ _ _ _ _ _ us hl => match us, hl with | [_], _ => rfl) (fun vs H Q E h => by obtain ⟨c, rfl, _⟩ := h; rfl) fun f cdv A outer s0 H vs Q E hr h => by
    obtain ⟨c, rfl, hc, k⟩ := h
    refine ⟨_, (pss_one (ps_ret (pe_ifExp (pt_cmpR op_in_sign (pv 0) pe_str rfl) (pe_upper (pv 0)) (pe_lower (pv 0))))), ?_⟩
    refine ⟨_, rfl, c, _, rfl, rfl, _, rfl, ?_⟩
    have up : ∃ c', Txt.upper (chr c) = chr c' ∧ okc c' := by
      rcases okc_cases hc with h | h | h | h | h | h | h | h <;> subst h
      · exact ⟨65, by decide +kernel, by unfold okc; omega⟩
      · exact ⟨66, by decide +kernel, by unfold okc; omega⟩
      · exact ⟨67, by decide +kernel, by unfold okc; omega⟩
      · exact ⟨68, by decide +kernel, by unfold okc; omega⟩
      · exact ⟨65, by decide +kernel, by unfold okc; omega⟩
      · exact ⟨66, by decide +kernel, by unfold okc; omega⟩
      · exact ⟨67, by decide +kernel, by unfold okc; omega⟩
      · exact ⟨68, by decide +kernel, by unfold okc; omega⟩
    obtain ⟨c', e', ok'⟩ := up
    refine ite2 (fun _ => ?_) fun _ => ?_
    · refine ⟨_, rfl, ⟨_, rfl⟩, _, rfl, rfl, (by show 1 ≤ 5592405; decide), ?_⟩
      rw [e']
      exact k c' ok'
    · refine ⟨_, rfl, ⟨_, rfl⟩, _, rfl, rfl, (by show 1 ≤ 5592405; decide), ?_⟩
      rw [low_chr hc]
      have := lo_bd hc
      exact k (lo c) (by unfold okc; omega)
end
end K35

/-! The law's letters, rows and facts: the second half. -/
namespace K35
open PySem PySem.Spec PyProof.Rows L2
theorem rowS_app (a b : List Nat) : rowS a ++ rowS b = rowS (a ++ b) := by
  show (⟨a.toArray ++ b.toArray⟩ : Str) = ⟨(a ++ b).toArray⟩
  rw [List.append_toArray]
theorem chr_row (c : Nat) : chr c = rowS [c] := rfl
theorem cut_row (r : List Nat) (lo hi : Option Int) : ∃ r', cutS (rowS r) lo hi = rowS r' ∧ r'.length ≤ r.length ∧ ∀ c ∈ r', c ∈ r :=
  ⟨_, rfl, by rw [List.length_take, List.length_drop]; exact Nat.le_trans (Nat.min_le_right _ _) (Nat.sub_le _ _), fun c hc => List.mem_of_mem_drop (List.mem_of_mem_take hc)⟩
theorem up_chr {c : Nat} (h : c ∈ LK) : Txt.upper (chr c) = chr (c - 32) := by
  have := mem_LK h
  obtain h | h | h | h : c = 97 ∨ c = 98 ∨ c = 99 ∨ c = 100 := by omega
  all_goals (subst h; decide +kernel)
theorem up_row : ∀ {r : List Nat}, (∀ c ∈ r, c ∈ LK) → Txt.upper (rowS r) = rowS (r.map (· - 32))
  | [], _ => by decide +kernel
  | c :: r, h => by
    have e : rowS (c :: r) = chr c ++ rowS r := by rw [chr_row, rowS_app]; rfl
    rw [e, PySem.W.KOpn.upper_app, up_chr (h c List.mem_cons_self), up_row (fun x hx => h x (List.mem_cons_of_mem _ hx)), chr_row, rowS_app]
    rfl
theorem join_chr (cs : List Nat) : Txt.join (Str.ofString "") (cs.map chr) = rowS cs := by
  have e : cs.map chr = signs (rowS cs) := by unfold signs; rfl
  have e0 : Str.ofString "" = ⟨#[]⟩ := by decide +kernel
  rw [e, e0, TL.join_eq]
  exact join_nil_signs _
theorem Dr.ned {H : Hp} {d ga la l : Addr} {m : Int} {xs : List V} (D : Dr H d ga la m) (h : H l = some (.lst xs)) : l ≠ d := by
  obtain ⟨⟨kvs, dg, gs, ls, tn, h1, _⟩, ne⟩ := D
  exact ne_of h h1 (fun z => nomatch z)
def Lts (ls : List Nat) : Prop := 1 ≤ ls.length ∧ ls.length ≤ 4 ∧ ∀ c ∈ ls, c ∈ LK
def spSome : Sp := fun vs H Q _ => ∃ (d ga la : Addr) (m many : Int), vs = [.ref d, .int many] ∧ Dr H d ga la m ∧ m ≤ 999000 ∧ 1 ≤ many ∧ many ≤ 1000 ∧ ∀ ls H', Lts ls → Kp d ga H H' → Dr H' d ga la (m + 10) → Q (.str (rowS ls)) H'
def spRow : Sp := fun vs H Q _ => ∃ (d ga la : Addr) (m : Int) (ls : List Nat) (many : Nat), vs = [.ref d, .str (rowS ls), iV many] ∧ Dr H d ga la m ∧ m ≤ 990000 ∧ Lts ls ∧ 1 ≤ many ∧ many ≤ 10 ∧ ∀ r H', r.length ≤ many - 1 → (∀ c ∈ r, okc c) → Kp d ga H H' → Dr H' d ga la (m + 100) → Q (.str (rowS r)) H'
def spGrown : Sp := fun vs H Q _ => ∃ (d ga la : Addr) (m : Int) (ls r : List Nat), vs = [.ref d, .str (rowS ls), .str (rowS r)] ∧ Dr H d ga la m ∧ m ≤ 990000 ∧ Lts ls ∧ r.length ≤ 10 ∧ (∀ c ∈ r, okc c) ∧ ∀ r' H', r'.length ≤ 100 → (∀ c ∈ r', okc c) → Kp d ga H H' → Dr H' d ga la (m + 100) → Q (.str (rowS r')) H'
def spFacts (K : PySem.W.Frag) : Sp := fun vs H Q _ => ∃ (d ga la : Addr) (m : Int) (ls : List Nat), vs = [.ref d, .str (rowS ls), .int 2] ∧ Dr H d ga la m ∧ m ≤ 990000 ∧ Lts ls ∧ ∀ v fs H', FcAt K H' v fs → OkF fs → Kp d ga H H' → Dr H' d ga la (m + 100) → (∃ l, v = .ref l ∧ l ≠ d ∧ l ≠ ga) → Q v H'
section
variable {P : Program} {w : World} {K : PySem.W.Frag} {mg : Str → Option Value} {base : Heap}
abbrev N__law_some : List Str := ["_law_draw", "_law_many"]
theorem sc__law_some : FnScope N__law_some ["_law_draw", "_law_many"] (defScope s__law_some) := ⟨rfl, rfl, rfl, by decide +kernel, rfl, by decide +kernel, by decide +kernel⟩
theorem c__law_some (T : Tx K mg) : C8.Cal P w K mg base 3 "_law_some" spSome [] :=
  mkCal T fn__law_some rfl rfl rfl T.mg__law_some sc__law_some (fun _ _ _ _ _ _ us hl => match us, hl with | [_, _], _ => rfl) (fun vs H Q E h => by obtain ⟨d, ga, la, m, many, rfl, _⟩ := h; rfl) fun f cdv A outer s0 H vs Q E hr h => by
    obtain ⟨d, ga, la, m, many, rfl, D, hm, h1, h2, k⟩ := h
    refine ⟨_, (pss_one (ps_ret (pe_join pe_str (pe_slice sl_list (C8.pe_c (c__law_shuffled T) hr (by decide) (by rfl) (pa_cons (pv 0) (pa_cons (pe_callTy (call_list_txt rfl) (by rfl) T.f_list (by decide +kernel) (pa_cons pe_str pa_nil)) pa_nil))) po_none (po_some (pe_op op_add pe_int (C8.pe_c (c__law_next T) hr (by decide) (by rfl) (pa_cons (pv 0) (pa_cons (pv 1) pa_nil))))))))), ?_⟩
    have eL : ("abcd" : Str).cps.toList = LK := by decide +kernel
    refine ⟨⟨_, rfl⟩, _, rfl, _, rfl, (by show 4 ≤ sizeLine; decide), fun l nl => ?_⟩
    rw [eL]
    have xl : Ex H (upd H l (.lst (LK.map fun c => V.str (chr c)))) := Evl.Ex.new nl
    refine ⟨d, ga, la, l, m, LK, rfl, D.ex xl, by omega, upd_same, by decide, fun l' cs' H1 kp D1 h1' lg hlen hsub => ?_⟩
    refine ⟨_, rfl, _, rfl, d, ga, la, _, many, rfl, D1, (by show m + 4 ≤ 1000000; omega), h1, h2, fun z H2 kp2 D2 z0 z1 => ⟨_, _, rfl, rfl, _, rfl, ?_⟩⟩
    have h2' := kp2 _ _ h1' (D1.ned h1') lg
    refine ⟨l', _, rfl, SqL.of h2', fun p np => ?_⟩
    obtain ⟨j, rfl⟩ := Int.eq_ofNat_of_zero_le z0
    have hl4 : cs'.length = 4 := hlen
    have e : cutV (cs'.map fun c => V.str (chr c)) none (some (1 + (j : Int))) = ((cs'.take (min (1 + j) 4)).map chr).map V.str := by
      unfold cutV
      rw [List.length_map, hl4]
      have s1 : HT.sIx 4 0 none = 0 := rfl
      have s2 : HT.sIx 4 4 (some (1 + (j : Int))) = min (1 + j) 4 := by
        show (if (1 + (j : Int)) < 0 then (1 + (j : Int) + (4 : Nat)).toNat else min (1 + (j : Int)).toNat 4) = _
        rw [if_neg (by omega)]
        have : (1 + (j : Int)).toNat = 1 + j := by omega
        rw [this]
      rw [s1, s2, List.drop_zero, Nat.sub_zero, ← List.map_take, List.map_map]
      rfl
    show ∃ (a : Str) (p' : Addr) (ys : List Str), V.str (Str.ofString "") = .str a ∧ [V.ref p] = [.ref p'] ∧ (SqL K (upd H2 p (.lst (cutV (cs'.map fun c => V.str (chr c)) none (some (1 + (j : Int)))))) p' (ys.map V.str) ∨ SqT K (upd H2 p (.lst (cutV (cs'.map fun c => V.str (chr c)) none (some (1 + (j : Int)))))) p' (ys.map V.str)) ∧ _
    refine ⟨_, p, (cs'.take (min (1 + j) 4)).map chr, rfl, rfl, .inl (SqL.of (by rw [e]; exact upd_same)), ?_, ?_⟩
    · have : ∀ l : List Nat, ((l.map chr).map (fun x => x.length)).sum = l.length := fun l => by
        induction l with
        | nil => rfl
        | cons a b ih => simp only [List.map_cons, List.sum_cons, List.length_cons, ih]; show 1 + _ = _; omega
      rw [this, List.length_map, List.length_take]
      have : (Str.ofString "").length = 0 := by decide +kernel
      rw [this]
      omega
    · rw [join_chr]
      refine k _ _ ⟨?_, ?_, ?_⟩ (((Kp.of xl).trans (kp.trans kp2)).ex (Evl.Ex.new np)) ((D2.ex (Evl.Ex.new np)).mv (by show m + 4 + 1 ≤ m + 10; omega) fun b o h _ => h)
      · rw [List.length_take]; omega
      · rw [List.length_take]; omega
      · exact fun c hc => hsub c (List.mem_of_mem_take hc)
abbrev N__law_row : List Str := ["_law_draw", "_law_letters", "_law_many", "_law_found", "_law_step"]
theorem sc__law_row : FnScope N__law_row ["_law_draw", "_law_letters", "_law_many"] (defScope s__law_row) := ⟨rfl, rfl, rfl, by decide +kernel, rfl, by decide +kernel, by decide +kernel⟩
theorem c__law_row (T : Tx K mg) : C8.Cal P w K mg base 3 "_law_row" spRow [] :=
  have c__law_pick := fun T => c__law_pickS (P := P) (w := w) (K := K) (mg := mg) (base := base) T
  mkCal T fn__law_row rfl rfl rfl T.mg__law_row sc__law_row (fun _ _ _ _ _ _ us hl => match us, hl with | [_, _, _], _ => rfl) (fun vs H Q E h => by obtain ⟨d, ga, la, m, ls, many, rfl, _⟩ := h; rfl) fun f cdv A outer s0 H vs Q E hr h => by
    obtain ⟨d, ga, la, m, ls, many, rfl, D, hm, hL, h1, h2, k⟩ := h
    refine ⟨_, (pss_cons (ps_set (i := 3) sc__law_row.nd rfl (Or.inl rfl) pe_str)
      (pss_cons (ps_while PassesOwn.never (PW.pt (pw_and (pt_cmpR op_lt (pe_callB call_len_str (by rfl) T.f_len (by decide +kernel) (pa_cons (pv 3) pa_nil)) (pe_op op_sub (pv 2) pe_int) (nomark _)) (pw_and1 (pt_cmpR op_gt (C8.pe_c (c__law_next T) hr (by decide) (by rfl) (pa_cons (pv 0) (pa_cons (pv 2) pa_nil))) pe_int (nomark _))))) (pss_cons (ps_set (i := 4) sc__law_row.nd rfl (Or.inl rfl) (C8.pe_c (c__law_pick T) hr (by decide) (by rfl) (pa_cons (pv 0) (pa_cons (pe_op op_add_str (pv 1) (pe_upper (pv 1))) pa_nil))))
        (pss_cons (ps_if (PW.pt (pw_and (pt_cmpR op_ne (pv 3) pe_str (nomark _)) (pw_and1 (pt_cmpR op_eq (C8.pe_c (c__law_next T) hr (by decide) (by rfl) (pa_cons (pv 0) (pa_cons pe_int pa_nil))) pe_int (nomark _))))) (pss_one (ps_set (i := 4) sc__law_row.nd rfl (Or.inl rfl) (C8.pe_c (c__law_other T) hr (by decide) (by rfl) (pa_cons (pe_ix ix_str (pv 3) (pe_un un_neg pe_int) (fun _ _ => rfl)) pa_nil)))) pss_nil)
        (pss_one (ps_set (i := 3) sc__law_row.nd rfl (Or.inl rfl) (pe_op op_add_str (pv 3) (pv 4)))))))
      (pss_one (ps_ret (pv 3))))), ?_⟩
    obtain ⟨hL1, hL4, hLK⟩ := hL
    have okL : ∀ c ∈ ls ++ ls.map (· - 32), okc c := fun c hc => by
      rcases List.mem_append.mp hc with h | h
      · have := mem_LK (hLK c h)
        unfold okc
        omega
      · obtain ⟨b, hb, rfl⟩ := List.mem_map.mp h
        have := mem_LK (hLK b hb)
        unfold okc
        omega
    show tWhile _ _ _ _ _
    refine ⟨fun n σ H' => ∃ (fs : List Nat) (v4 : Option V), σ = ([some (.ref d), some (.str (rowS ls)), some (iV many), some (.str (rowS fs)), v4] : L2.St) ∧ n + fs.length = many - 1 ∧ (∀ c ∈ fs, okc c) ∧ Kp d ga H H' ∧ Dr H' d ga la (m + 3 * fs.length), ⟨many - 1, [], none, rfl, rfl, (fun c h => by cases h), Kp.of (.refl _), by simpa using D⟩, ?_⟩
    rintro n σ H1 ⟨fs, v4, rfl, hn, hfs, kp, D1⟩
    have hfl : fs.length ≤ 10 := by omega
    have hb : ∀ r : List Nat, r.length ≤ 100 → (rowS r).length ≤ sizeLine := fun r h => by rw [rowS_len]; exact Nat.le_of_lt (lt_line (by omega))
    have done : ∀ H2 m', Kp d ga H H2 → Dr H2 d ga la m' → m' ≤ m + 100 → Q (.str (rowS fs)) H2 := fun H2 m' kp2 D2 hm' => k fs H2 (by omega) hfs kp2 (D2.mv hm' fun b o h _ => h)
    refine ⟨_, rfl, _, rfl, hb fs (by omega), _, rfl, _, _, rfl, rfl, _, _, rfl, rfl, _, rfl, ?_⟩
    refine Classical.byContradiction fun hG => ?_
    by_cases hlt : ((rowS fs).length : Int) < (many : Int) - 1
    case neg =>
      refine hG ?_
      show (if decide (((rowS fs).length : Int) < (many : Int) - 1) = true then _ else _)
      rw [decide_eq_false hlt]
      exact iteF (iteF ⟨_, rfl, done H1 _ kp D1 (by omega)⟩)
    refine hG ?_
    show (if decide (((rowS fs).length : Int) < (many : Int) - 1) = true then _ else _)
    rw [decide_eq_true hlt]
    rw [rowS_len] at hlt
    refine iteT ⟨_, rfl, _, rfl, d, ga, la, _, _, rfl, D1, by omega, by omega, by omega, fun z H2 kp2 D2 z0 z1 => ⟨_, _, rfl, rfl, _, rfl, ?_⟩⟩
    have kp02 := kp.trans kp2
    refine ite2 (fun _ => ?_) fun _ => ⟨_, rfl, done H2 _ kp02 D2 (by omega)⟩
    refine ⟨_, fun _ _ q => q, ?_⟩
    refine ⟨_, rfl, _, rfl, _, rfl, ⟨_, rfl⟩, _, rfl, rfl, (by rw [rowS_len]; omega), _, _, rfl, rfl, ?_, ?_⟩
    · rw [up_row hLK, rowS_len, rowS_len, List.length_map]
      exact Nat.le_of_lt (lt_line (by omega))
    rw [up_row hLK, rowS_app]
    refine ⟨d, ga, la, _, ls ++ ls.map (· - 32), rfl, D2, by omega, ?_, by rw [List.length_append, List.length_map]; omega, fun c H3 hc kp3 D3 => ?_⟩
    · cases ls with
      | nil => simp at hL1
      | cons a b => exact fun z => by cases z
    have okc0 := okL c hc
    have kp03 := kp02.trans kp3
    have fin : ∀ (c' : Nat) (H4 : Hp) (m' : Int) (Kf : L2.St → Hp → Prop), okc c' → Kp d ga H H4 → Dr H4 d ga la m' → m' ≤ m + 3 * fs.length + 3 → (∀ σ H', (∃ m', m' < n ∧ ∃ (fs : List Nat) (v4 : Option V), σ = ([some (.ref d), some (.str (rowS ls)), some (iV many), some (.str (rowS fs)), v4] : L2.St) ∧ m' + fs.length = many - 1 ∧ (∀ c ∈ fs, okc c) ∧ Kp d ga H H' ∧ Dr H' d ga la (m + 3 * fs.length)) → Kf σ H') →
        (tOp (fun x y H Q => ∃ i j, x = V.str i ∧ y = V.str j ∧ i.length + j.length ≤ sizeLine ∧ Q (V.str (i ++ j)) H) (tVar 3) (tVar 4)) [some (.ref d), some (.str (rowS ls)), some (iV many), some (.str (rowS fs)), some (.str (chr c'))] H4 fun x H5 => Kf [some (.ref d), some (.str (rowS ls)), some (iV many), some x, some (.str (chr c'))] H5 := by
      intro c' H4 m' Kf hc' kp4 D4 hm' hK
      refine ⟨_, rfl, _, rfl, _, _, rfl, rfl, ?_, hK _ _ ⟨n - 1, by omega, fs ++ [c'], _, by rw [chr_row, rowS_app], by rw [List.length_append, List.length_singleton]; omega, fun x hx => ?_, kp4, ?_⟩⟩
      · rw [rowS_len, chr_row, rowS_len]
        exact Nat.le_of_lt (lt_line (by show fs.length + 1 ≤ 1000; omega))
      · rcases List.mem_append.mp hx with h | h
        · exact hfs x h
        · rw [List.mem_singleton] at h; rw [h]; exact hc'
      · refine D4.mv ?_ fun b o h _ => h
        rw [List.length_append, List.length_singleton]
        omega
    rcases List.eq_nil_or_concat fs with rfl | ⟨fs', x, rfl⟩
    · refine ⟨_, rfl, rfl, _, rfl, ?_⟩
      have d0 : decide (V.str (rowS []) = V.str "") = true := by decide +kernel
      show (if (!decide (V.str (rowS []) = V.str "")) = true then _ else _)
      rw [d0]
      exact iteF (iteF (fin c H3 _ _ okc0 kp03 D3 (by rw [List.length_nil]; omega) fun σ H' z => z))
    · rw [List.concat_eq_append] at *
      refine ⟨_, rfl, rfl, _, rfl, ?_⟩
      have d0 : decide (V.str (rowS (fs' ++ [x])) = V.str "") = false := decide_eq_false fun z => by
        have z := congrArg Str.length (V.str.inj z)
        rw [rowS_len, List.length_append] at z
        have : (("" : Str)).length = 0 := by decide +kernel
        rw [this] at z
        simp at z
      show (if (!decide (V.str (rowS (fs' ++ [x])) = V.str "")) = true then _ else _)
      rw [d0]
      refine iteT ⟨_, rfl, d, ga, la, _, 3, rfl, D3, by omega, by decide, by decide, fun z3 H4 kp4 D4 _ _ => ⟨rfl, _, rfl, ?_⟩⟩
      have kp04 := kp03.trans kp4
      refine ite2 (fun _ => ?_) fun _ => fin c H4 _ _ okc0 kp04 D4 (by omega) fun σ H' z => z
      refine ⟨_, rfl, 1, rfl, rowS (fs' ++ [x]), -1, x, rfl, rfl, hb _ (by omega), atI_last fs' x, x, rfl, hfs x (List.mem_append_right _ (List.mem_singleton.mpr rfl)), fun c' hc' => ?_⟩
      exact fin c' H4 _ _ hc' kp04 D4 (by omega) fun σ H' z => z
abbrev N__law_grown : List Str := ["_law_draw", "_law_letters", "_law_row_here", "_law_turn", "_law_at", "_law_letter", "_law_way", "_law_one"]
theorem sc__law_grown : FnScope N__law_grown ["_law_draw", "_law_letters", "_law_row_here"] (defScope s__law_grown) := ⟨rfl, rfl, rfl, by decide +kernel, rfl, by decide +kernel, by decide +kernel⟩
theorem c__law_grown (T : Tx K mg) : C8.Cal P w K mg base 3 "_law_grown" spGrown [] :=
  have c__law_pick := fun T => c__law_pickS (P := P) (w := w) (K := K) (mg := mg) (base := base) T
  mkCal T fn__law_grown rfl rfl rfl T.mg__law_grown sc__law_grown (fun _ _ _ _ _ _ us hl => match us, hl with | [_, _, _], _ => rfl) (fun vs H Q E h => by obtain ⟨d, ga, la, m, ls, r, rfl, _⟩ := h; rfl) fun f cdv A outer s0 H vs Q E hr h => by
    obtain ⟨d, ga, la, m, ls, r, rfl, D, hm, hL, hrl, hrc, k⟩ := h
    refine ⟨_, (pss_cons (ps_for PassesOwn.never rfl (pi_range1 rfl T.f_range (pa_cons (C8.pe_c (c__law_next T) hr (by decide) (by rfl) (pa_cons (pv 0) (pa_cons pe_int pa_nil))) pa_nil)) (pg_name (i := 3) sc__law_grown.nd rfl (Or.inl rfl)) (pss_cons (ps_par (i := 4) (j := 5) (by rfl) sc__law_grown.nd rfl rfl (by decide) rfl rfl (pa_cons (C8.pe_c (c__law_next T) hr (by decide) (by rfl) (pa_cons (pv 0) (pa_cons (pe_op op_add (pe_callB call_len_str (by rfl) T.f_len (by decide +kernel) (pa_cons (pv 2) pa_nil)) pe_int) pa_nil))) (pa_cons (C8.pe_c (c__law_pick T) hr (by decide) (by rfl) (pa_cons (pv 0) (pa_cons (pv 1) pa_nil))) pa_nil)) (by rfl))
        (pss_cons (ps_set (i := 6) sc__law_grown.nd rfl (Or.inl rfl) (C8.pe_c (c__law_next T) hr (by decide) (by rfl) (pa_cons (pv 0) (pa_cons pe_int pa_nil))))
        (pss_one (ps_if (pt_cmpR op_eq (pv 6) pe_int (nomark _)) (pss_one (ps_set (i := 2) sc__law_grown.nd rfl (Or.inl rfl) (pe_op op_add_str (pe_op op_add_str (pe_slice sl_str (pv 2) po_none (po_some (pv 4))) (pv 5)) (pe_slice sl_str (pv 2) (po_some (pv 4)) po_none)))) (pss_one (ps_if (pt_cmpR op_eq (pv 6) pe_int (nomark _)) (pss_one (ps_set (i := 2) sc__law_grown.nd rfl (Or.inl rfl) (pe_op op_add_str (pe_op op_add_str (pe_op op_add_str (pe_slice sl_str (pv 2) po_none (po_some (pv 4))) (pv 5)) (pe_upper (pv 5))) (pe_slice sl_str (pv 2) (po_some (pv 4)) po_none)))) (pss_one (ps_if (PW.pt (pw_and (pt_cmpR op_lt (pv 4) (pe_callB call_len_str (by rfl) T.f_len (by decide +kernel) (pa_cons (pv 2) pa_nil)) (nomark _)) (pw_and1 (pt_cmpR op_in_sign (pe_ix ix_str (pv 2) (pv 4) (fun _ _ => rfl)) pe_str rfl)))) (pss_one (ps_set (i := 2) sc__law_grown.nd rfl (Or.inl rfl) (pe_op op_add_str (pe_slice sl_str (pv 2) po_none (po_some (pv 4))) (pe_slice sl_str (pv 2) (po_some (pe_op op_add (pv 4) pe_int)) po_none)))) (pss_one (ps_if (pt_cmpR (op_in_seqK (K := K) rfl) (pe_slice sl_str (pv 2) (po_some (pv 4)) (po_some (pe_op op_add (pv 4) pe_int))) (pe_lc (own := [("_law_one", 7)]) (g := gName 7) rfl sc__law_grown.nd (pi_str pe_str) (blkOk_by (own := [("_law_one", 7)]) (N := N__law_grown) (sc := defScope s__law_grown) (by decide +kernel)) (fun _ _ _ _ _ => (pg_name (i := 7) sc__law_grown.nd rfl (Or.inl rfl))) (fun _ _ _ _ _ => pts_nil) (fun _ _ _ _ _ => (pe_op op_add_str (pe_upper (pv 7)) (pv 7)))) rfl) (pss_one (ps_set (i := 2) sc__law_grown.nd rfl (Or.inl rfl) (pe_op op_add_str (pe_slice sl_str (pv 2) po_none (po_some (pv 4))) (pe_slice sl_str (pv 2) (po_some (pe_op op_add (pv 4) pe_int)) po_none)))) pss_nil)))))))))))
      (pss_one (ps_ret (pv 2)))), ?_⟩
    obtain ⟨hL1, hL4, hLK⟩ := hL
    refine ⟨_, rfl, d, ga, la, m, 4, rfl, D, by omega, by decide, by decide, fun z H1 kp1 D1 z0 z1 => ?_⟩
    obtain ⟨n, rfl⟩ := Int.eq_ofNat_of_zero_le z0
    refine ⟨_, rfl, (b62 (by omega)).1, (b62 (by omega)).2, ?_⟩
    have hb2 : ∀ a b : List Nat, a.length ≤ 400 → b.length ≤ 400 → (rowS a).length + (rowS b).length ≤ sizeLine := fun a b h1 h2 => by rw [rowS_len, rowS_len]; exact Nat.le_of_lt (lt_line (by omega))
    have hb1 : ∀ a : List Nat, a.length ≤ 400 → (rowS a).length ≤ sizeLine := fun a h1 => by rw [rowS_len]; exact Nat.le_of_lt (lt_line (by omega))
    refine for_rng (n := n) (fun i σ H' => ∃ (r : List Nat) (v3 v4 v5 v6 : Option V), σ = ([some (.ref d), some (.str (rowS ls)), some (.str (rowS r)), v3, v4, v5, v6, none] : L2.St) ∧ r.length + 2 ≤ 12 * 2 ^ i ∧ (∀ c ∈ r, okc c) ∧ Kp d ga H H' ∧ Dr H' d ga la (m + 1 + 3 * i)) ⟨r, none, none, none, none, rfl, by omega, hrc, kp1, by simpa using D1⟩ ?_ ?_
    · rintro i σ H2 hi ⟨r, v3, v4, v5, v6, rfl, hr1, hr2, kp2, D2⟩
      have hi3 : i ≤ 2 := by omega
      have h2i : 2 ^ i ≤ 4 := by
        obtain h | h | h : i = 0 ∨ i = 1 ∨ i = 2 := by omega
        all_goals (subst h; decide)
      have hp2 : 2 ^ (i + 1) = 2 * 2 ^ i := by rw [Nat.pow_succ, Nat.mul_comm]
      have hrl2 : r.length ≤ 46 := by omega
      refine ⟨_, rfl, _, rfl, _, rfl, hb1 r (by omega), _, _, rfl, rfl, d, ga, la, _, _, rfl, D2, by omega, by rw [rowS_len]; omega, by rw [rowS_len]; omega, fun z H3 kp3 D3 z0 z1 => ?_⟩
      obtain ⟨at', rfl⟩ := Int.eq_ofNat_of_zero_le z0
      refine ⟨_, rfl, _, rfl, d, ga, la, _, ls, rfl, D3, by omega, ?_, by omega, fun c H4 hc kp4 D4 => ⟨_, _, rfl, ?_⟩⟩
      · cases ls with
        | nil => simp at hL1
        | cons a b => exact fun z => by cases z
      have hcL := hLK c hc
      have okc1 : okc c := by have := mem_LK hcL; unfold okc; omega
      have okc2 : okc (c - 32) := by have := mem_LK hcL; unfold okc; omega
      refine ⟨_, rfl, d, ga, la, _, 3, rfl, D4, by omega, by decide, by decide, fun wy H5 kp5 D5 w0 w1 => ?_⟩
      have kp05 := ((kp2.trans kp3).trans kp4).trans kp5
      have fin : ∀ (z : Str) (H6 : Hp) (w v6 v7 : Option V), Ex H5 H6 → (∃ r', z = rowS r' ∧ r'.length ≤ 2 * r.length + 2 ∧ ∀ c ∈ r', okc c) → ∃ (r : List Nat) (v3 v4 v5 v6 : Option V), ([some (.ref d), some (.str (rowS ls)), some (.str z), some (iV i), some (iV at'), some (.str (chr c)), some (.int wy), none] : L2.St) = [some (.ref d), some (.str (rowS ls)), some (.str (rowS r)), v3, v4, v5, v6, none] ∧ r.length + 2 ≤ 12 * 2 ^ (i + 1) ∧ (∀ c ∈ r, okc c) ∧ Kp d ga H H6 ∧ Dr H6 d ga la (m + 1 + 3 * ((i + 1 : Nat) : Int)) := by
        rintro z H6 w v6 v7 x6 ⟨r', rfl, q1, q2⟩
        exact ⟨r', _, _, _, _, rfl, by rw [hp2]; omega, q2, kp05.ex x6, (D5.ex x6).mv (by omega) fun b o h _ => h⟩
      obtain ⟨ra, ea, la1, ma⟩ := cut_row r none (some (at' : Int))
      obtain ⟨rb, eb, lb1, mb⟩ := cut_row r (some (at' : Int)) none
      obtain ⟨rc, ec, lc1, mc⟩ := cut_row r (some ((at' : Int) + 1)) none
      obtain ⟨rd, ed, ld1, md⟩ := cut_row r (some ((at' : Int) + 2)) none
      have okm : ∀ (a b : List Nat), (∀ x ∈ a, x ∈ r) → (∀ x ∈ b, x ∈ r) → ∀ (mid : List Nat), (∀ x ∈ mid, okc x) → ∀ x ∈ a ++ mid ++ b, okc x := fun a b ha hb mid hm x hx => by
        rcases List.mem_append.mp hx with h | h
        · rcases List.mem_append.mp h with h | h
          · exact hr2 x (ha x h)
          · exact hm x h
        · exact hr2 x (hb x h)
      refine ⟨_, rfl, rfl, _, rfl, ite2 (fun _ => ?_) fun _ => ?_⟩
      · refine ⟨_, rfl, _, rfl, _, rfl, _, rfl, hb1 r (by omega), _, rfl, _, _, rfl, rfl, (by rw [ea, chr_row]; exact hb2 _ _ (by omega) (by show 1 ≤ 400; omega)), _, rfl, _, rfl, _, rfl, _, rfl, hb1 r (by omega), _, _, rfl, rfl, (by rw [ea, eb, chr_row, rowS_app]; exact hb2 _ _ (by rw [List.length_append]; show ra.length + 1 ≤ 400; omega) (by omega)), ?_⟩
        exact fin _ H5 none none none (.refl _) ⟨ra ++ [c] ++ rb, by rw [ea, eb, chr_row, rowS_app, rowS_app], by simp only [List.length_append, List.length_singleton]; omega, okm ra rb ma mb [c] fun x hx => by rw [List.mem_singleton] at hx; rw [hx]; exact okc1⟩
      refine ⟨_, rfl, rfl, _, rfl, ite2 (fun _ => ?_) fun _ => ?_⟩
      · refine ⟨_, rfl, _, rfl, _, rfl, _, rfl, hb1 r (by omega), _, rfl, _, _, rfl, rfl, (by rw [ea, chr_row]; exact hb2 _ _ (by omega) (by show 1 ≤ 400; omega)), _, rfl, ⟨_, rfl⟩, _, rfl, rfl, (by show 1 ≤ 5592405; decide), _, _, rfl, rfl, (by rw [ea, up_chr hcL, chr_row, chr_row, rowS_app]; exact hb2 _ _ (by rw [List.length_append]; show ra.length + 1 ≤ 400; omega) (by show 1 ≤ 400; omega)), _, rfl, _, rfl, _, rfl, _, rfl, hb1 r (by omega), _, _, rfl, rfl, (by rw [ea, eb, up_chr hcL, chr_row, chr_row, rowS_app, rowS_app]; exact hb2 _ _ (by simp only [List.length_append, List.length_singleton]; omega) (by omega)), ?_⟩
        exact fin _ H5 none none none (.refl _) ⟨ra ++ [c] ++ [c - 32] ++ rb, by rw [ea, eb, up_chr hcL, chr_row, chr_row, rowS_app, rowS_app, rowS_app], by simp only [List.length_append, List.length_singleton]; omega, by
          rw [List.append_assoc ra]
          exact okm ra rb ma mb ([c] ++ [c - 32]) fun x hx => by
            rcases List.mem_append.mp hx with h | h
            · rw [List.mem_singleton] at h; rw [h]; exact okc1
            · rw [List.mem_singleton] at h; rw [h]; exact okc2⟩
      have two : ∀ (H6 : Hp) (Kf : L2.St → Hp → Prop), Ex H5 H6 → (∀ σ H', (∃ (r : List Nat) (v3 v4 v5 v6 : Option V), σ = ([some (.ref d), some (.str (rowS ls)), some (.str (rowS r)), v3, v4, v5, v6, none] : L2.St) ∧ r.length + 2 ≤ 12 * 2 ^ (i + 1) ∧ (∀ c ∈ r, okc c) ∧ Kp d ga H H' ∧ Dr H' d ga la (m + 1 + 3 * ((i + 1 : Nat) : Int))) → Kf σ H') →
          (tIfS (tTest (tOp (rIn K false) (tSl rSlS (tVar 2) (tPart (tVar 4)) (tPart (tOp (rI0 fun i j => V.int (i + j)) (tVar 4) (tC (V.int 2)))))
                  (tLc (iStr (tC (V.str (Str.ofString "abcd")))) (gName 7) tYes
                    (tOp (fun x y H Q => ∃ i j, x = V.str i ∧ y = V.str j ∧ i.length + j.length ≤ sizeLine ∧ Q (V.str (i ++ j)) H) (tM0 (fun x xs H Q => ∃ a, x = V.str a ∧ xs = [] ∧ a.length ≤ 5592405 ∧ Q (V.str (Txt.upper a)) H) (tVar 7)) (tVar 7))
                    [7])))
              (tAsg (tOp (fun x y H Q => ∃ i j, x = V.str i ∧ y = V.str j ∧ i.length + j.length ≤ sizeLine ∧ Q (V.str (i ++ j)) H) (tSl rSlS (tVar 2) tNoPart (tPart (tVar 4))) (tSl rSlS (tVar 2) (tPart (tOp (rI0 fun i j => V.int (i + j)) (tVar 4) (tC (V.int 2)))) tNoPart)) (gName 2)) tNext)
            { nx := Kf, rt := Q } [some (.ref d), some (.str (rowS ls)), some (.str (rowS r)), some (iV i), some (iV at'), some (.str (chr c)), some (.int wy), none] H6 := by
        intro H6 Kf x6 hK
        refine ⟨_, rfl, _, rfl, _, rfl, _, rfl, _, _, rfl, rfl, _, rfl, _, rfl, hb1 r (by omega), _, rfl, fun cl ncl => ?_⟩
        refine lc_wk (wk_str (z := ("abcd" : Str))) (fun j H' => Ex H6 H' ∧ ∃ xs : List V, H' cl = some (.lst xs) ∧ xs.length ≤ j ∧ xs.all flatV = true) ⟨Evl.Ex.new ncl, [], upd_same, Nat.le_refl _, rfl⟩ (fun _ _ _ _ => trivial) ?_ ?_
        · rintro j y H7 H7' hj ⟨x7, xs, g1, g2, g3⟩ ⟨rfl, o, ho, rfl⟩
          have hj4 : j < 4 := hj
          obtain ⟨_, mo⟩ := lk_at ho
          refine ⟨rfl, ?_⟩
          refine ⟨_, rfl, ⟨_, rfl⟩, _, rfl, rfl, (by show 1 ≤ 5592405; decide), _, rfl, _, _, rfl, rfl, ?_, xs, g1, lt_line (by omega), Evl.Ex.mut x7 ncl, xs ++ [_], upd_same, by rw [List.length_append, List.length_singleton]; omega, ?_⟩
          · show (Txt.upper (chr o)).length + (chr o).length ≤ sizeLine
            rw [up_chr mo]
            show 2 ≤ sizeLine
            decide
          · rw [List.all_append, g3]
            rfl
        · rintro H7 ⟨x7, xs, g1, g2, g3⟩
          refine ⟨cl, xs, rfl, .inl (SqL.of g1), rfl, g3, _, rfl, ite2 (fun _ => ?_) fun _ => ?_⟩
          · refine ⟨_, rfl, _, rfl, _, rfl, _, rfl, hb1 r (by omega), _, rfl, _, rfl, _, _, rfl, rfl, _, rfl, _, rfl, hb1 r (by omega), _, _, rfl, rfl, (by rw [ea, ed]; exact hb2 _ _ (by omega) (by omega)), ?_⟩
            exact hK _ _ (fin _ H7 none none none (x6.trans x7) ⟨ra ++ [] ++ rd, by rw [ea, ed, rowS_app, List.append_nil], by simp only [List.length_append, List.length_nil]; omega, okm ra rd ma md [] fun x hx => by cases hx⟩)
          · exact hK _ _ (fin _ H7 none none none (x6.trans x7) ⟨r, rfl, by omega, hr2⟩)
      by_cases hat : at' < r.length
      · refine ⟨_, rfl, _, rfl, _, rfl, hb1 r (by omega), _, _, rfl, rfl, _, rfl, ?_⟩
        rw [rowS_len, decide_eq_true (show (at' : Int) < (r.length : Int) by omega)]
        refine iteT ⟨_, rfl, _, rfl, rowS r, at', r[at'], rfl, rfl, hb1 r (by omega), atI_nat (by show r.toArray.toList[at']? = _; exact List.getElem?_eq_getElem hat), r[at'], _, rfl, rfl, _, rfl, ?_⟩
        refine ite2 (fun _ => ?_) fun _ => two H5 _ (.refl _) fun σ H' z => z
        refine ⟨_, rfl, _, rfl, _, rfl, _, rfl, hb1 r (by omega), _, rfl, _, rfl, _, _, rfl, rfl, _, rfl, _, rfl, hb1 r (by omega), _, _, rfl, rfl, (by rw [ea, ec]; exact hb2 _ _ (by omega) (by omega)), ?_⟩
        exact fin _ H5 none none none (.refl _) ⟨ra ++ [] ++ rc, by rw [ea, ec, rowS_app, List.append_nil], by simp only [List.length_append, List.length_nil]; omega, okm ra rc ma mc [] fun x hx => by cases hx⟩
      · refine ⟨_, rfl, _, rfl, _, rfl, hb1 r (by omega), _, _, rfl, rfl, _, rfl, ?_⟩
        rw [rowS_len, decide_eq_false (show ¬ ((at' : Int) < (r.length : Int)) by omega)]
        exact iteF (iteF (two H5 _ (.refl _) fun σ H' z => z))
    · rintro σ H2 ⟨r, v3, v4, v5, v6, rfl, hr1, hr2, kp2, D2⟩
      have hn3 : n ≤ 3 := by omega
      have h2n : 2 ^ n ≤ 8 := by
        obtain h | h | h | h : n = 0 ∨ n = 1 ∨ n = 2 ∨ n = 3 := by omega
        all_goals (subst h; decide)
      exact ⟨_, rfl, k r H2 (by omega) hr2 kp2 (D2.mv (by omega) fun b o h _ => h)⟩
abbrev N__law_facts : List Str := ["_law_draw", "_law_letters", "_law_many", "_law_pairs", "_law_found", "_law_x", "_law_turn", "_law_y"]
theorem sc__law_facts : FnScope N__law_facts ["_law_draw", "_law_letters", "_law_many"] (defScope s__law_facts) := ⟨rfl, rfl, rfl, by decide +kernel, rfl, by decide +kernel, by decide +kernel⟩
theorem c__law_facts (T : Tx K mg) : C8.Cal P w K mg base 3 "_law_facts" (spFacts K) [] :=
  have c__law_pick := fun T => c__law_pickL (P := P) (w := w) (K := K) (mg := mg) (base := base) T
  mkCal T fn__law_facts rfl rfl rfl T.mg__law_facts sc__law_facts (fun _ _ _ _ _ _ us hl => match us, hl with | [_, _, _], _ => rfl) (fun vs H Q E h => by obtain ⟨d, ga, la, m, ls, rfl, _⟩ := h; rfl) fun f cdv A outer s0 H vs Q E hr h => by
    obtain ⟨d, ga, la, m, ls, rfl, D, hm, hL, k⟩ := h
    refine ⟨_, (pss_cons (ps_par (i := 3) (j := 4) (by rfl) sc__law_facts.nd rfl rfl (by decide) rfl rfl (pa_cons (pe_lst pa_nil) (pa_cons (pe_lst pa_nil) pa_nil)) (by rfl))
      (pss_cons (ps_for PassesOwn.never rfl (pi_str (pv 1)) (pg_name (i := 5) sc__law_facts.nd rfl (Or.inr rfl)) (pss_one (ps_set (i := 3) sc__law_facts.nd rfl (Or.inl rfl) (pe_op op_cat (pv 3) (pe_lc (own := [("_law_y", 7)]) (g := gName 7) rfl sc__law_facts.nd (pi_str (pv 1)) (blkOk_by (own := [("_law_y", 7)]) (N := N__law_facts) (sc := defScope s__law_facts) (by decide +kernel)) (fun _ _ _ _ _ => (pg_name (i := 7) sc__law_facts.nd rfl (Or.inl rfl))) (fun _ _ _ _ _ => (pts_one (pt_cmpR op_ne (pv 5) (pv 7) (nomark _)))) (fun _ _ _ _ _ => (pe_tup (pa_cons (pv 5) (pa_cons (pv 7) pa_nil)))))))))
      (pss_cons (ps_for PassesOwn.never rfl (pi_range1 rfl T.f_range (pa_cons (pe_op op_mul (C8.pe_c (c__law_next T) hr (by decide) (by rfl) (pa_cons (pv 0) (pa_cons (pe_op op_add (pv 2) pe_int) pa_nil))) (pe_callTy call_int1 (by rfl) T.f_int (by decide +kernel) (pa_cons (pe_cmpR (op_neNil (hu64 hr)) (pv 3) (pe_lst pa_nil) (nomark _)) pa_nil))) pa_nil)) (pg_name (i := 6) sc__law_facts.nd rfl (Or.inl rfl)) (pss_one (ps_expr (pe_bm PySem.F.plainAttrs_list PySem.F.slot_list_append PySem.F.type_list_append mt_append (pv 4) (pa_cons (C8.pe_c (c__law_pick T) hr (by decide) (by rfl) (pa_cons (pv 0) (pa_cons (pv 3) pa_nil))) pa_nil)))))
      (pss_one (ps_ret (pv 4)))))), ?_⟩
    obtain ⟨hL1, hL4, hLK⟩ := hL
    refine ⟨by show 0 ≤ sizeLine; decide, fun pl npl => ⟨by show 0 ≤ sizeLine; decide, fun fl nfl => ⟨_, _, rfl, ?_⟩⟩⟩
    have x1 : Ex H (upd H pl (.lst [])) := Evl.Ex.new npl
    have x2 : Ex (upd H pl (.lst [])) (upd (upd H pl (.lst [])) fl (.lst [])) := Evl.Ex.new nfl
    have hpl := x2 _ _ (upd_same : (upd H pl (.lst [])) pl = _)
    have hfl : (upd (upd H pl (.lst [])) fl (.lst [])) fl = some (.lst []) := upd_same
    obtain ⟨fl1, fl2, fl3⟩ := (D.ex x1).has nfl
    have nflH : H fl = none := by
      cases hq : H fl with
      | none => rfl
      | some o => exact absurd (x1 _ _ hq) (by rw [nfl]; exact fun z => nomatch z)
    obtain ⟨pl1, pl2, pl3⟩ := D.has npl
    have plfl : pl ≠ fl := ne_of_none (upd_same : (upd H pl (.lst [])) pl = _) nfl
    have x12 := x1.trans x2
    show tSeq _ _ _ _ (upd (upd H pl (.lst [])) fl (.lst []))
    generalize upd (upd H pl (.lst [])) fl (.lst []) = H2 at x2 hpl hfl x12
    have at_row : ∀ {i c : Nat}, (rowS ls).cps[i]? = some c → c ∈ ls := fun {i c} h => by
      rw [← Array.getElem?_toList] at h
      exact List.mem_of_getElem? (show ls.toArray.toList[i]? = some c from h)
    have szr : (rowS ls).cps.size = ls.length := List.size_toArray ..
    refine ⟨_, rfl, _, rfl, ?_⟩
    refine for_wk (wk_str (z := rowS ls)) (fun i σ H' => Ex H2 H' ∧ ∃ (pl : Addr) (v5 : Option V) (ts : List Addr), σ = ([some (.ref d), some (.str (rowS ls)), some (.int 2), some (.ref pl), some (.ref fl), v5, none, none] : L2.St) ∧ H' pl = some (.lst (ts.map V.ref)) ∧ ts.length ≤ 4 * i ∧ (∀ t ∈ ts, ∃ p ∈ prs12, H' t = some (.tup [.str (chr p.1), .str (chr p.2)])) ∧ pl ≠ d ∧ pl ≠ ga ∧ pl ≠ fl)
      ⟨.refl _, pl, none, [], rfl, hpl, Nat.le_refl _, (fun t h => by cases h), pl1, pl2, plfl⟩ (fun _ _ _ _ _ => trivial) ?_ ?_
    · rintro i y σ H3 H3' hi ⟨x3, pl, v5, ts, rfl, h1, h2, h3, p1, p2, p3⟩ ⟨rfl, x, hx, rfl⟩
      rw [szr] at hi
      have hxL := hLK x (at_row hx)
      refine ⟨_, rfl, _, rfl, _, rfl, fun cl ncl => ?_⟩
      have xc : Ex H3' (upd H3' cl (.lst [])) := Evl.Ex.new ncl
      refine lc_wk (wk_str (z := rowS ls)) (fun j H' => Ex H3' H' ∧ ∃ us : List Addr, H' cl = some (.lst (us.map V.ref)) ∧ us.length ≤ j ∧ ∀ t ∈ us, ∃ p ∈ prs12, H' t = some (.tup [.str (chr p.1), .str (chr p.2)])) ⟨xc, [], upd_same, Nat.le_refl _, fun t h => by cases h⟩ (fun _ _ _ _ => trivial) ?_ ?_
      · rintro j y H4 H4' hj ⟨x4, us, u1, u2, u3⟩ ⟨rfl, y, hy, rfl⟩
        rw [szr] at hj
        have hyL := hLK y (at_row hy)
        refine ⟨rfl, ?_⟩
        refine ⟨_, rfl, _, rfl, rfl, _, rfl, ?_⟩
        by_cases hxy : x = y
        · have d0 : decide (V.str (chr x) = V.str (chr y)) = true := decide_eq_true (by rw [hxy])
          show (if (!decide (V.str (chr x) = V.str (chr y))) = true then _ else _)
          rw [d0]
          exact iteF ⟨x4, us, u1, Nat.le_succ_of_le u2, u3⟩
        · have d0 : decide (V.str (chr x) = V.str (chr y)) = false := decide_eq_false fun z => hxy (chr_inj (congrArg Sum.inr (V.str.inj z)))
          show (if (!decide (V.str (chr x) = V.str (chr y))) = true then _ else _)
          rw [d0]
          refine iteT ⟨_, rfl, _, rfl, by show 2 ≤ sizeLine; decide, fun p np => ?_⟩
          have xp : Ex H4' (upd H4' p (.tup [.str (chr x), .str (chr y)])) := Evl.Ex.new np
          have hp12 : (x, y) ∈ prs12 := by
            unfold prs12
            exact List.mem_flatMap.mpr ⟨x, hxL, List.mem_map.mpr ⟨y, List.mem_filter.mpr ⟨hyL, decide_eq_true hxy⟩, rfl⟩⟩
          refine ⟨_, xp _ _ u1, lt_line (by rw [List.length_map]; omega), Evl.Ex.mut (x4.trans xp) ncl, us ++ [p], ?_, by rw [List.length_append, List.length_singleton]; omega, fun t ht => ?_⟩
          · rw [upd_same, List.map_append]; rfl
          · have nd : ∀ {c : Addr} {vs : List V}, (upd H4' p (.tup [.str (chr x), .str (chr y)])) c = some (.tup vs) → (upd (upd H4' p (.tup [.str (chr x), .str (chr y)])) cl (.lst (us.map V.ref ++ [V.ref p]))) c = some (.tup vs) := fun {c vs} hc => by
              rw [upd_ne (ne_of hc (xp _ _ u1) (fun z => nomatch z))]
              exact hc
            rcases List.mem_append.mp ht with h | h
            · obtain ⟨q, q1, q2⟩ := u3 t h
              exact ⟨q, q1, nd (xp _ _ q2)⟩
            · rw [List.mem_singleton] at h
              exact ⟨(x, y), hp12, nd (by rw [h]; exact upd_same)⟩
      · rintro H4 ⟨x4, us, u1, u2, u3⟩
        rw [szr] at u2
        refine ⟨pl, cl, _, _, rfl, rfl, x4 _ _ h1, u1, Nat.le_of_lt (lt_line (by rw [List.length_map, List.length_map]; omega)), fun q nq => ?_⟩
        have xq : Ex H4 (upd H4 q (.lst (ts.map V.ref ++ us.map V.ref))) := Evl.Ex.new nq
        have x34 := x3.trans (x4.trans xq)
        obtain ⟨q1, q2, _⟩ := ((D.ex x12).ex (x3.trans x4)).has nq
        refine ⟨x34, q, _, ts ++ us, rfl, by rw [upd_same, List.map_append], by rw [List.length_append]; omega, fun t ht => ?_, q1, q2, (ne_of_none (x4 _ _ (x3 _ _ hfl)) nq).symm⟩
        rcases List.mem_append.mp ht with h | h
        · obtain ⟨p, p1', p2'⟩ := h3 t h
          exact ⟨p, p1', xq _ _ (x4 _ _ p2')⟩
        · obtain ⟨p, p1', p2'⟩ := u3 t h
          exact ⟨p, p1', xq _ _ p2'⟩
    · rintro σ H3 ⟨x3, pl, v5, ts, rfl, h1, h2, h3, p1, p2, p3⟩
      rw [szr] at h2
      have D3 := (D.ex x12).ex x3
      have kp3 : Kp d ga H H3 := Kp.of (x12.trans x3)
      refine ⟨_, rfl, _, rfl, _, _, rfl, rfl, d, ga, la, m, _, rfl, D3, by omega, by decide, by decide, fun z H4 kp4 D4 z0 z1 => ?_⟩
      have hpl4 := kp4 _ _ h1 p1 p2
      have hfl4 := kp4 _ _ (x3 _ _ hfl) fl1 fl2
      obtain ⟨⟨kvs, dg, gs, ls', tn, hd4, _, hg4, _⟩, _⟩ := id D3
      have ht4 : ∀ t ∈ ts, ∃ p ∈ prs12, H4 t = some (.tup [.str (chr p.1), .str (chr p.2)]) := fun t ht => by
        obtain ⟨p, q1, q2⟩ := h3 t ht
        exact ⟨p, q1, kp4 _ _ q2 (ne_of q2 hd4 (fun z => nomatch z)) (ne_of q2 hg4 (fun z => nomatch z))⟩
      refine ⟨_, rfl, by show 0 ≤ sizeLine; decide, fun e0 ne0 => ?_⟩
      have xe : Ex H4 (upd H4 e0 (.lst [])) := Evl.Ex.new ne0
      refine ⟨pl, e0, _, rfl, rfl, SqL.of (xe _ _ hpl4), SqL.of upd_same, .inr ⟨_, rfl, ?_⟩⟩
      have hpl5 := xe _ _ hpl4
      have hfl5 := xe _ _ hfl4
      have D5 := D4.ex xe
      have kp5 := (kp3.trans kp4).ex xe
      have ht5 : ∀ t ∈ ts, ∃ p ∈ prs12, (upd H4 e0 (.lst [])) t = some (.tup [.str (chr p.1), .str (chr p.2)]) := fun t ht => by
        obtain ⟨p, q1, q2⟩ := ht4 t ht
        exact ⟨p, q1, xe _ _ q2⟩
      generalize upd H4 e0 (.lst []) = H5 at xe hpl5 hfl5 D5 kp5 ht5 ⊢
      obtain ⟨j, rfl⟩ := Int.eq_ofNat_of_zero_le z0
      have hj : j ≤ 2 := by
        have : (j : Int) < 2 + 1 := z1
        omega
      obtain ⟨n, hn, hn2, hne⟩ : ∃ n : Nat, (j : Int) * (if (!(ts.map V.ref).isEmpty) = true then 1 else 0) = (n : Int) ∧ n ≤ 2 ∧ (0 < n → ts ≠ []) := by
        cases ts with
        | nil => exact ⟨0, by simp, by omega, fun h => absurd h (by decide)⟩
        | cons a b => exact ⟨j, by simp, hj, fun _ z => by cases z⟩
      refine ⟨_, _, rfl, rfl, .inl ⟨by omega, by omega⟩, ?_⟩
      show ∃ n' : Int, [V.int ((j : Int) * (if (!(ts.map V.ref).isEmpty) = true then 1 else 0))] = [.int n'] ∧ _
      rw [hn]
      refine ⟨_, rfl, (b62 (by omega)).1, (b62 (by omega)).2, ?_⟩
      refine for_rng (n := n) (fun i σ H' => Kp d ga H H' ∧ (∀ b o, H5 b = some o → b ≠ d → b ≠ ga → b ≠ fl → H' b = some o) ∧ Dr H' d ga la (m + 1 + i) ∧ ∃ (v6 : Option V) (us : List Addr) (fs : List (Nat × Nat)), σ = ([some (.ref d), some (.str (rowS ls)), some (.int 2), some (.ref pl), some (.ref fl), v5, v6, none] : L2.St) ∧ H' fl = some (.lst (us.map V.ref)) ∧ us.length = fs.length ∧ fs.length = i ∧ (∀ p ∈ fs, p ∈ prs12) ∧ ∀ (a : Nat) (t : Addr) (p : Nat × Nat), us[a]? = some t → fs[a]? = some p → H' t = some (.tup [.str (chr p.1), .str (chr p.2)]))
        ⟨kp5, fun b o h _ _ _ => h, by simpa using D5, none, [], [], rfl, hfl5, rfl, rfl, (fun p h => by cases h), fun a t p h => by cases h⟩ ?_ ?_
      · rintro i σ H6 hi ⟨kp6, k6, D6, v6, us, fs, rfl, g1, g2, g3, g4, g5⟩
        have hpl6 := k6 _ _ hpl5 p1 p2 p3
        refine ⟨_, rfl, .inl ⟨rfl, _, SqL.of g1⟩, _, rfl, _, rfl, d, ga, la, pl, m + 1 + i, _, rfl, D6, by omega, hpl6, p1, p2, ?_, by rw [List.length_map]; omega, fun x H7 hx kp7 D7 => ?_⟩
        · have := hne (by omega)
          cases ts with
          | nil => exact absurd rfl this
          | cons a b => exact fun z => by cases z
        obtain ⟨t, ht, rfl⟩ := List.mem_map.mp hx
        obtain ⟨p, q1, q2⟩ := ht5 t ht
        obtain ⟨⟨_, _, _, _, _, hd6, _, hg6, _⟩, _⟩ := id D6
        have q6 := k6 _ _ q2 (fun z => by rw [z] at q2; obtain ⟨⟨_, _, _, _, _, hd5, _⟩, _⟩ := id D5; rw [hd5] at q2; cases q2) (fun z => by rw [z] at q2; obtain ⟨⟨_, _, _, _, _, _, _, hg5, _⟩, _⟩ := id D5; rw [hg5] at q2; cases q2) (ne_of q2 hfl5 (fun z => nomatch z))
        have tk : ∀ {c : Addr} {vs : List V}, H6 c = some (.tup vs) → H7 c = some (.tup vs) := fun {c vs} hc => kp7 _ _ hc (ne_of hc hd6 (fun z => nomatch z)) (ne_of hc hg6 (fun z => nomatch z))
        have g1' := kp7 _ _ g1 fl1 fl2
        have nd : ∀ {c : Addr} {vs : List V} (zs : List V), H7 c = some (.tup vs) → (upd H7 fl (.lst zs)) c = some (.tup vs) := fun {c vs} zs hc => by
          rw [upd_ne (ne_of hc g1' (fun z => nomatch z))]
          exact hc
        refine ⟨fl, _, _, rfl, rfl, g1', lt_line (by rw [List.length_map]; omega), ?_, ?_, ?_, _, us ++ [t], fs ++ [p], rfl, ?_, by rw [List.length_append, List.length_append, g2]; rfl, by rw [List.length_append, g3]; rfl, ?_, ?_⟩
        · intro b o h e1 e2
          have e3 : b ≠ fl := fun z => by rw [z, nflH] at h; cases h
          rw [upd_ne e3]
          exact kp7 _ _ (kp6 _ _ h e1 e2) e1 e2
        · intro b o h e1 e2 e3
          rw [upd_ne e3]
          exact kp7 _ _ (k6 _ _ h e1 e2 e3) e1 e2
        · refine (D7.upd fl1 fl2 fl3).mv (by omega) fun b o h _ => h
        · rw [upd_same, List.map_append]; rfl
        · intro q hq
          rcases List.mem_append.mp hq with h | h
          · exact g4 q h
          · rw [List.mem_singleton] at h; rw [h]; exact q1
        · intro a t' p' a1 a2
          rcases Nat.lt_trichotomy a us.length with ha | ha | ha
          · rw [List.getElem?_append_left ha] at a1
            rw [List.getElem?_append_left (by omega)] at a2
            exact nd _ (tk (g5 a t' p' a1 a2))
          · rw [ha, List.getElem?_append_right (Nat.le_refl _), Nat.sub_self] at a1
            rw [ha, g2, List.getElem?_append_right (Nat.le_refl _), Nat.sub_self] at a2
            cases a1
            cases a2
            exact nd _ (tk q6)
          · rw [List.getElem?_eq_none (by rw [List.length_append, List.length_singleton]; omega)] at a1
            cases a1
      · rintro σ H6 ⟨kp6, k6, D6, v6, us, fs, rfl, g1, g2, g3, g4, g5⟩
        exact ⟨_, rfl, k _ fs H6 ⟨fl, us, rfl, .inl g1, g2, g5⟩ ⟨by omega, g4⟩ kp6 (D6.mv (by omega) fun b o h _ => h) ⟨fl, rfl, fl1, fl2⟩⟩
end
end K35

/-! The law. -/
namespace K35
open PySem PySem.Spec PyProof.Rows L2
structure RowOk (r : List Nat) (n : Nat) : Prop where
  l : r.length ≤ n
  c : ∀ c ∈ r, okc c
def spLeast (K : PySem.W.Frag) : Sp := fun vs H Q _ => ∃ (p q r : List Nat) (fv : V) (fs : List (Nat × Nat)), vs = [.str (rowS p), .str (rowS q), .str (rowS r), fv] ∧ FcAt K H fv fs ∧ OkF fs ∧ RowOk p 2 ∧ RowOk q 2 ∧ RowOk r 3 ∧ ∀ H', Ex H H' → Q (.bl true) H'
def spAlRt (K : PySem.W.Frag) : Sp := fun vs H Q _ => ∃ (p q : List Nat) (fv : V) (fs : List (Nat × Nat)), vs = [.str (rowS p), .str (rowS q), fv] ∧ FcAt K H fv fs ∧ OkF fs ∧ RowOk p 2 ∧ RowOk q 2 ∧ ∀ H', Ex H H' → Q (.bl true) H'
def spLaw (K : PySem.W.Frag) : Sp := fun vs H Q _ => ∃ (a : Addr) (ns : List Int), vs = [.ref a] ∧ SqL K H a (ns.map V.int) ∧ ns.length ≤ 63 ∧ ∀ H', Q (.bl true) H'
theorem pk_row {r : List Nat} {n : Nat} (h : RowOk r n) (hn : n ≤ 8) : POk (.row r) := ⟨(by show 1 ≤ 4; decide), ⟨Nat.le_trans h.l hn, h.c⟩, (by show r.length ≤ 10; have := h.l; omega)⟩
theorem pk_lat {p q : List Nat} {m n : Nat} (h : RowOk p m) (k : RowOk q n) (hm : m + n ≤ 8) : POk (.lat (.row p) (.row q)) := ⟨(by show 2 ≤ 4; decide), ⟨⟨by have := h.l; omega, h.c⟩, ⟨by have := k.l; omega, k.c⟩⟩, (by show (p ++ q).length ≤ 10; have := h.l; have := k.l; rw [List.length_append]; omega)⟩
theorem pk_son {p q : List Nat} {m n : Nat} (h : RowOk p m) (k : RowOk q n) (hm : m + n ≤ 8) : POk (.son (.row p) (.row q)) := ⟨(by show 2 ≤ 4; decide), ⟨⟨by have := h.l; omega, h.c⟩, ⟨by have := k.l; omega, k.c⟩⟩, (by show (p ++ q).length ≤ 10; have := h.l; have := k.l; rw [List.length_append]; omega)⟩
theorem bool_of {a b : Bool} {X : Prop} (h : a = true ↔ X) (k : b = true ↔ X) : a = b := by
  cases a <;> cases b
  · rfl
  · exact absurd (h.mpr (k.mp rfl)) (by decide)
  · exact absurd (k.mpr (h.mp rfl)) (by decide)
  · rfl
section
variable {P : Program} {w : World} {K : PySem.W.Frag} {mg : Str → Option Value} {base : Heap}
abbrev N__law_is_never : List Str := ["_law_one", "_law_two", "_law_facts_here"]
theorem sc__law_is_never : FnScope N__law_is_never ["_law_one", "_law_two", "_law_facts_here"] (defScope s__law_is_never) := ⟨rfl, rfl, rfl, by decide +kernel, rfl, by decide +kernel, by decide +kernel⟩
theorem c__law_is_never (T : Tx K mg) : C8.Cal P w K mg base 10 "_law_is_never" (spIsNev K) [] :=
  mkCal T fn__law_is_never rfl rfl rfl T.mg__law_is_never sc__law_is_never (fun _ _ _ _ _ _ us hl => match us, hl with | [_, _, _], _ => rfl) (fun vs H Q E h => by obtain ⟨v, u, fv, p, q, fs, rfl, _⟩ := h; rfl) fun f cdv A outer s0 H vs Q E hr h => by
    obtain ⟨v, u, fv, p, q, fs, rfl, c, k⟩ := h
    refine ⟨_, (pss_one (ps_ret (pe_cmpR op_eq (pe_ix (ix_tupK (K := K) rfl) (C8.pe_c (c_compare T) hr (by decide) (by rfl) (pa_cons (pv 0) (pa_cons (pv 1) (pa_cons (pv 2) pa_nil)))) pe_int (fun _ _ => rfl)) pe_str (nomark _)))), ?_⟩
    refine ⟨_, rfl, _, rfl, _, rfl, v, u, fv, p, q, fs, rfl, c, fun t H1 b ws x1 h1 h2 => ?_⟩
    refine ⟨t, _, _, _, rfl, rfl, SqT.of h1, atI_nat (j := 0) rfl, rfl, ?_⟩
    cases b with
    | true => exact k H1 true x1 h2
    | false => exact k H1 false x1 h2
abbrev N__law_least_right : List Str := ["_law_p", "_law_q", "_law_r", "_law_facts_here", "_law_late", "_law_soon", "_law_both"]
theorem sc__law_least_right : FnScope N__law_least_right ["_law_p", "_law_q", "_law_r", "_law_facts_here"] (defScope s__law_least_right) := ⟨rfl, rfl, rfl, by decide +kernel, rfl, by decide +kernel, by decide +kernel⟩
theorem c__law_least_right (T : Tx K mg) : C8.Cal P w K mg base 11 "_law_least_right" (spLeast K) [] :=
  mkCal T fn__law_least_right rfl rfl rfl T.mg__law_least_right sc__law_least_right (fun _ _ _ _ _ _ us hl => match us, hl with | [_, _, _, _], _ => rfl) (fun vs H Q E h => by obtain ⟨p, q, r, fv, fs, rfl, _⟩ := h; rfl) fun f cdv A outer s0 H vs Q E hr h => by
    obtain ⟨p, q, r, fv, fs, rfl, hF, ok, hp, hq, hrr, k⟩ := h
    refine ⟨_, (pss_cons (ps_par (i := 4) (j := 5) (by rfl) sc__law_least_right.nd rfl rfl (by decide) rfl rfl (pa_cons (pe_tup (pa_cons pe_str (pa_cons (pv 0) (pa_cons (pv 1) pa_nil)))) (pa_cons (pe_tup (pa_cons pe_str (pa_cons (pv 0) (pa_cons (pv 1) pa_nil)))) pa_nil)) (by rfl))
      (pss_cons (ps_if (PW.pt (pw_or (pt_not (pt_val (C8.pe_c (c__law_is_never T) hr (by decide) (by rfl) (pa_cons (pv 0) (pa_cons (pv 4) (pa_cons (pv 3) pa_nil)))))) (pw_or1 (pt_not (pt_val (C8.pe_c (c__law_is_never T) hr (by decide) (by rfl) (pa_cons (pv 5) (pa_cons (pv 0) (pa_cons (pv 3) pa_nil))))))))) (pss_one (ps_ret pe_bl)) pss_nil)
      (pss_cons (ps_set (i := 6) sc__law_least_right.nd rfl (Or.inl rfl) (pe_and (C8.pe_c (c__law_is_never T) hr (by decide) (by rfl) (pa_cons (pv 0) (pa_cons (pv 2) (pa_cons (pv 3) pa_nil)))) (pe_one (C8.pe_c (c__law_is_never T) hr (by decide) (by rfl) (pa_cons (pv 1) (pa_cons (pv 2) (pa_cons (pv 3) pa_nil)))))))
      (pss_cons (ps_if (pt_cmpR op_ne (C8.pe_c (c__law_is_never T) hr (by decide) (by rfl) (pa_cons (pv 4) (pa_cons (pv 2) (pa_cons (pv 3) pa_nil)))) (pv 6) (nomark _)) (pss_one (ps_ret pe_bl)) pss_nil)
      (pss_cons (ps_set (i := 6) sc__law_least_right.nd rfl (Or.inl rfl) (pe_and (C8.pe_c (c__law_is_never T) hr (by decide) (by rfl) (pa_cons (pv 2) (pa_cons (pv 0) (pa_cons (pv 3) pa_nil)))) (pe_one (C8.pe_c (c__law_is_never T) hr (by decide) (by rfl) (pa_cons (pv 2) (pa_cons (pv 1) (pa_cons (pv 3) pa_nil)))))))
      (pss_one (ps_ret (pe_cmpR op_eq (C8.pe_c (c__law_is_never T) hr (by decide) (by rfl) (pa_cons (pv 2) (pa_cons (pv 5) (pa_cons (pv 3) pa_nil)))) (pv 6) (nomark _))))))))), ?_⟩
    have pl := hp.l
    have ql := hq.l
    have rl := hrr.l
    have kp := pk_row hp (by decide)
    have kq := pk_row hq (by decide)
    have kr := pk_row hrr (by decide)
    have kl := pk_lat hp hq (by decide)
    have ks := pk_son hp hq (by decide)
    refine ⟨_, rfl, _, rfl, by show 3 ≤ sizeLine; decide, fun t1 n1 => ?_⟩
    have x1 : Ex H (upd H t1 (.tup [.str "later", .str (rowS p), .str (rowS q)])) := Evl.Ex.new n1
    refine ⟨_, rfl, _, rfl, by show 3 ≤ sizeLine; decide, fun t2 n2 => ⟨_, _, rfl, ?_⟩⟩
    have x2 : Ex (upd H t1 (.tup [.str "later", .str (rowS p), .str (rowS q)])) (upd (upd H t1 (.tup [.str "later", .str (rowS p), .str (rowS q)])) t2 (.tup [.str "sooner", .str (rowS p), .str (rowS q)])) := Evl.Ex.new n2
    have a1 : PlAt (upd (upd H t1 (.tup [.str "later", .str (rowS p), .str (rowS q)])) t2 (.tup [.str "sooner", .str (rowS p), .str (rowS q)])) (.ref t1) (.lat (.row p) (.row q)) := ⟨t1, _, _, rfl, x2 _ _ upd_same, rfl, rfl⟩
    have a2 : PlAt (upd (upd H t1 (.tup [.str "later", .str (rowS p), .str (rowS q)])) t2 (.tup [.str "sooner", .str (rowS p), .str (rowS q)])) (.ref t2) (.son (.row p) (.row q)) := ⟨t2, _, _, rfl, upd_same, rfl, rfl⟩
    have x12 := x1.trans x2
    have hF2 := hF.ex x12
    show tSeq _ _ _ _ (upd (upd H t1 (.tup [.str "later", .str (rowS p), .str (rowS q)])) t2 (.tup [.str "sooner", .str (rowS p), .str (rowS q)]))
    generalize upd (upd H t1 (.tup [.str "later", .str (rowS p), .str (rowS q)])) t2 (.tup [.str "sooner", .str (rowS p), .str (rowS q)]) = H2 at x2 a1 a2 x12 hF2
    have cm : ∀ {H' : Hp} {x y : V} {X Y : Pl}, Ex H2 H' → PlAt H' x X → PlAt H' y Y → POk X → POk Y → (stp X).length + (stp Y).length ≤ 12 → 1 + sz X + sz Y ≤ 9 → CmpOk K H' x y fv X Y fs := fun x h1 h2 h3 h4 h5 h6 => ⟨h1, h2, hF2.ex x, h3, h4, ok, h5, by omega, .inl h6⟩
    have rp : ∀ {H' : Hp} {r : List Nat}, PlAt H' (.str (rowS r)) (.row r) := rfl
    have andv : ∀ (σ : L2.St) (H' : Hp) (i j i2 j2 : Nat) (A B C D : Pl) (a b c d : V) (Kf : VK), σ[i]? = some (some a) → σ[j]? = some (some b) → σ[i2]? = some (some c) → σ[j2]? = some (some d) → σ[3]? = some (some fv) → CmpOk K H' a b fv A B fs → CmpOk K H' c d fv C D fs →
        (∀ H'' bb, Ex H' H'' → (bb = true ↔ Nev (slowOf fs) A B ∧ Nev (slowOf fs) C D) → Kf (.bl bb) H'') →
        (tAndV (tCall (spIsNev K) [] C8.E0 (tCons (tVar i) (tCons (tVar j) (tCons (tVar 3) tNil)))) (tCall (spIsNev K) [] C8.E0 (tCons (tVar i2) (tCons (tVar j2) (tCons (tVar 3) tNil))))) σ H' Kf := by
      intro σ H' i j i2 j2 A B C D a b c d Kf e1 e2 e3 e4 e5 c1 c2 hK
      refine ⟨_, e1, _, e2, _, e5, a, b, fv, A, B, fs, rfl, c1, fun H3 b1 y3 hb1 => ⟨b1, rfl, ?_⟩⟩
      cases b1 with
      | false => exact iteF (hK H3 false y3 ⟨fun z => Bool.noConfusion z, fun z => hb1.mpr z.1⟩)
      | true => exact iteT ⟨_, e3, _, e4, _, e5, c, d, fv, C, D, fs, rfl, c2.ex y3, fun H4 b2 y4 hb2 => hK H4 b2 (y3.trans y4) ⟨fun z => ⟨hb1.mp rfl, hb2.mp z⟩, fun z => hb2.mpr z.2⟩⟩
    refine ⟨_, rfl, _, rfl, _, rfl, _, _, fv, .row p, .lat (.row p) (.row q), fs, rfl, cm (.refl _) rp a1 kp kl (by simp only [stp, List.length_append]; omega) (by simp only [sz]; omega), fun H3 b3 x3 hb3 => ⟨b3, rfl, ?_⟩⟩
    obtain rfl : b3 = true := hb3.mpr nev_lat_l
    refine iteF ?_
    refine ⟨_, rfl, _, rfl, _, rfl, _, _, fv, .son (.row p) (.row q), .row p, fs, rfl, cm x3 (a2.ex x3) rp ks kp (by simp only [stp, List.length_append]; omega) (by simp only [sz]; omega), fun H4 b4 x4 hb4 => ⟨b4, rfl, ?_⟩⟩
    obtain rfl : b4 = true := hb4.mpr nev_son_l
    refine iteF ?_
    have x24 := x3.trans x4
    refine andv _ H4 0 2 1 2 (.row p) (.row r) (.row q) (.row r) _ _ _ _ _ rfl rfl rfl rfl rfl (cm x24 rp rp kp kr (by simp only [stp]; omega) (by simp only [sz]; omega)) (cm x24 rp rp kq kr (by simp only [stp]; omega) (by simp only [sz]; omega)) fun H5 bb x5 hbb => ?_
    have x25 := x24.trans x5
    refine ⟨_, rfl, _, rfl, _, rfl, _, _, fv, .lat (.row p) (.row q), .row r, fs, rfl, cm x25 (a1.ex x25) rp kl kr (by simp only [stp, List.length_append]; omega) (by simp only [sz]; omega), fun H6 b6 x6 hb6 => ?_⟩
    obtain rfl : b6 = bb := bool_of (hb6.trans nev_lat_iff) hbb
    refine ⟨_, rfl, rfl, _, rfl, ?_⟩
    show (if (!decide (V.bl b6 = V.bl b6)) = true then _ else _)
    rw [decide_eq_true rfl]
    refine iteF ?_
    have x26 := x25.trans x6
    refine andv _ H6 2 0 2 1 (.row r) (.row p) (.row r) (.row q) _ _ _ _ _ rfl rfl rfl rfl rfl (cm x26 rp rp kr kp (by simp only [stp]; omega) (by simp only [sz]; omega)) (cm x26 rp rp kr kq (by simp only [stp]; omega) (by simp only [sz]; omega)) fun H7 bb x7 hbb => ?_
    have x27 := x26.trans x7
    refine ⟨_, rfl, _, rfl, _, rfl, _, _, fv, .row r, .son (.row p) (.row q), fs, rfl, cm x27 rp (a2.ex x27) kr ks (by simp only [stp, List.length_append]; omega) (by simp only [sz]; omega), fun H8 b8 x8 hb8 => ?_⟩
    obtain rfl : b8 = bb := bool_of (hb8.trans nev_son_iff) hbb
    refine ⟨_, rfl, rfl, ?_⟩
    show Q (.bl (decide (V.bl b8 = V.bl b8))) H8
    rw [decide_eq_true rfl]
    exact k H8 (x12.trans (x27.trans x8))
abbrev N__law_alike_right : List Str := ["_law_p", "_law_q", "_law_facts_here", "_law_late", "_law_soon", "_law_ordered"]
theorem sc__law_alike_right : FnScope N__law_alike_right ["_law_p", "_law_q", "_law_facts_here"] (defScope s__law_alike_right) := ⟨rfl, rfl, rfl, by decide +kernel, rfl, by decide +kernel, by decide +kernel⟩
theorem c__law_alike_right (T : Tx K mg) : C8.Cal P w K mg base 11 "_law_alike_right" (spAlRt K) [] :=
  mkCal T fn__law_alike_right rfl rfl rfl T.mg__law_alike_right sc__law_alike_right (fun _ _ _ _ _ _ us hl => match us, hl with | [_, _, _], _ => rfl) (fun vs H Q E h => by obtain ⟨p, q, fv, fs, rfl, _⟩ := h; rfl) fun f cdv A outer s0 H vs Q E hr h => by
    obtain ⟨p, q, fv, fs, rfl, hF, ok, hp, hq, k⟩ := h
    refine ⟨_, (pss_cons (ps_par3 (i := 3) (j := 4) (l := 5) (by rfl) sc__law_alike_right.nd rfl rfl rfl (by decide) (by decide) (by decide) rfl rfl rfl (pa_cons (pe_tup (pa_cons pe_str (pa_cons (pv 0) (pa_cons (pv 1) pa_nil)))) (pa_cons (pe_tup (pa_cons pe_str (pa_cons (pv 0) (pa_cons (pv 1) pa_nil)))) (pa_cons (C8.pe_c (c__law_is_never T) hr (by decide) (by rfl) (pa_cons (pv 0) (pa_cons (pv 1) (pa_cons (pv 2) pa_nil)))) pa_nil))) (by rfl))
      (pss_cons (ps_if (PW.pt (pw_or (pt_not (pt_val (C8.pe_c (c_alike T) hr (by decide) (by rfl) (pa_cons (pv 3) (pa_cons (pe_tup (pa_cons pe_str (pa_cons (pv 1) (pa_cons (pv 0) pa_nil)))) (pa_cons (pv 2) pa_nil)))))) (pw_or1 (pt_not (pt_val (C8.pe_c (c_alike2 T) hr (by decide) (by rfl) (pa_cons (pv 4) (pa_cons (pe_tup (pa_cons pe_str (pa_cons (pv 1) (pa_cons (pv 0) pa_nil)))) pa_nil)))))))) (pss_one (ps_ret pe_bl)) pss_nil)
      (pss_cons (ps_if (PW.pt (pw_or (pt_not (pt_val (C8.pe_c (c_alike T) hr (by decide) (by rfl) (pa_cons (pv 0) (pa_cons (pe_tup (pa_cons pe_str (pa_cons (pv 0) (pa_cons (pv 4) pa_nil)))) (pa_cons (pv 2) pa_nil)))))) (pw_or1 (pt_not (pt_val (C8.pe_c (c_alike T) hr (by decide) (by rfl) (pa_cons (pv 0) (pa_cons (pe_tup (pa_cons pe_str (pa_cons (pv 3) (pa_cons (pv 0) pa_nil)))) (pa_cons (pv 2) pa_nil))))))))) (pss_one (ps_ret pe_bl)) pss_nil)
      (pss_one (ps_ret (pe_and (pe_cmpR op_eq (C8.pe_c (c_alike T) hr (by decide) (by rfl) (pa_cons (pv 3) (pa_cons (pv 1) (pa_cons (pv 2) pa_nil)))) (pv 5) (nomark _)) (pe_one (pe_cmpR op_eq (C8.pe_c (c_alike T) hr (by decide) (by rfl) (pa_cons (pv 4) (pa_cons (pv 0) (pa_cons (pv 2) pa_nil)))) (pv 5) (nomark _))))))))), ?_⟩
    have pl := hp.l
    have ql := hq.l
    have kp := pk_row hp (by decide)
    have kq := pk_row hq (by decide)
    have kl := pk_lat hp hq (by decide)
    have ks := pk_son hp hq (by decide)
    have kl' := pk_lat hq hp (by decide)
    have ks' := pk_son hq hp (by decide)
    refine ⟨_, rfl, _, rfl, by show 3 ≤ sizeLine; decide, fun t1 n1 => ?_⟩
    have x1 : Ex H (upd H t1 (.tup [.str "later", .str (rowS p), .str (rowS q)])) := Evl.Ex.new n1
    refine ⟨_, rfl, _, rfl, by show 3 ≤ sizeLine; decide, fun t2 n2 => ?_⟩
    have x2 : Ex (upd H t1 (.tup [.str "later", .str (rowS p), .str (rowS q)])) (upd (upd H t1 (.tup [.str "later", .str (rowS p), .str (rowS q)])) t2 (.tup [.str "sooner", .str (rowS p), .str (rowS q)])) := Evl.Ex.new n2
    have a1 : PlAt (upd (upd H t1 (.tup [.str "later", .str (rowS p), .str (rowS q)])) t2 (.tup [.str "sooner", .str (rowS p), .str (rowS q)])) (.ref t1) (.lat (.row p) (.row q)) := ⟨t1, _, _, rfl, x2 _ _ upd_same, rfl, rfl⟩
    have a2 : PlAt (upd (upd H t1 (.tup [.str "later", .str (rowS p), .str (rowS q)])) t2 (.tup [.str "sooner", .str (rowS p), .str (rowS q)])) (.ref t2) (.son (.row p) (.row q)) := ⟨t2, _, _, rfl, upd_same, rfl, rfl⟩
    have x12 := x1.trans x2
    have hF2 := hF.ex x12
    generalize upd (upd H t1 (.tup [.str "later", .str (rowS p), .str (rowS q)])) t2 (.tup [.str "sooner", .str (rowS p), .str (rowS q)]) = H2 at x2 a1 a2 x12 hF2 ⊢
    have rp : ∀ {H' : Hp} {r : List Nat}, PlAt H' (.str (rowS r)) (.row r) := rfl
    refine ⟨_, rfl, _, rfl, _, rfl, _, _, fv, .row p, .row q, fs, rfl, ⟨rp, rp, hF2, kp, kq, ok, by simp only [stp]; omega, by simp only [sz]; omega, .inl (by simp only [sz]; omega)⟩, fun H3 bo x3 hbo => ⟨_, _, _, rfl, ?_⟩⟩
    -- later is the same both ways
    refine ⟨_, rfl, _, rfl, _, rfl, by show 3 ≤ sizeLine; decide, fun t3 n3 => ?_⟩
    have y3 : Ex H3 (upd H3 t3 (.tup [.str "later", .str (rowS q), .str (rowS p)])) := Evl.Ex.new n3
    have x4 := x3.trans y3
    have a3 : PlAt (upd H3 t3 (.tup [.str "later", .str (rowS q), .str (rowS p)])) (.ref t3) (.lat (.row q) (.row p)) := ⟨t3, _, _, rfl, upd_same, rfl, rfl⟩
    refine ⟨_, rfl, _, _, fv, .lat (.row p) (.row q), .lat (.row q) (.row p), fs, rfl, ⟨a1.ex x4, a3, hF2.ex x4, kl, kl', ok, by simp only [stp, List.length_append]; omega, by simp only [sz]; omega, .inr (tri_lat_comm (slow_refl _) _ _)⟩,
      ⟨a3, a1.ex x4, hF2.ex x4, kl', kl, ok, by simp only [stp, List.length_append]; omega, by simp only [sz]; omega, .inr (tri_lat_comm (slow_refl _) _ _)⟩, fun H5 b5 x5 hb5 => ⟨b5, rfl, ?_⟩⟩
    obtain rfl : b5 = true := hb5.mpr ⟨nev_lat_iff.mpr ⟨nev_lat_r, nev_lat_l⟩, nev_lat_iff.mpr ⟨nev_lat_r, nev_lat_l⟩⟩
    refine iteF ?_
    have z5 := x4.trans x5
    -- sooner is the same both ways, without facts
    refine ⟨_, rfl, _, rfl, _, rfl, by show 3 ≤ sizeLine; decide, fun t4 n4 => ?_⟩
    have y6 : Ex H5 (upd H5 t4 (.tup [.str "sooner", .str (rowS q), .str (rowS p)])) := Evl.Ex.new n4
    have z6 := z5.trans y6
    have a4 : PlAt (upd H5 t4 (.tup [.str "sooner", .str (rowS q), .str (rowS p)])) (.ref t4) (.son (.row q) (.row p)) := ⟨t4, _, _, rfl, upd_same, rfl, rfl⟩
    have hF0 : FcAt K (upd H5 t4 (.tup [.str "sooner", .str (rowS q), .str (rowS p)])) (.ref (He.dflAt ("alike", none) 0 K)) [] := ⟨_, [], rfl, .inr ⟨rfl, T.dfl_alike _⟩, rfl, fun i t x h => by cases h⟩
    have ok0 : OkF [] := ⟨by decide, fun p h => by cases h⟩
    refine ⟨_, _, _, .son (.row p) (.row q), .son (.row q) (.row p), [], rfl, ⟨a2.ex z6, a4, hF0, ks, ks', ok0, by simp only [stp, List.length_append]; omega, by simp only [sz]; omega, .inr (tri_son_comm (slow_refl _) _ _)⟩,
      ⟨a4, a2.ex z6, hF0, ks', ks, ok0, by simp only [stp, List.length_append]; omega, by simp only [sz]; omega, .inr (tri_son_comm (slow_refl _) _ _)⟩, fun H7 b7 x7 hb7 => ⟨b7, rfl, ?_⟩⟩
    obtain rfl : b7 = true := hb7.mpr ⟨nev_son_iff.mpr ⟨nev_son_r, nev_son_l⟩, nev_son_iff.mpr ⟨nev_son_r, nev_son_l⟩⟩
    refine iteF ?_
    have z7 := z6.trans x7
    -- the two laws of absorbing
    refine ⟨_, rfl, _, rfl, _, rfl, by show 3 ≤ sizeLine; decide, fun t5 n5 => ?_⟩
    have y8 : Ex H7 (upd H7 t5 (.tup [.str "later", .str (rowS p), .ref t2])) := Evl.Ex.new n5
    have z8 := z7.trans y8
    have a5 : PlAt (upd H7 t5 (.tup [.str "later", .str (rowS p), .ref t2])) (.ref t5) (.lat (.row p) (.son (.row p) (.row q))) := ⟨t5, _, _, rfl, upd_same, rfl, a2.ex z8⟩
    have k5 : POk (.lat (.row p) (.son (.row p) (.row q))) := ⟨(by show 3 ≤ 4; decide), ⟨kp.r, ks.r⟩, by simp only [stp, List.length_append]; omega⟩
    refine ⟨_, rfl, _, _, fv, .row p, .lat (.row p) (.son (.row p) (.row q)), fs, rfl, ⟨rp, a5, hF2.ex z8, kp, k5, ok, by simp only [stp, List.length_append]; omega, by simp only [sz]; omega, .inr (tri_abs1 (slow_refl _) _ _)⟩,
      ⟨a5, rp, hF2.ex z8, k5, kp, ok, by simp only [stp, List.length_append]; omega, by simp only [sz]; omega, .inr (tri_abs2 (slow_refl _) _ _)⟩, fun H9 b9 x9 hb9 => ⟨b9, rfl, ?_⟩⟩
    obtain rfl : b9 = true := hb9.mpr ⟨nev_lat_l, nev_lat_iff.mpr ⟨nev_refl, nev_son_l⟩⟩
    refine iteF ?_
    have z9 := z8.trans x9
    refine ⟨_, rfl, _, rfl, _, rfl, by show 3 ≤ sizeLine; decide, fun t6 n6 => ?_⟩
    have y10 : Ex H9 (upd H9 t6 (.tup [.str "sooner", .ref t1, .str (rowS p)])) := Evl.Ex.new n6
    have z10 := z9.trans y10
    have a6 : PlAt (upd H9 t6 (.tup [.str "sooner", .ref t1, .str (rowS p)])) (.ref t6) (.son (.lat (.row p) (.row q)) (.row p)) := ⟨t6, _, _, rfl, upd_same, a1.ex z10, rfl⟩
    have k6 : POk (.son (.lat (.row p) (.row q)) (.row p)) := ⟨(by show 3 ≤ 4; decide), ⟨kl.r, kp.r⟩, by simp only [stp, List.length_append]; omega⟩
    refine ⟨_, rfl, _, _, fv, .row p, .son (.lat (.row p) (.row q)) (.row p), fs, rfl, ⟨rp, a6, hF2.ex z10, kp, k6, ok, by simp only [stp, List.length_append]; omega, by simp only [sz]; omega, .inr (tri_abs3 (slow_refl _) _ _)⟩,
      ⟨a6, rp, hF2.ex z10, k6, kp, ok, by simp only [stp, List.length_append]; omega, by simp only [sz]; omega, .inr (tri_abs4 (slow_refl _) _ _)⟩, fun H11 b11 x11 hb11 => ⟨b11, rfl, ?_⟩⟩
    obtain rfl : b11 = true := hb11.mpr ⟨nev_son_iff.mpr ⟨nev_lat_l, nev_refl⟩, nev_son_r⟩
    refine iteF ?_
    have z11 := z10.trans x11
    -- ordered: later is the second, sooner is the first
    refine ⟨_, rfl, _, rfl, _, rfl, _, _, fv, .lat (.row p) (.row q), .row q, fs, rfl, ⟨a1.ex z11, rp, hF2.ex z11, kl, kq, ok, by simp only [stp, List.length_append]; omega, by simp only [sz]; omega, .inl (by simp only [sz]; omega)⟩,
      ⟨rp, a1.ex z11, hF2.ex z11, kq, kl, ok, by simp only [stp, List.length_append]; omega, by simp only [sz]; omega, .inl (by simp only [sz]; omega)⟩, fun H12 b12 x12' hb12 => ?_⟩
    have z12 := z11.trans x12'
    obtain rfl : b12 = bo := bool_of (hb12.trans ⟨fun z => (nev_lat_iff.mp z.1).1, fun z => ⟨nev_lat_iff.mpr ⟨z, nev_refl⟩, nev_lat_r⟩⟩) hbo
    refine ⟨_, rfl, rfl, _, rfl, ?_⟩
    show (if decide (V.bl b12 = V.bl b12) = true then _ else _)
    rw [decide_eq_true rfl]
    refine iteT ?_
    refine ⟨_, rfl, _, rfl, _, rfl, _, _, fv, .son (.row p) (.row q), .row p, fs, rfl, ⟨a2.ex z12, rp, hF2.ex z12, ks, kp, ok, by simp only [stp, List.length_append]; omega, by simp only [sz]; omega, .inl (by simp only [sz]; omega)⟩,
      ⟨rp, a2.ex z12, hF2.ex z12, kp, ks, ok, by simp only [stp, List.length_append]; omega, by simp only [sz]; omega, .inl (by simp only [sz]; omega)⟩, fun H13 b13 x13 hb13 => ?_⟩
    obtain rfl : b13 = b12 := bool_of (hb13.trans ⟨fun z => (nev_son_iff.mp z.2).2, fun z => ⟨nev_son_l, nev_son_iff.mpr ⟨nev_refl, z⟩⟩⟩) hbo
    refine ⟨_, rfl, rfl, ?_⟩
    show Q (.bl (decide (V.bl b13 = V.bl b13))) H13
    rw [decide_eq_true rfl]
    exact k H13 (x12.trans (z12.trans x13))
end
end K35

/-! The law itself. -/
namespace K35
open PySem PySem.Spec PyProof.Rows L2
theorem FcAt.kp {K : PySem.W.Frag} {H H' : Hp} {d ga la l : Addr} {m : Int} {fs : List (Nat × Nat)} (D : Dr H d ga la m) (k : Kp d ga H H') (l1 : l ≠ d) (l2 : l ≠ ga) (h : FcAt K H (.ref l) fs) : FcAt K H' (.ref l) fs := by
  obtain ⟨a, ts, e, h1, h2, h3⟩ := h
  cases e
  obtain ⟨⟨kvs, dg, gs, ls, tn, hd, _, hg, _⟩, _⟩ := D
  refine ⟨l, ts, rfl, ?_, h2, fun i t p g1 g2 => k _ _ (h3 i t p g1 g2) (ne_of (h3 i t p g1 g2) hd (fun z => nomatch z)) (ne_of (h3 i t p g1 g2) hg (fun z => nomatch z))⟩
  rcases h1 with h1 | ⟨e1, h1⟩
  · exact .inl (k _ _ h1 l1 l2)
  · refine .inr ⟨e1, ?_⟩
    rcases h1 with (h | ⟨o, h⟩) | h
    · exact .inl (.inl (k _ _ h l1 l2))
    · exact .inl (.inr ⟨o, k _ _ h l1 l2⟩)
    · exact .inr h
theorem cut2 (r : List Nat) : ∃ r', cutS (rowS r) none (some 2) = rowS r' ∧ r'.length ≤ 2 ∧ ∀ c ∈ r', c ∈ r := by
  refine ⟨_, rfl, ?_, fun c hc => List.mem_of_mem_drop (List.mem_of_mem_take hc)⟩
  rw [List.length_take]
  refine Nat.le_trans (Nat.min_le_left _ _) ?_
  show (if (2 : Int) < 0 then ((2 : Int) + ((rowS r).length : Int)).toNat else min (2 : Int).toNat (rowS r).length) - _ ≤ 2
  rw [if_neg (by decide)]
  exact Nat.le_trans (Nat.sub_le _ _) (Nat.min_le_left _ _)
theorem evr_app {slow : Nat → Nat → Bool} (M : Md slow) (c : Nat) : ∀ (p : List Nat) (t : Int), evr M (p ++ [c]) t = stM M c (evr M p t)
  | [], t => rfl
  | a :: p, t => evr_app M c p (stM M a t)
theorem stM_max {slow : Nat → Nat → Bool} (M : Md slow) (c : Nat) (a b : Int) : stM M c (max a b) = max (stM M c a) (stM M c b) := by
  rcases Int.le_total a b with h | h
  · rw [Int.max_eq_right h, Int.max_eq_right (stM_mono M c h)]
  · rw [Int.max_eq_left h, Int.max_eq_left (stM_mono M c h)]
theorem stM_min {slow : Nat → Nat → Bool} (M : Md slow) (c : Nat) (a b : Int) : stM M c (min a b) = min (stM M c a) (stM M c b) := by
  rcases Int.le_total a b with h | h
  · rw [Int.min_eq_left h, Int.min_eq_left (stM_mono M c h)]
  · rw [Int.min_eq_right h, Int.min_eq_right (stM_mono M c h)]
theorem suf_lat {slow : Nat → Nat → Bool} (M : Md slow) (c : Nat) (p q : List Nat) (t : Int) : ev M (.thn (.lat (.row p) (.row q)) (.row [c])) t = ev M (.lat (.row (p ++ [c])) (.row (q ++ [c]))) t := by
  show stM M c (max (evr M p t) (evr M q t)) = max (evr M (p ++ [c]) t) (evr M (q ++ [c]) t)
  rw [evr_app, evr_app, stM_max]
theorem suf_son {slow : Nat → Nat → Bool} (M : Md slow) (c : Nat) (p q : List Nat) (t : Int) : ev M (.thn (.son (.row p) (.row q)) (.row [c])) t = ev M (.son (.row (p ++ [c])) (.row (q ++ [c]))) t := by
  show stM M c (min (evr M p t) (evr M q t)) = min (evr M (p ++ [c]) t) (evr M (q ++ [c]) t)
  rw [evr_app, evr_app, stM_min]
section
variable {P : Program} {w : World} {K : PySem.W.Frag} {mg : Str → Option Value} {base : Heap}
abbrev N_law : List Str := ["_law_script", "_law_draw", "_law_turn", "_law_letters", "_law_p", "_law_q", "_law_r", "_law_facts_here", "_law_ordered", "_law_step", "_law_word", "_law_lap"]
theorem sc_law : FnScope N_law ["_law_script"] (defScope s_law) := ⟨rfl, rfl, rfl, by decide +kernel, rfl, by decide +kernel, by decide +kernel⟩
theorem b_law (T : Tx K mg) : Body P w K mg base d_law N_law 11 (spLaw K) := fun f cdv A outer s0 H vs Q E hr h => by
    obtain ⟨a, ns, rfl, hS, hn, k⟩ := h
    refine ⟨_, (pss_cons (ps_set (i := 1) sc_law.nd rfl (Or.inr rfl) (C8.pe_c (c__law_begun T) hr (by decide) (by rfl) (pa_cons (pv 0) pa_nil)))
      (pss_cons (ps_for PassesOwn.never rfl (pi_range1 rfl T.f_range (pa_cons (pe_op op_add pe_int (pe_callB (call_min2 rfl) (by rfl) T.f_min (by decide +kernel) (pa_cons (pe_callB call_len_seq (by rfl) T.f_len (by decide +kernel) (pa_cons (pv 0) pa_nil)) (pa_cons pe_int pa_nil)))) pa_nil)) (pg_name (i := 2) sc_law.nd rfl (Or.inl rfl)) (pss_cons (ps_set (i := 3) sc_law.nd rfl (Or.inr rfl) (C8.pe_c (c__law_some T) hr (by decide) (by rfl) (pa_cons (pv 1) (pa_cons pe_int pa_nil))))
        (pss_cons (ps_asg (pe_lc (own := [("_law_lap", 11)]) (g := gName 11) rfl sc_law.nd (pi_range1 rfl T.f_range (pa_cons pe_int pa_nil)) (blkOk_by (own := [("_law_lap", 11)]) (N := N_law) (sc := defScope s_law) (by decide +kernel)) (fun _ _ _ _ _ => (pg_name (i := 11) sc_law.nd rfl (Or.inl rfl))) (fun _ _ _ _ _ => pts_nil) (fun _ _ _ _ _ => (C8.pe_c (c__law_row T) hr (by decide) (by rfl) (pa_cons (pv 1) (pa_cons (pv 3) (pa_cons pe_int pa_nil)))))) (pg_unl rfl (pgs_cons (pg_name (i := 4) sc_law.nd rfl (Or.inl rfl)) (pgs_cons (pg_name (i := 5) sc_law.nd rfl (Or.inl rfl)) (pgs_cons (pg_name (i := 6) sc_law.nd rfl (Or.inl rfl)) pgs_nil)))))
        (pss_cons (ps_if (pt_cmpR op_eq (C8.pe_c (c__law_next T) hr (by decide) (by rfl) (pa_cons (pv 1) (pa_cons pe_int pa_nil))) pe_int (nomark _)) (pss_one (ps_par (i := 5) (j := 6) (by rfl) sc_law.nd rfl rfl (by decide) rfl rfl (pa_cons (pe_slice sl_str (C8.pe_c (c__law_grown T) hr (by decide) (by rfl) (pa_cons (pv 1) (pa_cons (pv 3) (pa_cons (pv 4) pa_nil)))) po_none (po_some pe_int)) (pa_cons (C8.pe_c (c__law_row T) hr (by decide) (by rfl) (pa_cons (pv 1) (pa_cons (pv 3) (pa_cons pe_int pa_nil)))) pa_nil)) (by rfl))) pss_nil)
        (pss_cons (ps_set (i := 7) sc_law.nd rfl (Or.inl rfl) (C8.pe_c (c__law_facts T) hr (by decide) (by rfl) (pa_cons (pv 1) (pa_cons (pv 3) (pa_cons pe_int pa_nil)))))
        (pss_cons (ps_if (PW.pt (pw_or (pt_not (pt_val (C8.pe_c (c__law_least_right T) hr (by decide) (by rfl) (pa_cons (pv 4) (pa_cons (pv 5) (pa_cons (pv 6) (pa_cons (pv 7) pa_nil))))))) (pw_or1 (pt_not (pt_val (C8.pe_c (c__law_alike_right T) hr (by decide) (by rfl) (pa_cons (pv 4) (pa_cons (pv 5) (pa_cons (pv 7) pa_nil))))))))) (pss_one (ps_ret pe_bl)) pss_nil)
        (pss_cons (ps_set (i := 8) sc_law.nd rfl (Or.inl rfl) (pe_and (C8.pe_c (c__law_is_never T) hr (by decide) (by rfl) (pa_cons (pv 4) (pa_cons (pv 5) (pa_cons (pv 7) pa_nil)))) (pe_one (C8.pe_c (c__law_is_never T) hr (by decide) (by rfl) (pa_cons (pv 5) (pa_cons (pv 6) (pa_cons (pv 7) pa_nil)))))))
        (pss_cons (ps_if (PW.pt (pw_and (pt_val (pv 8)) (pw_and1 (pt_not (pt_val (C8.pe_c (c__law_is_never T) hr (by decide) (by rfl) (pa_cons (pv 4) (pa_cons (pv 6) (pa_cons (pv 7) pa_nil))))))))) (pss_one (ps_ret pe_bl)) pss_nil)
        (pss_cons (ps_par (i := 9) (j := 10) (by rfl) sc_law.nd rfl rfl (by decide) rfl rfl (pa_cons (C8.pe_c (c__law_pickS T) hr (by decide) (by rfl) (pa_cons (pv 1) (pa_cons (pe_op op_add_str (pv 3) (pe_upper (pv 3))) pa_nil))) (pa_cons (C8.pe_c (c__law_pickL T) hr (by decide) (by rfl) (pa_cons (pv 1) (pa_cons (pe_lst (pa_cons pe_str (pa_cons pe_str pa_nil))) pa_nil))) pa_nil)) (by rfl))
        (pss_cons (ps_if (pt_not (pt_val (C8.pe_c (c_alike T) hr (by decide) (by rfl) (pa_cons (pe_tup (pa_cons pe_str (pa_cons (pv 9) (pa_cons (pe_tup (pa_cons (pv 10) (pa_cons (pv 4) (pa_cons (pv 5) pa_nil)))) pa_nil)))) (pa_cons (pe_tup (pa_cons (pv 10) (pa_cons (pe_op op_add_str (pv 9) (pv 4)) (pa_cons (pe_op op_add_str (pv 9) (pv 5)) pa_nil)))) (pa_cons (pv 7) pa_nil)))))) (pss_one (ps_ret pe_bl)) pss_nil)
        (pss_one (ps_if (pt_not (pt_val (C8.pe_c (c_alike T) hr (by decide) (by rfl) (pa_cons (pe_tup (pa_cons pe_str (pa_cons (pe_tup (pa_cons (pv 10) (pa_cons (pv 4) (pa_cons (pv 5) pa_nil)))) (pa_cons (pv 9) pa_nil)))) (pa_cons (pe_tup (pa_cons (pv 10) (pa_cons (pe_op op_add_str (pv 4) (pv 9)) (pa_cons (pe_op op_add_str (pv 5) (pv 9)) pa_nil)))) (pa_cons (pv 7) pa_nil)))))) (pss_one (ps_ret pe_bl)) pss_nil))))))))))))
      (pss_one (ps_ret pe_bl)))), ?_⟩
    refine ⟨_, rfl, a, ns, rfl, hS, hn, fun d ga la H1 x1 nd nga D1 => ?_⟩
    refine ⟨_, rfl, a, _, rfl, .inl (Evl.ex_l x1 hS), _, _, rfl, _, _, rfl, rfl, ?_⟩
    obtain ⟨n, hn1, hn4⟩ : ∃ n : Nat, (1 : Int) + (if (3 : Int) < (((ns.map V.int).length : Nat) : Int) then 3 else (((ns.map V.int).length : Nat) : Int)) = (n : Int) ∧ n ≤ 4 := by
      split
      · exact ⟨4, rfl, Nat.le_refl _⟩
      · exact ⟨1 + (ns.map V.int).length, by omega, by omega⟩
    show ∃ n' : Int, [V.int ((1 : Int) + (if (3 : Int) < (((ns.map V.int).length : Nat) : Int) then 3 else (((ns.map V.int).length : Nat) : Int)))] = [.int n'] ∧ _
    rw [hn1]
    refine ⟨_, rfl, (b62 (by omega)).1, (b62 (by omega)).2, ?_⟩
    refine for_rng (n := n) (fun i σ H' => (∃ v2 v3 v4 v5 v6 v7 v8 v9 v10, σ = ([some (.ref a), some (.ref d), v2, v3, v4, v5, v6, v7, v8, v9, v10, none] : L2.St)) ∧ Dr H' d ga la (1000 * i)) ⟨⟨none, none, none, none, none, none, none, none, none, rfl⟩, by simpa using D1⟩ ?_ ?_
    case refine_2 =>
      rintro σ H2 ⟨_, _⟩
      exact k H2
    rintro i σ H2 hi ⟨⟨v2, v3, v4, v5, v6, v7, v8, v9, v10, rfl⟩, D2⟩
    generalize hm0 : (1000 : Int) * (i : Int) = m0 at D2
    have hm1 : m0 ≤ 4000 := by omega
    refine ⟨_, rfl, d, ga, la, m0, 3, rfl, D2, by omega, by decide, by decide, fun ls H3 hL kp3 D3 => ?_⟩
    refine ⟨3, rfl, by decide, by decide, fun cl ncl => ?_⟩
    obtain ⟨cl1, cl2, cl3⟩ := D3.has ncl
    refine lc_rng (n := 3) (fun j H' => Dr H' d ga la (m0 + 10 + 100 * j) ∧ ∃ rows : List (List Nat), H' cl = some (.lst (rows.map fun r => V.str (rowS r))) ∧ rows.length = j ∧ ∀ r ∈ rows, RowOk r 2) ⟨by simpa using D3.ex (Evl.Ex.new ncl), [], upd_same, rfl, fun r h => by cases h⟩ ?_ ?_
    · rintro j H4 hj ⟨D4, rows, g1, g2, g3⟩
      refine ⟨rfl, ?_⟩
      refine ⟨_, rfl, _, rfl, d, ga, la, _, ls, 3, rfl, D4, by omega, hL, by decide, by decide, fun r H5 r1 r2 kp5 D5 => ?_⟩
      refine ⟨_, kp5 _ _ g1 cl1 cl2, lt_line (by rw [List.length_map]; omega), (D5.upd cl1 cl2 cl3).mv (by omega) fun b o h _ => h, rows ++ [r], ?_, by rw [List.length_append, g2]; rfl, fun r' hr' => ?_⟩
      · rw [upd_same, List.map_append]; rfl
      · rcases List.mem_append.mp hr' with h | h
        · exact g3 r' h
        · rw [List.mem_singleton] at h
          rw [h]
          exact ⟨r1, r2⟩
    rintro H4 ⟨D4, rows, g1, g2, g3⟩
    obtain ⟨p, q, r, rfl⟩ : ∃ p q r, rows = [p, q, r] := by
      match rows, g2 with
      | [p, q, r], _ => exact ⟨p, q, r, rfl⟩
    have hp := g3 p (by simp)
    have hq := g3 q (by simp)
    have hrr := g3 r (by simp)
    refine ⟨cl, _, rfl, SqL.of g1, rfl, _, _, rfl, _, _, rfl, _, _, rfl, rfl, ?_⟩
    have key : ∀ Kf : L2.St → Hp → Prop, (∀ (q r : List Nat) H', RowOk q 2 → RowOk r 3 → Dr H' d ga la (m0 + 520) → Kf [some (.ref a), some (.ref d), some (iV i), some (.str (rowS ls)), some (.str (rowS p)), some (.str (rowS q)), some (.str (rowS r)), v7, v8, v9, v10, none] H') →
        (tIfS (tTest (tOp rEq (tCall spNext [] C8.E0 (tCons (tVar 1) (tCons (tC (V.int 2)) tNil))) (tC (V.int 0))))
                (tPar 5 6
                  (tCons
                    (tSl rSlS (tCall spGrown [] C8.E0 (tCons (tVar 1) (tCons (tVar 3) (tCons (tVar 4) tNil)))) tNoPart (tPart (tC (V.int 2))))
                    (tCons (tCall spRow [] C8.E0 (tCons (tVar 1) (tCons (tVar 3) (tCons (tC (V.int 4)) tNil)))) tNil)))
                tNext) { nx := Kf, rt := Q } [some (.ref a), some (.ref d), some (iV i), some (.str (rowS ls)), some (.str (rowS p)), some (.str (rowS q)), some (.str (rowS r)), v7, v8, v9, v10, none] H4 := by
      intro Kf hK
      refine ⟨_, rfl, d, ga, la, _, 2, rfl, D4, by omega, by decide, by decide, fun z H5 kp5 D5 _ _ => ⟨rfl, _, rfl, ?_⟩⟩
      refine ite2 (fun _ => ?_) fun _ => hK q r H5 hq ⟨Nat.le_succ_of_le hrr.l, hrr.c⟩ (D5.mv (by omega) fun b o h _ => h)
      refine ⟨_, rfl, _, rfl, _, rfl, d, ga, la, _, ls, p, rfl, D5, by omega, hL, by have := hp.l; omega, hp.c, fun r' H6 q1 q2 kp6 D6 => ?_⟩
      obtain ⟨r2, e2, l2, m2⟩ := cut2 r'
      refine ⟨2, rfl, _, rfl, by rw [rowS_len]; exact Nat.le_of_lt (lt_line (by omega)), ?_⟩
      rw [e2]
      refine ⟨_, rfl, _, rfl, d, ga, la, _, ls, 4, rfl, D6, by omega, hL, by decide, by decide, fun r3 H7 s1 s2 kp7 D7 => ⟨_, _, rfl, ?_⟩⟩
      exact hK r2 r3 H7 ⟨l2, fun c hc => q2 c (m2 c hc)⟩ ⟨s1, s2⟩ (D7.mv (by omega) fun b o h _ => h)
    refine key _ ?_
    clear key g3 hq hrr g1
    intro q r H5 hq hrr D5
    refine ⟨_, rfl, _, rfl, d, ga, la, _, ls, rfl, D5, by omega, hL, fun fv fs H6 hF ok kp6 D6 ⟨fl, efv, f1, f2⟩ => ?_⟩
    subst efv
    have pl := hp.l
    have ql := hq.l
    have rl := hrr.l
    have kp := pk_row hp (by decide)
    have kq := pk_row hq (by decide)
    have kr := pk_row hrr (by decide)
    have rp : ∀ {H' : Hp} {r : List Nat}, PlAt H' (.str (rowS r)) (.row r) := rfl
    refine ⟨_, rfl, _, rfl, _, rfl, _, rfl, p, q, r, _, fs, rfl, hF, ok, hp, hq, hrr, fun H7 x7 => ⟨_, rfl, iteF ?_⟩⟩
    refine ⟨_, rfl, _, rfl, _, rfl, p, q, _, fs, rfl, hF.ex x7, ok, hp, hq, fun H8 x8 => ⟨_, rfl, iteF ?_⟩⟩
    have x68 := x7.trans x8
    have cm : ∀ {H' : Hp} {x y : V} {X Y : Pl}, Ex H6 H' → PlAt H' x X → PlAt H' y Y → POk X → POk Y → (stp X).length + (stp Y).length ≤ 12 → 1 + sz X + sz Y ≤ 9 → CmpOk K H' x y (.ref fl) X Y fs := fun x h1 h2 h3 h4 h5 h6 => ⟨h1, h2, hF.ex x, h3, h4, ok, h5, by omega, .inl h6⟩
    have andv : ∀ (Kf : VK), (∀ H'' bb, Ex H8 H'' → (bb = true → Nev (slowOf fs) (.row p) (.row r)) → Kf (.bl bb) H'') →
        (tAndV (tCall (spIsNev K) [] C8.E0 (tCons (tVar 4) (tCons (tVar 5) (tCons (tVar 7) tNil)))) (tCall (spIsNev K) [] C8.E0 (tCons (tVar 5) (tCons (tVar 6) (tCons (tVar 7) tNil))))) [some (.ref a), some (.ref d), some (iV i), some (.str (rowS ls)), some (.str (rowS p)), some (.str (rowS q)), some (.str (rowS r)), some (.ref fl), v8, v9, v10, none] H8 Kf := by
      intro Kf hK
      refine ⟨_, rfl, _, rfl, _, rfl, _, _, _, .row p, .row q, fs, rfl, cm x68 rp rp kp kq (by simp only [stp]; omega) (by simp only [sz]; omega), fun H9 b1 y9 hb1 => ⟨b1, rfl, ?_⟩⟩
      cases b1 with
      | false => exact iteF (hK H9 false y9 (fun z => Bool.noConfusion z))
      | true => exact iteT ⟨_, rfl, _, rfl, _, rfl, _, _, _, .row q, .row r, fs, rfl, cm (x68.trans y9) rp rp kq kr (by simp only [stp]; omega) (by simp only [sz]; omega), fun H10 b2 y10 hb2 => hK H10 b2 (y9.trans y10) fun z => (hb1.mp rfl).trans (hb2.mp z)⟩
    refine andv _ fun H9 bb x9 hbb => ?_
    have x69 := x68.trans x9
    have ord : ∀ (Kt Kn : Hp → Prop), (∀ H'', Ex H9 H'' → Kn H'') → (tAnd (tB (tVar 8)) (tNot (tB (tCall (spIsNev K) [] C8.E0 (tCons (tVar 4) (tCons (tVar 6) (tCons (tVar 7) tNil))))))) [some (.ref a), some (.ref d), some (iV i), some (.str (rowS ls)), some (.str (rowS p)), some (.str (rowS q)), some (.str (rowS r)), some (.ref fl), some (.bl bb), v9, v10, none] H9 (fun c H'' => if c = true then Kt H'' else Kn H'') := by
      intro Kt Kn hK
      refine ⟨_, rfl, bb, rfl, ?_⟩
      cases bb with
      | false => exact iteF (iteF (hK H9 (.refl _)))
      | true =>
        refine iteT ⟨_, rfl, _, rfl, _, rfl, _, _, _, .row p, .row r, fs, rfl, cm x69 rp rp kp kr (by simp only [stp]; omega) (by simp only [sz]; omega), fun H10 b2 y10 hb2 => ⟨b2, rfl, ?_⟩⟩
        obtain rfl : b2 = true := hb2.mpr (hbb rfl)
        exact iteF (hK H10 y10)
    refine ord _ _ fun H10 x10 => ?_
    have x610 := x69.trans x10
    have D10 := D6.ex x610
    have hF10 := hF.ex x610
    obtain ⟨hL1, hL4, hLK⟩ := id hL
    have okL : ∀ c ∈ ls ++ ls.map (· - 32), okc c := fun c hc => by
      rcases List.mem_append.mp hc with h | h
      · have := mem_LK (hLK c h)
        unfold okc
        omega
      · obtain ⟨b, hb, rfl⟩ := List.mem_map.mp h
        have := mem_LK (hLK b hb)
        unfold okc
        omega
    refine ⟨_, rfl, _, rfl, _, rfl, ⟨_, rfl⟩, _, rfl, rfl, (by rw [rowS_len]; omega), _, _, rfl, rfl, ?_, ?_⟩
    · rw [up_row hLK, rowS_len, rowS_len, List.length_map]
      exact Nat.le_of_lt (lt_line (by omega))
    rw [up_row hLK, rowS_app]
    refine ⟨d, ga, la, _, ls ++ ls.map (· - 32), rfl, D10, by omega, ?_, by rw [List.length_append, List.length_map]; omega, fun c H11 hc kp11 D11 => ?_⟩
    · cases ls with
      | nil => simp at hL1
      | cons a b => exact fun z => by cases z
    have okc0 := okL c hc
    have hF11 := hF10.kp D10 kp11 f1 f2
    refine ⟨_, rfl, by show 2 ≤ sizeLine; decide, fun wl nwl => ?_⟩
    have xw : Ex H11 (upd H11 wl (.lst [.str "later", .str "sooner"])) := Evl.Ex.new nwl
    obtain ⟨wl1, wl2, _⟩ := D11.has nwl
    have D12 := D11.ex xw
    refine ⟨d, ga, la, wl, _, _, rfl, D12, by omega, upd_same, wl1, wl2, (fun z => by cases z), (by show 2 ≤ 1000; decide), fun wd H13 hwd kp13 D13 => ⟨_, _, rfl, ?_⟩⟩
    have hF13 := (hF11.ex xw).kp D12 kp13 f1 f2
    refine Classical.byContradiction fun hG => ?_
    have hcons : ∀ r : List Nat, RowOk r 2 → RowOk (c :: r) 3 := fun r h => ⟨(by show r.length + 1 ≤ 3; have := h.l; omega), fun x hx => by
      rcases List.mem_cons.mp hx with e | e
      · rw [e]
        exact okc0
      · exact h.c x e⟩
    have hcp := hcons p hp
    have hcq := hcons q hq
    have hpc : RowOk (p ++ [c]) 3 := ⟨by rw [List.length_append]; show p.length + 1 ≤ 3; omega, fun x hx => by
      rcases List.mem_append.mp hx with h | h
      · exact hp.c x h
      · rw [List.mem_singleton] at h; rw [h]; exact okc0⟩
    have hqc : RowOk (q ++ [c]) 3 := ⟨by rw [List.length_append]; show q.length + 1 ≤ 3; omega, fun x hx => by
      rcases List.mem_append.mp hx with h | h
      · exact hq.c x h
      · rw [List.mem_singleton] at h; rw [h]; exact okc0⟩
    have hc1 : RowOk [c] 1 := ⟨Nat.le_refl _, fun x hx => by rw [List.mem_singleton] at hx; rw [hx]; exact okc0⟩
    have kc := pk_row hc1 (by decide)
    have catb : ∀ a b : List Nat, a.length ≤ 400 → b.length ≤ 400 → (rowS a).length + (rowS b).length ≤ sizeLine := fun a b h1 h2 => by rw [rowS_len, rowS_len]; exact Nat.le_of_lt (lt_line (by omega))
    have rpre : ∀ {H' : Hp} {r : List Nat}, PlAt H' (.str (chr c ++ rowS r)) (.row (c :: r)) := fun {H'} {r} => by
      show V.str (chr c ++ rowS r) = V.str (rowS (c :: r))
      rw [chr_row, rowS_app]
      rfl
    have rsuf : ∀ {H' : Hp} {r : List Nat}, PlAt H' (.str (rowS r ++ chr c)) (.row (r ++ [c])) := fun {H'} {r} => by
      show V.str (rowS r ++ chr c) = V.str (rowS (r ++ [c]))
      rw [chr_row, rowS_app]
    have lc1 : ([c] : List Nat).length ≤ 400 := by show 1 ≤ 400; omega
    have al : ∀ (ws : Str) (mk : Pl → Pl → Pl), wd = .str ws → (∀ (H : Hp) t x y A B, H t = some (.tup [.str ws, x, y]) → PlAt H x A → PlAt H y B → PlAt H (.ref t) (mk A B)) → (∀ A B, sz (mk A B) = sz A + sz B + 1) → (∀ A B, stp (mk A B) = stp A ++ stp B) → (∀ A B, dep (mk A B) = 1 + max (dep A) (dep B)) → (∀ A B, ROk A → ROk B → ROk (mk A B)) →
        Tri (slowOf fs) (.thn (.row [c]) (mk (.row p) (.row q))) (mk (.row (c :: p)) (.row (c :: q))) → Tri (slowOf fs) (mk (.row (c :: p)) (.row (c :: q))) (.thn (.row [c]) (mk (.row p) (.row q))) →
        Tri (slowOf fs) (.thn (mk (.row p) (.row q)) (.row [c])) (mk (.row (p ++ [c])) (.row (q ++ [c]))) → Tri (slowOf fs) (mk (.row (p ++ [c])) (.row (q ++ [c]))) (.thn (mk (.row p) (.row q)) (.row [c])) →
        (∀ (M : Md (slowOf fs)) t, ev M (.thn (.row [c]) (mk (.row p) (.row q))) t = ev M (mk (.row (c :: p)) (.row (c :: q))) t) → (∀ (M : Md (slowOf fs)) t, ev M (.thn (mk (.row p) (.row q)) (.row [c])) t = ev M (mk (.row (p ++ [c])) (.row (q ++ [c]))) t) → False := by
      intro ws mk ew hpl hsz hstp hdep hrok t1 t2 t3 t4 e1 e2
      subst ew
      have pok : ∀ A B, POk A → POk B → dep A ≤ 3 → dep B ≤ 3 → (stp A).length + (stp B).length ≤ 10 → POk (mk A B) := fun A B h1 h2 h3 h4 h5 => ⟨by rw [hdep]; omega, hrok A B h1.r h2.r, by rw [hstp, List.length_append]; exact h5⟩
      have k1 := pok _ _ kp kq (by show 1 ≤ 3; decide) (by show 1 ≤ 3; decide) (by simp only [stp]; omega)
      have k2 := pok _ _ (pk_row hcp (by decide)) (pk_row hcq (by decide)) (by show 1 ≤ 3; decide) (by show 1 ≤ 3; decide) (by simp only [stp, List.length_cons]; omega)
      have k3 := pok _ _ (pk_row hpc (by decide)) (pk_row hqc (by decide)) (by show 1 ≤ 3; decide) (by show 1 ≤ 3; decide) (by simp only [stp, List.length_append, List.length_cons, List.length_nil]; omega)
      have dm : dep (mk (.row p) (.row q)) = 2 := by rw [hdep]; rfl
      have k4 : POk (.thn (.row [c]) (mk (.row p) (.row q))) := ⟨by show 1 + max 1 (dep (mk (.row p) (.row q))) ≤ 4; rw [dm]; decide, ⟨kc.r, k1.r⟩, by simp only [stp, hstp, List.length_append, List.length_cons, List.length_nil]; omega⟩
      have k5 : POk (.thn (mk (.row p) (.row q)) (.row [c])) := ⟨by show 1 + max (dep (mk (.row p) (.row q))) 1 ≤ 4; rw [dm]; decide, ⟨k1.r, kc.r⟩, by simp only [stp, hstp, List.length_append, List.length_cons, List.length_nil]; omega⟩
      refine hG ?_
      refine ⟨_, rfl, _, rfl, _, rfl, _, rfl, by show 3 ≤ sizeLine; decide, fun u1 nu1 => ⟨by show 3 ≤ sizeLine; decide, fun u2 nu2 => ?_⟩⟩
      have y1 : Ex H13 (upd H13 u1 (.tup [.str ws, .str (rowS p), .str (rowS q)])) := Evl.Ex.new nu1
      have y2 : Ex (upd H13 u1 (.tup [.str ws, .str (rowS p), .str (rowS q)])) (upd (upd H13 u1 (.tup [.str ws, .str (rowS p), .str (rowS q)])) u2 (.tup [.str "then", .str (chr c), .ref u1])) := Evl.Ex.new nu2
      refine ⟨_, rfl, _, rfl, _, rfl, _, _, rfl, rfl, catb [c] p lc1 (by omega), _, rfl, _, rfl, _, _, rfl, rfl, catb [c] q lc1 (by omega), by show 3 ≤ sizeLine; decide, fun u3 nu3 => ?_⟩
      have y3 : Ex (upd (upd H13 u1 (.tup [.str ws, .str (rowS p), .str (rowS q)])) u2 (.tup [.str "then", .str (chr c), .ref u1])) (upd (upd (upd H13 u1 (.tup [.str ws, .str (rowS p), .str (rowS q)])) u2 (.tup [.str "then", .str (chr c), .ref u1])) u3 (.tup [.str ws, .str (chr c ++ rowS p), .str (chr c ++ rowS q)])) := Evl.Ex.new nu3
      have b1 : PlAt (upd (upd (upd H13 u1 (.tup [.str ws, .str (rowS p), .str (rowS q)])) u2 (.tup [.str "then", .str (chr c), .ref u1])) u3 (.tup [.str ws, .str (chr c ++ rowS p), .str (chr c ++ rowS q)])) (.ref u2) (.thn (.row [c]) (mk (.row p) (.row q))) := ⟨u2, _, _, rfl, y3 _ _ upd_same, rfl, hpl _ u1 _ _ _ _ (y3 _ _ (y2 _ _ upd_same)) rfl rfl⟩
      have b2 : PlAt (upd (upd (upd H13 u1 (.tup [.str ws, .str (rowS p), .str (rowS q)])) u2 (.tup [.str "then", .str (chr c), .ref u1])) u3 (.tup [.str ws, .str (chr c ++ rowS p), .str (chr c ++ rowS q)])) (.ref u3) (mk (.row (c :: p)) (.row (c :: q))) := hpl _ u3 _ _ _ _ upd_same rpre rpre
      have y13 := (y1.trans y2).trans y3
      refine ⟨_, rfl, _, _, _, _, _, fs, rfl, ⟨b1, b2, hF13.ex y13, k4, k2, ok, by simp only [stp, hstp, List.length_append, List.length_cons, List.length_nil]; omega, by simp only [sz, hsz, List.length_cons, List.length_nil]; omega, .inr t1⟩,
        ⟨b2, b1, hF13.ex y13, k2, k4, ok, by simp only [stp, hstp, List.length_append, List.length_cons, List.length_nil]; omega, by simp only [sz, hsz, List.length_cons, List.length_nil]; omega, .inr t2⟩, fun H14 ba x14 hba => ⟨ba, rfl, ?_⟩⟩
      obtain rfl : ba = true := hba.mpr ⟨fun M t => Int.le_of_eq (e1 M t), fun M t => Int.le_of_eq (e1 M t).symm⟩
      refine iteF ?_
      have y14 := y13.trans x14
      refine ⟨_, rfl, _, rfl, _, rfl, by show 3 ≤ sizeLine; decide, fun w1 nw1 => ?_⟩
      have z1 : Ex H14 (upd H14 w1 (.tup [.str ws, .str (rowS p), .str (rowS q)])) := Evl.Ex.new nw1
      refine ⟨_, rfl, by show 3 ≤ sizeLine; decide, fun w2 nw2 => ?_⟩
      have z2 : Ex (upd H14 w1 (.tup [.str ws, .str (rowS p), .str (rowS q)])) (upd (upd H14 w1 (.tup [.str ws, .str (rowS p), .str (rowS q)])) w2 (.tup [.str "then", .ref w1, .str (chr c)])) := Evl.Ex.new nw2
      refine ⟨_, rfl, _, rfl, _, rfl, _, _, rfl, rfl, catb p [c] (by omega) lc1, _, rfl, _, rfl, _, _, rfl, rfl, catb q [c] (by omega) lc1, by show 3 ≤ sizeLine; decide, fun w3 nw3 => ?_⟩
      have z3 : Ex (upd (upd H14 w1 (.tup [.str ws, .str (rowS p), .str (rowS q)])) w2 (.tup [.str "then", .ref w1, .str (chr c)])) (upd (upd (upd H14 w1 (.tup [.str ws, .str (rowS p), .str (rowS q)])) w2 (.tup [.str "then", .ref w1, .str (chr c)])) w3 (.tup [.str ws, .str (rowS p ++ chr c), .str (rowS q ++ chr c)])) := Evl.Ex.new nw3
      have c1 : PlAt (upd (upd (upd H14 w1 (.tup [.str ws, .str (rowS p), .str (rowS q)])) w2 (.tup [.str "then", .ref w1, .str (chr c)])) w3 (.tup [.str ws, .str (rowS p ++ chr c), .str (rowS q ++ chr c)])) (.ref w2) (.thn (mk (.row p) (.row q)) (.row [c])) := ⟨w2, _, _, rfl, z3 _ _ upd_same, hpl _ w1 _ _ _ _ (z3 _ _ (z2 _ _ upd_same)) rfl rfl, rfl⟩
      have c2 : PlAt (upd (upd (upd H14 w1 (.tup [.str ws, .str (rowS p), .str (rowS q)])) w2 (.tup [.str "then", .ref w1, .str (chr c)])) w3 (.tup [.str ws, .str (rowS p ++ chr c), .str (rowS q ++ chr c)])) (.ref w3) (mk (.row (p ++ [c])) (.row (q ++ [c]))) := hpl _ w3 _ _ _ _ upd_same rsuf rsuf
      have z13 := (z1.trans z2).trans z3
      have y15 := y14.trans z13
      refine ⟨_, rfl, _, _, _, _, _, fs, rfl, ⟨c1, c2, hF13.ex y15, k5, k3, ok, by simp only [stp, hstp, List.length_append, List.length_cons, List.length_nil]; omega, by simp only [sz, hsz, List.length_append, List.length_cons, List.length_nil]; omega, .inr t3⟩,
        ⟨c2, c1, hF13.ex y15, k3, k5, ok, by simp only [stp, hstp, List.length_append, List.length_cons, List.length_nil]; omega, by simp only [sz, hsz, List.length_append, List.length_cons, List.length_nil]; omega, .inr t4⟩, fun H15 bb' x15 hbb' => ⟨bb', rfl, ?_⟩⟩
      obtain rfl : bb' = true := hbb'.mpr ⟨fun M t => Int.le_of_eq (e2 M t), fun M t => Int.le_of_eq (e2 M t).symm⟩
      exact iteF ⟨⟨_, _, _, _, _, _, _, _, _, rfl⟩, (D13.ex (y15.trans x15)).mv (by omega) fun b o h _ => h⟩
    have hw2 : wd = .str "later" ∨ wd = .str "sooner" := by simpa using hwd
    rcases hw2 with ew | ew
    · exact al _ .lat ew (fun _ t _ _ _ _ h1 h2 h3 => ⟨t, _, _, rfl, h1, h2, h3⟩) (fun _ _ => rfl) (fun _ _ => rfl) (fun _ _ => rfl) (fun _ _ h1 h2 => ⟨h1, h2⟩) (tri_pre_lat1 (slow_refl _) c p q) (tri_pre_lat2 (slow_refl _) c p q) (tri_suf_lat1 (slow_refl _) c p q) (tri_suf_lat2 (slow_refl _) c p q) (fun _ _ => rfl) (fun M t => suf_lat M c p q t)
    · exact al _ .son ew (fun _ t _ _ _ _ h1 h2 h3 => ⟨t, _, _, rfl, h1, h2, h3⟩) (fun _ _ => rfl) (fun _ _ => rfl) (fun _ _ => rfl) (fun _ _ h1 h2 => ⟨h1, h2⟩) (tri_pre_son1 (slow_refl _) c p q) (tri_pre_son2 (slow_refl _) c p q) (tri_suf_son1 (slow_refl _) c p q) (tri_suf_son2 (slow_refl _) c p q) (fun _ _ => rfl) (fun M t => suf_son M c p q t)
end
end K35

namespace K35
open PySem PySem.W PySem.Calls PyProof.Rows
abbrev R : OpenRow := OpenLaw.row PySem.Challenge.rw_newsinorder_k35_whole_later_and_sooner
abbrev qv : Program := view R.prog [85]
def names0 : List PySem.Str := ["_wall", "OrderError", "NoMoment", "NoRides", "NoTable", "NoLink", "NoPlan", "NoFacts", "TooMany", "FIRST", "LAST", "MOST_RIDES", "is_number", "is_moment", "need_moment", "is_earlier", "sooner_of", "is_ride", "ended", "begun"]
def names1 : List PySem.Str := ["needed", "link_by", "Link", "LINKS", "STEPS", "MOST_STEPS_rows", "is_row", "Timetable", "WORDS", "MOST_IN_ROW", "MOST_STEPS_plans", "MOST_DEEP", "has_shape", "steps_in", "is_plan", "need_plan", "MOST_FACTS", "is_fact", "need_facts", "never_slower"]
def names2 : List PySem.Str := ["row_values", "plan_values", "listed_values", "step_rules", "Order", "first_order", "MOST_STEPS_compare", "MOST_LOOKED_AT", "is_open", "bits", "weight", "premises", "chosen", "first_open", "tried", "completed", "searched", "numbers_of", "rides_by", "timetable_of"]
def names3 : List PySem.Str := ["steps_among", "compared", "compare", "is_never", "alike", "_law_begun", "_law_next", "_law_pick", "_law_shuffled", "_law_other", "_law_some", "_law_row", "_law_grown", "_law_facts", "_law_is_never", "_law_least_right", "_law_alike_right"]
def names : List PySem.Str := names0 ++ names1 ++ names2 ++ names3
def at0 : List Addr := [2, 3, 15, 17, 18, 20, 21, 22, 29, 30, 31, 32, 35, 42, 43, 44, 47, 54, 56, 57, 59, 60, 61, 62, 63, 66, 73, 74, 75, 78, 85, 87, 88, 90, 91, 92, 93, 94, 97, 104]
def at1 : List Addr := [105, 106, 109, 116, 117, 118, 121, 128, 130, 131, 133, 134, 135, 136, 137, 140, 142, 143, 145, 146, 147, 149, 150, 152, 153, 154, 156, 157, 159, 160, 161, 163, 164, 166, 167, 168, 170, 171, 173, 174]
def at2 : List Addr := [175, 177, 178, 180, 181, 182, 185, 186, 187, 190, 191, 192, 195, 196, 197, 199, 200, 202, 203, 211, 213, 214, 216, 217, 218, 220, 221, 223, 224, 225, 226, 228, 229, 231, 232, 233, 235, 236, 238, 239]
def at3 : List Addr := [240, 242, 243, 245, 246, 247, 250, 251, 252, 254, 255, 257, 258, 259, 262, 263, 264, 267, 268, 269, 272, 273, 274, 275, 276, 277, 278, 281, 284, 285, 293, 296, 297, 298, 300, 301, 303, 304, 305, 306]
def at4 : List Addr := [308, 309, 311, 312, 313, 315, 316, 318, 319, 320, 322, 323, 325, 326, 327, 329, 330, 332, 333, 334, 336, 337, 339, 340, 341, 343, 344, 346, 347, 348, 350, 351, 353, 354, 355, 357, 358, 360, 361, 362]
def at5 : List Addr := [363, 364, 365, 366, 369, 370, 372, 373, 375, 376, 377, 379, 380, 382, 383, 384, 386, 387, 389, 390, 391, 393, 394, 396, 397, 398, 400, 401, 403, 404, 405, 408, 409, 410, 413, 414, 415, 417, 418, 420]
def at6 : List Addr := [421, 422, 424, 425, 427, 428, 429, 431, 432, 434, 435, 436, 439, 440, 448, 450, 451, 453, 454, 455, 457, 458, 460, 461, 462, 464, 465, 467, 468, 469, 471, 472, 474, 475, 476, 478, 479, 481, 482, 483]
def at7 : List Addr := [485, 486, 488, 489, 490, 492, 493, 495, 496, 497, 499, 500, 502, 503, 504, 506, 507, 509, 510, 511, 513, 514, 516, 517, 518, 521, 522, 523, 524, 525, 526, 527, 530, 533, 534, 535, 537, 538, 540, 541]
def at8 : List Addr := [542, 544, 545, 547, 548, 549, 552, 553, 554, 557, 558, 559, 561, 562, 564, 565, 566, 568, 569, 571, 572, 573, 575, 576, 578, 579, 580, 582, 583, 585, 586, 587, 589, 590, 592, 593, 594, 597, 598, 599]
def at9 : List Addr := [601, 602, 604, 605, 606, 608, 609, 611, 612, 613, 616, 617, 618, 620, 621, 623, 624, 625, 626, 627, 629, 630, 632, 633, 634, 636, 637, 639, 640, 641, 642, 643, 645, 646, 648, 649, 650, 653, 654, 655]
def at10 : List Addr := [657, 658, 660, 661, 662, 664, 665, 667, 668, 669, 671, 672, 674, 675, 676, 678, 679, 681, 682, 683, 685, 686, 688, 689, 690, 692, 693, 695, 696, 697, 700, 701, 702, 705, 706, 707, 709, 710, 712, 713]
def at11 : List Addr := [714, 716, 717, 719, 720, 721, 723, 724, 726, 727, 728, 731, 732]
def ats : List Addr := at0 ++ at1 ++ at2 ++ at3 ++ at4 ++ at5 ++ at6 ++ at7 ++ at8 ++ at9 ++ at10 ++ at11
abbrev hk : PySem.W.Hook := hook ats
def frcK {α : Type} (g : Addr → Option Obj) : List Addr → (PySem.W.Frag → α) → α
  | [], k => k []
  | a :: r, k => frcK g r fun K => match g a with
    | some o => k ((a, o) :: K)
    | none => k K
theorem frcK_eq {α : Type} (g : Addr → Option Obj) : ∀ (l : List Addr) (k : PySem.W.Frag → α), frcK g l k = k (He.frG g l)
  | [], k => rfl
  | a :: r, k => by
    show (frcK g r fun K => match g a with
      | some o => k ((a, o) :: K)
      | none => k K) = _
    rw [frcK_eq g r]
    unfold He.frG
    rw [List.filterMap_cons]
    cases g a <;> rfl
def obF (s : PySem.W.SharedT) : He.AlD × Bool := frcK (HandSHeadRun.getT s) ats fun K => (He.obsD fa fn K, ex K)
theorem obF_eq (s : PySem.W.SharedT) : obF s = hk.obs s.abs := by
  have e : HandSHeadRun.getT s = s.abs.heap.get? := funext fun a => HandSHeadRun.getT_eq s a
  unfold obF
  rw [frcK_eq, e] <;> rfl
theorem run (w : World) : HandSHeadRun.RunEq R qv hk obF 6000 names w := by
  intro os
  kernel_rfl
end K35

namespace K35
open PySem PySem.Spec PyProof.Rows L2
/-- the law's promise, from the facts of the head -/
theorem law_fn {P : Program} {w : World} {K : PySem.W.Frag} {h : Heap} {mg : Str → Option Value} {f : Addr} (X : K.In h) (G : h.Ns mainGlobals mg) (hfa : mg ("law" : Str) = some (.ref f)) (c : He.SaysD fa fn K) (m : ex K = true) :
    ∃ fd : FuncData, (∀ (s : Shared) (v : Value), BindsTo s fd ⟨[v], []⟩ [("_law_script", v)]) ∧ ∀ base : Heap, K.In base → base.Ns mainGlobals mg → FnOk P w K mg base CX0 12 f fd ["_law_script"] (spLaw K) := by
  have T : Tx K mg := ⟨c, m, h, X, G⟩
  obtain ⟨fd, F⟩ := c.def_ 58 (d := d_law) rfl
  have e := hfa.symm.trans T.mg_law
  cases e
  have b := FunD.bindsA (ps := ["_law_script"]) F fun _ _ _ _ _ _ us hl => match us, hl with | [_], _ => rfl
  exact ⟨fd, fun s v => b s [v] rfl, fun base _ _ => mkF F sc_law (fun vs H Q E h => by obtain ⟨a, ns, rfl, _⟩ := h; rfl) (b_law T _)⟩
end K35
open PySem PySem.W PySem.Calls PyProof.Rows
theorem PySem.Challenge.cw_newsinorder_k35_whole_later_and_sooner_holds : PySem.Challenge.rw_newsinorder_k35_whole_later_and_sooner.Holds := by
  w_on; o_law
  refine HandSHeadRun.head_any (r := OpenLaw.row PySem.Challenge.rw_newsinorder_k35_whole_later_and_sooner) (q := view (OpenLaw.row PySem.Challenge.rw_newsinorder_k35_whole_later_and_sooner).prog [85]) (H := K35.hk) (ob := K35.obF) (M := 6000) (loose := K35.names)
    (d := HandSHeadRun.topDef (OpenLaw.row PySem.Challenge.rw_newsinorder_k35_whole_later_and_sooner).prog 85) (kwd := []) K35.obF_eq
    (by kernel_rfl) (fun s => by kernel_rfl) K35.run (by kernel_rfl) (by kernel_rfl) (by kernel_rfl) (by rfl) (by first | assumption | decide +kernel) (by decide +kernel) ⟨rfl, rfl, rfl, rfl, rfl, by decide +kernel⟩ ?hw ?hc
  case hw => w_witness2
  case hc =>
    refine L2.walk_ofE (l := PySem.Challenge.rw_newsinorder_k35_whole_later_and_sooner) (n := 63) (k := 12) (x := "_law_script") (CX := L2.CX0) rfl (by decide) (by kernel_rfl) ⟨rfl, by decide, by decide⟩ ?F (fun _ _ _ _ z => z)
    intro w mg fa h Y G hmg0
    obtain ⟨K, KX, c, m⟩ := Y
    have hmg : mg ("law" : PySem.Str) = some (.ref fa) := by
      have e : (HandSHeadRun.topDef (OpenLaw.row PySem.Challenge.rw_newsinorder_k35_whole_later_and_sooner).prog 85).name = ("law" : PySem.Str) := by kernel_rfl
      rw [← e]
      exact hmg0
    obtain ⟨fd, hb, hF⟩ := K35.law_fn (P := (PySem.Challenge.rw_newsinorder_k35_whole_later_and_sooner).prog) (w := w) KX G hmg c m
    exact ⟨K, fd, K35.spLaw K, KX, hb, fun H a ns hl _ hS => ⟨a, ns, rfl, hS, hl, fun _ => rfl⟩, hF⟩
