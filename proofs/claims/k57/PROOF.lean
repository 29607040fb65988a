import PyProof.Rows.All
import Wide.All
import OpenK.AllK
import Wide.FinOn
import HandS.ForMost
import HandS.Star
import HandS.DictComp
import KE.KDictDisplayH
import KE.KDictPairs
import HandS.Walk
import KE.GoesMore
import HandS.Property
import HandS.ClsMeth
import HandS.CallLocal
import KE.KSortRegAny
import HandS.IsInst
import HandS.Deep
import HandS.SortInts
import HandS.TupMul
import HandS.TupAny
import HandS.Conv
import HandS.Style
import HandS.Wide
import HandS.Zip
import PySem.Challenge.RW_chainmaps_k57_whole_losing_words_or_evid
import HandS.TupLen
import HandS.Keys
set_option Elab.async false
section
/-! Plain mathematics: partial one-to-one maps as functions, images of sets of places, the breadth-first walk over them. -/
namespace K57
/-- a partial map -/
abbrev Fn := Nat → Option Nat
structure Good (n : Nat) (g : Fn) : Prop where
  lt : ∀ i j, g i = some j → i < n ∧ j < n
  inj : ∀ i j k, g i = some k → g j = some k → i = j
/-- the places to which arrows lead, ascending -/
def img (n : Nat) (g : Fn) (ps : List Nat) : List Nat := (List.range n).filter fun t => ps.any fun p => g p == some t

theorem mem_img {n : Nat} {g : Fn} {ps : List Nat} {t : Nat} : t ∈ img n g ps ↔ t < n ∧ ∃ p ∈ ps, g p = some t := by
  simp only [img, List.mem_filter, List.mem_range, List.any_eq_true, beq_iff_eq]
theorem img_asc (n : Nat) (g : Fn) (ps : List Nat) : (img n g ps).Pairwise (· < ·) := List.Pairwise.filter _ List.pairwise_lt_range
theorem img_lt {n : Nat} {g : Fn} {ps : List Nat} : ∀ t ∈ img n g ps, t < n := fun _ h => (mem_img.mp h).1
theorem img_nil (n : Nat) (g : Fn) : img n g [] = [] := by
  rw [img, List.filter_eq_nil_iff]
  intro a _
  simp

/-- two ascending lists of the same members are one -/
theorem asc_ext : ∀ {a b : List Nat}, a.Pairwise (· < ·) → b.Pairwise (· < ·) → (∀ t, t ∈ a ↔ t ∈ b) → a = b
  | [], [], _, _, _ => rfl
  | [], y :: _, _, _, h => absurd ((h y).mpr List.mem_cons_self) List.not_mem_nil
  | x :: _, [], _, _, h => absurd ((h x).mp List.mem_cons_self) List.not_mem_nil
  | x :: xs, y :: ys, ha, hb, h => by
    obtain ⟨hx, ha'⟩ := List.pairwise_cons.mp ha
    obtain ⟨hy, hb'⟩ := List.pairwise_cons.mp hb
    have e : x = y := by
      rcases List.mem_cons.mp ((h x).mp List.mem_cons_self) with e | m
      · exact e
      · rcases List.mem_cons.mp ((h y).mpr List.mem_cons_self) with e | m'
        · exact e.symm
        · have := hx _ m'
          have := hy _ m
          omega
    subst e
    congr 1
    refine asc_ext ha' hb' fun t => ⟨fun m => ?_, fun m => ?_⟩
    · rcases List.mem_cons.mp ((h t).mp (List.mem_cons_of_mem _ m)) with e | m'
      · have := hx _ m
        omega
      · exact m'
    · rcases List.mem_cons.mp ((h t).mpr (List.mem_cons_of_mem _ m)) with e | m'
      · have := hy _ m
        omega
      · exact m'

theorem nodup_asc : ∀ {l : List Nat}, l.Nodup → l.Pairwise (· ≤ ·) → l.Pairwise (· < ·)
  | [], _, _ => .nil
  | x :: l, hn, hs => by
    obtain ⟨h1, h2⟩ := List.nodup_cons.mp hn
    obtain ⟨h3, h4⟩ := List.pairwise_cons.mp hs
    refine List.pairwise_cons.mpr ⟨fun y hy => ?_, nodup_asc h2 h4⟩
    have h5 := h3 y hy
    have h6 : x ≠ y := fun e => h1 (e ▸ hy)
    omega
theorem asc_nodup : ∀ {l : List Nat}, l.Pairwise (· < ·) → l.Nodup
  | [], _ => .nil
  | x :: l, h => by
    obtain ⟨h1, h2⟩ := List.pairwise_cons.mp h
    exact List.nodup_cons.mpr ⟨fun m => Nat.lt_irrefl _ (h1 x m), asc_nodup h2⟩

theorem fm_nodup {n : Nat} {g : Fn} (G : Good n g) : ∀ {ps : List Nat}, ps.Nodup → (ps.filterMap g).Nodup
  | [], _ => .nil
  | p :: ps, h => by
    obtain ⟨h1, h2⟩ := List.nodup_cons.mp h
    have ih := fm_nodup G h2
    cases e : g p with
    | none => rw [List.filterMap_cons_none e]; exact ih
    | some t =>
      rw [List.filterMap_cons_some e]
      refine List.nodup_cons.mpr ⟨fun m => ?_, ih⟩
      obtain ⟨q, hq, eq⟩ := List.mem_filterMap.mp m
      have := G.inj _ _ _ e eq
      exact h1 (this ▸ hq)
theorem mem_fm {n : Nat} {g : Fn} (G : Good n g) {ps : List Nat} {t : Nat} : t ∈ ps.filterMap g ↔ t ∈ img n g ps := by
  rw [mem_img, List.mem_filterMap]
  exact ⟨fun ⟨q, hq, e⟩ => ⟨(G.lt _ _ e).2, q, hq, e⟩, fun ⟨_, h⟩ => h⟩

/-- what sorting gives -/
theorem sorted_img {n : Nat} {g : Fn} (G : Good n g) {ps : List Nat} (hp : ps.Nodup) {l : List Nat} (h : l.Perm (ps.filterMap g)) (hs : l.Pairwise (· ≤ ·)) : l = img n g ps := by
  refine asc_ext (nodup_asc ((h.nodup_iff).mpr (fm_nodup G hp)) hs) (img_asc n g ps) fun t => ?_
  rw [h.mem_iff, mem_fm G]

/-! ### the walk -/
abbrev Wd := List (List Nat × List Nat)
def keys (W : Wd) : List (List Nat) := W.map (·.1)
def put1 (n : Nat) (W : Wd) (p w : List Nat) (i : Nat) (g : Fn) : Wd := if img n g p ∈ keys W then W else W ++ [(img n g p, w ++ [i])]
/-- the first i maps are tried at p -/
def expTo (n : Nat) (gs : List Fn) (p w : List Nat) (W : Wd) : Nat → Wd
  | 0 => W
  | i + 1 => match gs[i]? with
    | some g => put1 n (expTo n gs p w W i) p w i g
    | none => expTo n gs p w W i
def bfs (n : Nat) (gs : List Fn) : Nat → Wd
  | 0 => [(List.range n, [])]
  | k + 1 => match (bfs n gs k)[k]? with
    | some (p, w) => expTo n gs p w (bfs n gs k) gs.length
    | none => bfs n gs k

theorem keys_append (a b : Wd) : keys (a ++ b) = keys a ++ keys b := List.map_append
theorem put1_pre (n : Nat) (W : Wd) (p w : List Nat) (i : Nat) (g : Fn) : W <+: put1 n W p w i g := by
  unfold put1
  split
  · exact List.prefix_refl _
  · exact List.prefix_append _ _
theorem expTo_succ {n : Nat} {gs : List Fn} {p w : List Nat} {W : Wd} {i : Nat} {g : Fn} (h : gs[i]? = some g) : expTo n gs p w W (i + 1) = put1 n (expTo n gs p w W i) p w i g := by
  rw [expTo, h]
theorem expTo_step (n : Nat) (gs : List Fn) (p w : List Nat) (W : Wd) (i : Nat) : expTo n gs p w W i <+: expTo n gs p w W (i + 1) := by
  rw [expTo]
  split
  · exact put1_pre _ _ _ _ _ _
  · exact List.prefix_refl _
theorem expTo_pre (n : Nat) (gs : List Fn) (p w : List Nat) (W : Wd) : ∀ {i j : Nat}, i ≤ j → expTo n gs p w W i <+: expTo n gs p w W j
  | i, 0, h => by
    have : i = 0 := by omega
    subst this
    exact List.prefix_refl _
  | i, j + 1, h => by
    by_cases e : i = j + 1
    · subst e
      exact List.prefix_refl _
    · exact (expTo_pre n gs p w W (by omega)).trans (expTo_step n gs p w W j)
theorem bfs_step (n : Nat) (gs : List Fn) (k : Nat) : bfs n gs k <+: bfs n gs (k + 1) := by
  rw [bfs]
  split
  · exact expTo_pre n gs _ _ _ (i := 0) (Nat.zero_le _)
  · exact List.prefix_refl _
theorem bfs_pre (n : Nat) (gs : List Fn) : ∀ {j k : Nat}, j ≤ k → bfs n gs j <+: bfs n gs k
  | j, 0, h => by
    have : j = 0 := by omega
    subst this
    exact List.prefix_refl _
  | j, k + 1, h => by
    by_cases e : j = k + 1
    · subst e
      exact List.prefix_refl _
    · exact (bfs_pre n gs (by omega)).trans (bfs_step n gs k)
theorem bfs_end {n : Nat} {gs : List Fn} {k : Nat} (h : (bfs n gs k).length ≤ k) : ∀ {j : Nat}, k ≤ j → bfs n gs j = bfs n gs k
  | 0, hj => by
    have : k = 0 := by omega
    subst this
    rfl
  | j + 1, hj => by
    by_cases e : k = j + 1
    · subst e
      rfl
    · have ih := bfs_end h (j := j) (by omega)
      rw [bfs, ih, List.getElem?_eq_none (by omega)]
/-- two ends are one -/
theorem bfs_uniq {n : Nat} {gs : List Fn} {j k : Nat} (hj : (bfs n gs j).length ≤ j) (hk : (bfs n gs k).length ≤ k) : bfs n gs j = bfs n gs k := by
  rcases Nat.le_total j k with h | h
  · exact (bfs_end hj h).symm
  · exact bfs_end hk h

/-! ### keys differ, are ascending lists below n -/
structure KeysOk (n : Nat) (W : Wd) : Prop where
  nd : (keys W).Nodup
  asc : ∀ p ∈ keys W, p.Pairwise (· < ·)
  lt : ∀ p ∈ keys W, ∀ t ∈ p, t < n
theorem KeysOk.put1 {n : Nat} {W : Wd} (K : KeysOk n W) (p w : List Nat) (i : Nat) (g : Fn) : KeysOk n (put1 n W p w i g) := by
  unfold K57.put1
  split
  · exact K
  · rename_i h
    refine ⟨?_, ?_, ?_⟩
    · rw [keys_append]
      refine List.nodup_append.mpr ⟨K.nd, by simp [keys], ?_⟩
      intro a ha b hb e
      simp only [keys, List.map_cons, List.map_nil, List.mem_singleton] at hb
      subst e hb
      exact h ha
    · rw [keys_append]
      intro q hq
      rcases List.mem_append.mp hq with m | m
      · exact K.asc q m
      · simp only [keys, List.map_cons, List.map_nil, List.mem_singleton] at m
        subst m
        exact img_asc _ _ _
    · rw [keys_append]
      intro q hq
      rcases List.mem_append.mp hq with m | m
      · exact K.lt q m
      · simp only [keys, List.map_cons, List.map_nil, List.mem_singleton] at m
        subst m
        exact img_lt
theorem KeysOk.expTo {n : Nat} {W : Wd} (K : KeysOk n W) (gs : List Fn) (p w : List Nat) : ∀ i, KeysOk n (expTo n gs p w W i)
  | 0 => K
  | i + 1 => by
    rw [K57.expTo]
    split
    · exact (KeysOk.expTo K gs p w i).put1 _ _ _ _
    · exact KeysOk.expTo K gs p w i
theorem bfs_keys (n : Nat) (gs : List Fn) : ∀ k, KeysOk n (bfs n gs k)
  | 0 => ⟨by simp [keys, bfs], fun p hp => by
      simp only [keys, bfs, List.map_cons, List.map_nil, List.mem_singleton] at hp
      subst hp
      exact List.pairwise_lt_range, fun p hp t ht => by
      simp only [keys, bfs, List.map_cons, List.map_nil, List.mem_singleton] at hp
      subst hp
      exact List.mem_range.mp ht⟩
  | k + 1 => by
    rw [bfs]
    split
    · exact (bfs_keys n gs k).expTo gs _ _ _
    · exact bfs_keys n gs k

/-! ### how many: at most 2 ^ n -/
def code : List Nat → Nat
  | [] => 0
  | x :: l => 2 ^ x + code l
theorem code_lt : ∀ {n : Nat} {l : List Nat}, l.Pairwise (· < ·) → (∀ t ∈ l, t < n) → code l < 2 ^ n
  | n, [], _, _ => Nat.two_pow_pos n
  | n, x :: l, h, hl => by
    obtain ⟨h1, h2⟩ := List.pairwise_cons.mp h
    have e : ∀ t ∈ l, t < n := fun t m => hl t (List.mem_cons_of_mem _ m)
    have hx := hl x List.mem_cons_self
    -- shift: code of the rest is a multiple of 2 ^ (x + 1)
    have key : ∀ {m : Nat} {l : List Nat}, l.Pairwise (· < ·) → (∀ t ∈ l, m ≤ t ∧ t < n) → m ≤ n → code l + 2 ^ m ≤ 2 ^ n := by
      intro m l
      induction l generalizing m with
      | nil => intro _ _ hm; simp only [code, Nat.zero_add]; exact Nat.pow_le_pow_right (by decide) hm
      | cons y r ih =>
        intro hp hb hm
        obtain ⟨p1, p2⟩ := List.pairwise_cons.mp hp
        have hy := hb y List.mem_cons_self
        have := ih (m := y + 1) p2 (fun t ht => ⟨p1 t ht, (hb t (List.mem_cons_of_mem _ ht)).2⟩) hy.2
        have h3 : 2 ^ m ≤ 2 ^ y := Nat.pow_le_pow_right (by decide) hy.1
        have h4 : 2 ^ (y + 1) = 2 ^ y + 2 ^ y := by rw [Nat.pow_succ]; omega
        simp only [code]
        omega
    have := key (m := x) h (fun t ht => ⟨by
      rcases List.mem_cons.mp ht with q | q
      · omega
      · exact Nat.le_of_lt (h1 t q), hl t ht⟩) (Nat.le_of_lt hx)
    have h0 := Nat.two_pow_pos x
    omega
theorem code_pos_dvd : ∀ {m : Nat} {l : List Nat}, (∀ t ∈ l, m ≤ t) → 2 ^ m ∣ code l
  | m, [], _ => ⟨0, by simp [code]⟩
  | m, y :: r, h => by
    have h1 : 2 ^ m ∣ 2 ^ y := Nat.pow_dvd_pow 2 (h y List.mem_cons_self)
    exact Nat.dvd_add h1 (code_pos_dvd fun t ht => h t (List.mem_cons_of_mem _ ht))
theorem code_inj : ∀ {a b : List Nat}, a.Pairwise (· < ·) → b.Pairwise (· < ·) → code a = code b → a = b
  | [], [], _, _, _ => rfl
  | [], y :: r, _, _, h => by
    have := Nat.two_pow_pos y
    simp only [code] at h
    omega
  | x :: l, [], _, _, h => by
    have := Nat.two_pow_pos x
    simp only [code] at h
    omega
  | x :: l, y :: r, ha, hb, h => by
    obtain ⟨hx, ha'⟩ := List.pairwise_cons.mp ha
    obtain ⟨hy, hb'⟩ := List.pairwise_cons.mp hb
    have d1 : 2 ^ (x + 1) ∣ code l := code_pos_dvd fun t ht => hx t ht
    have d2 : 2 ^ (y + 1) ∣ code r := code_pos_dvd fun t ht => hy t ht
    simp only [code] at h
    have e : x = y := by
      rcases Nat.lt_trichotomy x y with q | q | q
      · exfalso
        have d3 : 2 ^ (x + 1) ∣ 2 ^ y + code r := Nat.dvd_add (Nat.pow_dvd_pow 2 q) (Nat.dvd_trans (Nat.pow_dvd_pow 2 (by omega)) d2)
        rw [← h] at d3
        have d4 := (Nat.dvd_add_iff_left d1).mpr d3
        have := Nat.le_of_dvd (Nat.two_pow_pos x) d4
        rw [Nat.pow_succ] at this
        have := Nat.two_pow_pos x
        omega
      · exact q
      · exfalso
        have d3 : 2 ^ (y + 1) ∣ 2 ^ x + code l := Nat.dvd_add (Nat.pow_dvd_pow 2 q) (Nat.dvd_trans (Nat.pow_dvd_pow 2 (by omega)) d1)
        rw [h] at d3
        have d4 := (Nat.dvd_add_iff_left d2).mpr d3
        have := Nat.le_of_dvd (Nat.two_pow_pos y) d4
        rw [Nat.pow_succ] at this
        have := Nat.two_pow_pos y
        omega
    subst e
    rw [code_inj ha' hb' (by omega)]
/-- different numbers below N are at most N -/
theorem pigeon : ∀ {N : Nat} {l : List Nat}, l.Nodup → (∀ t ∈ l, t < N) → l.length ≤ N
  | 0, [], _, _ => Nat.le_refl _
  | 0, x :: _, _, h => absurd (h x List.mem_cons_self) (Nat.not_lt_zero _)
  | N + 1, l, hn, h => by
    have ih := pigeon (N := N) (l := l.filter fun t => decide (t ≠ N)) (hn.filter _) fun t ht => by
      have := List.mem_filter.mp ht
      have h1 := h t this.1
      have h2 := of_decide_eq_true this.2
      omega
    have : l.length ≤ (l.filter fun t => decide (t ≠ N)).length + 1 := by
      clear ih h
      induction l with
      | nil => exact Nat.zero_le _
      | cons x r ihr =>
        obtain ⟨n1, n2⟩ := List.nodup_cons.mp hn
        by_cases e : x = N
        · subst e
          have : (r.filter fun t => decide (t ≠ x)) = r := List.filter_eq_self.mpr fun t ht => decide_eq_true fun q => n1 (q ▸ ht)
          rw [List.filter_cons_of_neg (by simp), this, List.length_cons]
          exact Nat.le_refl _
        · rw [List.filter_cons_of_pos (by simp [e]), List.length_cons, List.length_cons]
          have := ihr n2
          omega
    omega
theorem keys_few {n : Nat} {W : Wd} (K : KeysOk n W) : W.length ≤ 2 ^ n := by
  have h1 : ((keys W).map code).Nodup := by
    have : ∀ l : List (List Nat), l.Nodup → (∀ p ∈ l, p.Pairwise (· < ·)) → (l.map code).Nodup := by
      intro l
      induction l with
      | nil => intro _ _; exact .nil
      | cons x r ih =>
        intro hn ha
        obtain ⟨n1, n2⟩ := List.nodup_cons.mp hn
        rw [List.map_cons]
        refine List.nodup_cons.mpr ⟨fun m => ?_, ih n2 fun p hp => ha p (List.mem_cons_of_mem _ hp)⟩
        obtain ⟨y, hy, e⟩ := List.mem_map.mp m
        exact n1 (code_inj (ha x List.mem_cons_self) (ha y (List.mem_cons_of_mem _ hy)) e.symm ▸ hy)
    exact this _ K.nd K.asc
  have h2 := pigeon h1 (N := 2 ^ n) fun t ht => by
    obtain ⟨p, hp, rfl⟩ := List.mem_map.mp ht
    exact code_lt (K.asc p hp) (K.lt p hp)
  simpa [keys] using h2
theorem bfs_few (n : Nat) (gs : List Fn) (k : Nat) : (bfs n gs k).length ≤ 2 ^ n := keys_few (bfs_keys n gs k)
end K57
end

section
set_option Elab.async false
set_option maxRecDepth 100000
set_option maxHeartbeats 2000000
namespace K57
open PySem L2
section
variable {X : Cx} {CX : CXT} {k : Nat} {f C : Addr} {fd : FuncData} {ps : List Str} {sp : Sp} {E : XK}
theorem back_of {pins : List (Addr × Obj)} {σ : St} {Q : VK} {v : Value} {s' : Shared} (z : EP X pins σ Q v s') : PySem.W.CmpBack (EP X pins σ Q) v s' := by
  cases v with
  | notImplemented =>
    obtain ⟨x, _, _, r, _⟩ := z
    cases x <;> first | exact nomatch r | (obtain ⟨t, r⟩ := r; exact nomatch r)
  | _ => exact z
/-- a op b where both are instances of one class of the text that has the operator's method -/
def rOwn (C : Addr) (sp : Sp) (E : XK) : R2 := fun x y H Q => ∃ a b dx fs dy gs, x = .ref a ∧ y = .ref b ∧ H a = some (.ins C dx fs) ∧ H b = some (.ins C dy gs) ∧ sp [x, y] H Q E
theorem op_own {op : Operator} (F : FnOk X.prog X.w X.K X.mg X.base CX k f fd ps sp) (hr : Room k X.A) (hc : PySem.W.selfFirst X.K C = true)
    (hs : PySem.W.findIn X.K (.ref C) (PySem.dunder op.info.2) = some (some (.ref f))) (hf : PySem.W.isFn X.K (.ref f) = true) (hb : Binds X.K fd ps []) (hx : Passes CX X E) : OpR X (binaryOp op) (rOwn C sp E) := by
  intro pins s σ H x y v u Q I rx ry h
  obtain ⟨a, b, dx, fs, dy, gs, rfl, rfl, ha, hb', hq⟩ := h
  cases rx
  cases ry
  obtain ⟨mA, J, _⟩ := ins_get I.hok ha
  obtain ⟨mB, J', _⟩ := ins_get I.hok hb'
  obtain ⟨od, J, _⟩ := J.look
  obtain ⟨od', J', _⟩ := J'.look
  obtain ⟨m, hF⟩ := I.fr
  refine PySem.W.binop_K hF I.ok.mod.kin J J'.type hc hs hf ?_
  have r2 : Vals [V.ref a, V.ref b] [Value.ref a, Value.ref b] := .cons rfl (.cons rfl .nil)
  exact wpAny_mono (run_fn F hr hb .nil hx I r2 (by simpa using hq)) (fun v s' z => back_of z) fun _ _ z => z
end
section
variable {prog : Program} {w : World} {A : Around} {Ee : Value → Shared → Prop} {s : Shared} {K : PySem.W.Frag} {x C g : Addr} {ox : Obj} {od : Option Obj} {b : Value}
theorem neBind (self : Value) : bindSpecial (.builtin "object.__ne__") self = pure (.builtin "object.__ne__", [self]) := PySem.F.cmp_object.ne.bind self
/-- object.__ne__ of an instance whose class has its own == -/
theorem ne_slot {Q : Value → Shared → Prop} (hu : A.units + 1 < cLine) (KI : K.In s.heap) (I : PySem.W.InstAt s.heap x ox C od) (hm : PySem.W.mroIn K C (.type "object") = some true)
    (he : PySem.W.findIn K (.ref C) "__eq__" = some (some (.ref g))) (hf : PySem.W.isFn K (.ref g) = true)
    (h : wpAny (model prog w) A.in1 (call (.ref g) [.ref x, b]) (fun v s' => ∃ r, v = .bool r ∧ Q (.bool (!r)) s') Ee s) :
    wpAny (model prog w) A (call (.builtin "object.__ne__") [.ref x, b]) Q Ee s := by
  have sub : PySem.W.Looks (model prog w) s.heap (isInstance (.ref x) (.type "object")) true := I.type.andThen (PySem.W.looks_mroIn KI hm)
  refine wpAny_call (codeAny_call_builtin PySem.F.cmp_object.ne.plain PySem.F.cmpEntry_ne (@PySem.W.check_slot (model prog w) _ _ s "object.__ne__" "object" "__ne__" (.ref x) [b] _ _ PySem.F.cmpKind_ne PySem.F.cmpSplit_ne sub (PySem.F.cmpArgs_ne _ _) ?_))
  show wpAny (model prog w) A.in1 (Builtin.«object.__ne__» ⟨[.ref x, b], []⟩) _ _ s
  unfold Builtin.«object.__ne__»
  have hu' : A.in1.units < cLine := hu
  repeat (first | with_reducible refine wpAny_cRoomFor hu' ?_ | with_reducible refine PySem.W.ifBound_K KI I he hf (wpAny_mono h (fun v s' z => ?_) fun _ _ z => z) | wp_step)
  obtain ⟨r, rfl, q⟩ := z
  exact wpAny_bind (wpAny_pure (wpAny_pure q))
/-- a != b of an instance whose class has its own == and no != -/
theorem ne_own {Q : Value → Shared → Prop} (hu : A.units + 1 < cLine) (KI : K.In s.heap) (I : PySem.W.InstAt s.heap x ox C od)
    (hb : PySem.W.Looks (model prog w) s.heap (typeOf b) (.ref C)) (hm : PySem.W.mroIn K C (.type "object") = some true) (hne : PySem.W.findIn K (.ref C) "__ne__" = some (some (.builtin "object.__ne__")))
    (he : PySem.W.findIn K (.ref C) "__eq__" = some (some (.ref g))) (hf : PySem.W.isFn K (.ref g) = true)
    (h : wpAny (model prog w) A.in1 (call (.ref g) [.ref x, b]) (fun v s' => ∃ r, v = .bool r ∧ Q (.bool (!r)) s') Ee s) :
    wpAny (model prog w) A (richCompare .NotEq (.ref x) b) Q Ee s := by
  have hu0 : A.units < cLine := Nat.lt_of_succ_lt hu
  have one : wpAny (model prog w) A (tryCompare (.ref x) "__ne__" b) (fun r s' => ∃ v, r = some (.bool v) ∧ Q (.bool v) s') Ee s := by
    unfold tryCompare
    refine wpAny_bind ?_
    simp only [callSpecialIfBound?, bindSpecialIfBound?]
    refine wpAny_holding (wpAny_bind (wpAny_bind (wpAny_bind (I.type.here ((PySem.W.looks_findIn KI hne).here ?_)))))
    simp only [neBind]
    refine wpAny_bind (wpAny_askSetting (wpAny_ite ?_))
    have fin : wpAny (model prog w) A (call (.builtin "object.__ne__") ([.ref x] ++ [b]) >>= fun v => pure (some v)) (fun a s' => wpAny (model prog w) A (match a with
      | some .notImplemented | none => pure none
      | some v => pure (some v)) (fun r s' => ∃ v, r = some (.bool v) ∧ Q (.bool v) s') Ee s') Ee s :=
      wpAny_bind (wpAny_mono (ne_slot (Q := fun v s' => ∃ u, v = Value.bool u ∧ Q (.bool u) s') hu KI I hm he hf (wpAny_mono h (fun v s' z => by
        obtain ⟨r, e, q⟩ := z
        exact ⟨r, e, ⟨!r, rfl, q⟩⟩) fun _ _ z => z)) (fun v s' z => by
        obtain ⟨u, rfl, q⟩ := z
        exact wpAny_pure (wpAny_pure ⟨_, rfl, q⟩)) fun _ _ z => z)
    split
    · exact wpAny_bind (wpAny_pure (wpAny_pure (by exact fin)))
    · exact wpAny_tryCatch (wpAny_bind (wpAny_pure (wpAny_pure (by exact fin))))
  unfold richCompare
  simp only [oneThing_ref]
  refine wpAny_holding (wpAny_bind (wpAny_cRoomFor hu0 ?_))
  refine wpAny_bind (I.type.here (wpAny_bind (hb.here ?_)))
  split
  · rename_i q
    exact absurd q (by simp)
  · refine wpAny_bind (wpAny_pure ?_)
    simp only [Bool.false_eq_true, if_false]
    refine wpAny_bind (wpAny_mono one (fun r s' z => ?_) fun _ _ e => e)
    obtain ⟨v, rfl, hq⟩ := z
    exact wpAny_pure hq
end
section
variable {X : Cx} {CX : CXT} {k : Nat} {f C : Addr} {fd : FuncData} {ps : List Str} {sp : Sp} {E : XK}
/-- a def is run one unit further in -/
theorem run_in1 {pins : List (Addr × Obj)} {σ : St} {H : Hp} {s : Shared} {Q : VK} {us : List Value} {vs : List V} (F : FnOk X.prog X.w X.K X.mg X.base CX k f fd ps sp) (hr : Room (k + 1) X.A) (hb : Binds X.K fd ps []) (hx : Passes CX X E)
    (I : Inv X pins σ H s) (r : Vals vs us) (h : sp vs H Q E) : wpAny (model X.prog X.w) X.A.in1 (call (.ref f) us) (EP X pins σ Q) X.xe s := by
  have hl := F.len _ _ _ _ h
  have e0 := I.env0.in1
  have hl2 : us.length = ps.length := by rw [← r.length, hl]
  refine wpAny_call (codeAny_mono (F.run X.A.in1 X.stack s H ⟨us, []⟩ us vs Q E hr.in1 e0 (by
    have := hb s us I.kIn (by simpa using hl2)
    simpa using this) r h) fun rr s' hq => ?_)
  cases rr with
  | error e => exact hx pins σ H s e s' I hq
  | ok fl =>
    cases fl with
    | ret u => exact I.after hq
    | _ => exact hq.elim
def rNeOwn (C : Addr) (sp : Sp) (E : XK) : R2 := fun x y H Q => ∃ a b dx fs dy gs, x = .ref a ∧ y = .ref b ∧ H a = some (.ins C dx fs) ∧ H b = some (.ins C dy gs) ∧ sp [x, y] H (fun v H' => ∃ r, v = .bl r ∧ Q (.bl (!r)) H') E
/-- a != b where the class has its own == -/
theorem op_neOwn (F : FnOk X.prog X.w X.K X.mg X.base CX k f fd ps sp) (hr : Room (k + 1) X.A) (hm : PySem.W.mroIn X.K C (.type "object") = some true) (hne : PySem.W.findIn X.K (.ref C) "__ne__" = some (some (.builtin "object.__ne__")))
    (he : PySem.W.findIn X.K (.ref C) "__eq__" = some (some (.ref f))) (hf : PySem.W.isFn X.K (.ref f) = true) (hb : Binds X.K fd ps []) (hx : Passes CX X E) : OpR X (compareOp .NotEq) (rNeOwn C sp E) := by
  intro pins s σ H x y v u Q I rx ry h
  obtain ⟨a, b, dx, fs, dy, gs, rfl, rfl, ha, hb', hq⟩ := h
  cases rx
  cases ry
  obtain ⟨mA, J, _⟩ := ins_get I.hok ha
  obtain ⟨mB, J', _⟩ := ins_get I.hok hb'
  obtain ⟨od, J, _⟩ := J.look
  obtain ⟨od', J', _⟩ := J'.look
  have r2 : Vals [V.ref a, V.ref b] [Value.ref a, Value.ref b] := .cons rfl (.cons rfl .nil)
  have hu := hr.units
  refine ne_own (by omega) I.kIn J J'.type hm hne he hf (wpAny_mono (run_in1 F hr hb hx I r2 hq) (fun v s' z => ?_) fun _ _ z => z)
  obtain ⟨w, H', I', r, t, rfl, q⟩ := z
  cases r
  exact ⟨t, rfl, .bl (!t), H', I', rfl, q⟩
end
end K57
end

section
set_option Elab.async false
set_option maxRecDepth 100000
set_option maxHeartbeats 2000000
namespace K57
open PySem L2
/-! dict | dict -/
section
variable {prog : Program} {w : World} {κ : Type} [DecidableEq κ] {knd : PySem.KeyKind prog w κ} {A : Around} {E : Value → Shared → Prop} {s : Shared} {a b : Addr} {ks ls : List (κ × Value)}
theorem dict_or {Q : Value → Shared → Prop} (ha : s.heap.DictOf knd a ks) (hb : s.heap.DictOf knd b ls) (na : (a == sysModules) = false) (nb : (b == sysModules) = false) (hz : ks.length + ls.length ≤ sizeLine)
    (h : ∀ h', h'.DictOf knd s.heap.objs.size (merged ks ls) → (∀ c o, s.heap.get? c = some o → h'.get? c = some o) → Q (.ref s.heap.objs.size) { s with heap := h' }) :
    wpAny (model prog w) A (binaryOp .BitOr (.ref a) (.ref b)) Q E s := by
  obtain ⟨o, es, ep, ho, hc, hdat, hk, hp, hn⟩ := id ha
  have hes : es.size ≤ sizeLine + 1 := by
    have e1 := hp.length
    have e2 : es.toList.length = es.size := by simp
    omega
  refine wpAny_binaryOp_same ha.typeIs hb.typeIs PySem.F.fills_dict_or PySem.F.slot_dict_or (wpAny_call_entry PySem.F.slot_dict_or ha.typeIs PySem.F.entry_dict_or ?_ (PySem.F.args_dict_or_2 _ _))
  unfold Builtin.«dict.__or__»
  refine wpAny_bind ?_
  unfold Builtin.Dict.dictSlotArgs
  refine wpAny_bind (wpAny_notOrdered_dict ha.typeIs ?_)
  refine wpAny_bind (wpAny_pure (wpAny_pure ?_))
  have isA : ∀ (Q' : Bool → Shared → Prop), Q' true s → wpAny (model prog w) A.in1 (isInstance (.ref a) (.type "dict")) Q' E s := fun Q' q => wpAny_isInstance ha.typeIs isSubtype_dict_dict q
  have isB : ∀ (Q' : Bool → Shared → Prop), Q' true s → wpAny (model prog w) A.in1 (isInstance (.ref b) (.type "dict")) Q' E s := fun Q' q => wpAny_isInstance hb.typeIs isSubtype_dict_dict q
  have both : wpAny (model prog w) A.in1 (isInstance (.ref a) (.type "dict") <&&> isInstance (.ref b) (.type "dict")) (fun r s' => r = true ∧ s' = s) E s := wpAny_bind (isA _ (isB _ ⟨rfl, rfl⟩))
  refine wpAny_bind (wpAny_mono both (fun r s' z => ?_) fun _ _ z => z)
  obtain ⟨rfl, rfl⟩ := z
  simp only [Bool.not_true, Bool.false_eq_true, if_false]
  have hlt : b < s'.heap.objs.size := by
    obtain ⟨o', _, _, ho', _⟩ := hb
    exact Heap.lt_size ho'
  have fin : ∀ es' : Array DictEntry, es' = es → wpAny (model prog w) A.in1 (do
      let d ← Builtin.Dict.addrOf (.ref s'.heap.objs.size)
      holding [.ref s'.heap.objs.size] (Builtin.Dict.updateFrom "dict.__or__" d (.ref b) [] (.ref s'.heap.objs.size)))
      (fun fin s1 => ∃ v, fin = Fin.done (Flow.ret v) ∧ v ≠ Value.notImplemented ∧ Q v s1) E { s' with heap := s'.heap.push { cls := .type "dict", data := .dict es' } } := by
    rintro es' rfl
    have new : (s'.heap.push { cls := .type "dict", data := .dict es' }).DictOf knd s'.heap.objs.size ks := ⟨_, es', 0, Heap.get?_push_size _ rfl, ⟨rfl, rfl, rfl⟩, rfl, hk, hp, hn⟩
    have hb' := hb.push { cls := .type "dict", data := .dict es' }
    refine wpAny_bind (wpAny_pure ?_)
    unfold Builtin.Dict.updateFrom
    refine wpAny_holding (wpAny_bind (wpAny_typeOf hb'.typeIs ?_))
    rw [if_neg (by decide)]
    refine wpAny_bind ?_
    unfold Builtin.Dict.merge
    refine wpAny_bind ?_
    unfold Builtin.Dict.readDirectly
    refine wpAny_bind (wpAny_isInstance hb'.typeIs isSubtype_dict_dict ?_)
    simp only [Bool.not_true, Bool.false_eq_true, if_false]
    refine wpAny_bind (wpAny_specialOf hb'.typeIs PySem.F.slot_dict_iter.lookup (wpAny_pure ?_))
    simp only [beq_self_eq_true, if_true]
    refine wpAny_bind (wpAny_pure ?_)
    refine wpAny_mergeDict (hsz := hz) (Ne.symm (Nat.ne_of_lt hlt)) nb new hb' fun h' hd' _ hs' => ?_
    show wpAny _ _ (Builtin.Dict.addKeywords s'.heap.objs.size [] >>= _) _ _ _
    refine wpAny_bind (wpAny_pure (wpAny_pure ⟨_, rfl, nofun, h h' hd' fun c q hq => ?_⟩))
    exact (hs'.2 c (Nat.ne_of_lt (Heap.lt_size hq))).trans (Heap.get?_push_of_some _ hq)
  refine wpAny_bind ?_
  unfold Builtin.Dict.copyOf
  refine wpAny_bind (wpAny_pure ?_)
  unfold Builtin.Dict.showsAll
  rw [if_neg (by rw [na]; exact Bool.false_ne_true)]
  refine wpAny_bind (wpAny_pure (wpAny_bind (wpAny_dictEntries ho hdat ?_)))
  by_cases hemp : es.isEmpty = true
  · rw [if_pos hemp]
    exact wpAny_bind (wpAny_rule (wpAny_newObj_type (fin #[] (Array.isEmpty_iff.mp hemp).symm)))
  · rw [if_neg hemp]
    refine wpAny_bind ?_
    unfold Builtin.Dict.readDirectly
    refine wpAny_bind (wpAny_isInstance ha.typeIs isSubtype_dict_dict ?_)
    simp only [Bool.not_true, Bool.false_eq_true, if_false]
    refine wpAny_bind (wpAny_specialOf ha.typeIs PySem.F.slot_dict_iter.lookup (wpAny_pure ?_))
    simp only [beq_self_eq_true, if_true]
    exact wpAny_bind (wpAny_entriesForEmpty (knd := knd) ho hdat hk (wpAny_newObj_type (fin es rfl) hes))
end
section
variable {X : Cx}
def rOr : R2 := fun x y H Q => ∃ a b ks ls, x = .ref a ∧ y = .ref b ∧ H a = some (.dK ks) ∧ H b = some (.dK ls) ∧ ks.length + ls.length ≤ sizeLine ∧ ∀ p, H p = none → Q (.ref p) (upd H p (.dK (mergeK ks ls)))
theorem op_or : OpR X (binaryOp .BitOr) rOr := by
  intro pins s σ H x y v u Q I rx ry h
  obtain ⟨a, b, ks, ls, rfl, rfl, ha, hb, hz, q⟩ := h
  cases rx
  cases ry
  obtain ⟨z1, n1, vs1, r1, d1⟩ := dk_of I.hok ha
  obtain ⟨z2, n2, vs2, r2, d2⟩ := dk_of I.hok hb
  refine dict_or d1 d2 n1 n2 (by rw [← r1.length, ← r2.length]; exact hz) fun h' dd hs => ?_
  have hl := length_mergeK ls ks
  refine ⟨.ref _, _, I.laid (a := s.heap.objs.size) (o := .dK (mergeK ks ls)) (t' := s.toks) hs (Nat.le_refl _) (dk_new (by omega) (beq_eq_false_iff_ne.mpr (Ne.symm (Nat.ne_of_lt I.big))) (KV.merge r2 r1) dd), rfl, q _ (I.hok.fresh (Nat.le_refl _))⟩
end
end K57
end

section
set_option Elab.async false
set_option maxRecDepth 100000
set_option maxHeartbeats 2000000
namespace K57
open PySem L2
/-! dicts whose keys are tuples: stored by a comprehension, displayed, made of a list of pairs -/
section
variable {X : Cx} {pins : List (Addr × Obj)} {σ : St} {H : Hp} {s : Shared}
/-- a store into such a dict, inside a comprehension -/
theorem setT {E : Value → Shared → Prop} {D b : Addr} {kvs : List (List Key × V)} {ks : List Key} {v : V} {u r : Value} {Q : Unit → Shared → Prop} (hu : X.A.units < cLine) (I : Inv X pins σ H s) (hD : H D = some (.dT kvs)) (hb : H b = some (.tup (ks.map kV)))
    (hz : kvs.length < sizeLine) (ry : RelV (.ref b) u) (rv : RelV v r) (h : ∀ s', Inv X pins σ (upd H D (.dT (putK kvs ks v))) s' → Q () s') : wpAny (model X.prog X.w) X.A (dictSet D u r) Q E s := by
  cases ry
  obtain ⟨z, hd, xs, rel, dd⟩ := dt_of I.hok hD
  have hzv : xs.length ≤ sizeLine := by
    rw [← Paired.length rel]
    exact z
  have hl : (putK kvs ks v).length ≤ sizeLine := by
    have := length_putK kvs ks v
    omega
  refine wpAny_dictSet_heap (knd := tupleKind (mixKind X.prog X.w)) (hsz := hzv) hu (key_of I.hok hb) dd fun h' dd' hs => h _ ?_
  obtain ⟨q, es, ep, hq, h2, h3, h4, _, h5⟩ := dd'
  refine d_write I (by rw [hD]; exact True.intro) hs ⟨q, hq⟩ ⟨hl, hd, _, (KT.put rel ks hb rv).keeps fun c ys ec => ?_, q, es, ep, hq, h2, h3, h4, h5⟩
  rw [upd_ne (ne_of ec hD nofun)]
  exact ec
/-- {k: v}, k a tuple -/
def tDisp1T (tk tv : TE) : TE := fun σ H Q => ∀ p, H p = none → tk σ (upd H p (.dT [])) fun x H1 => tv σ H1 fun y H2 => H2 p = some (.dT []) ∧ ∃ b ks, x = .ref b ∧ H2 b = some (.tup (ks.map kV)) ∧ Q (.ref p) (upd H2 p (.dT [(ks, y)]))
theorem pe_disp1T {pos : Pos} {k v : Expr} {tk tv : TE} (hu : X.A.units < cLine) (hk : PE X k tk) (hv : PE X v tv) : PE X (.Dict [some k] [v] pos) (tDisp1T tk tv) := by
  refine ⟨fun pins s σ H Q I q => ?_⟩
  have hn := I.hok.fresh (Nat.le_refl s.heap.objs.size)
  have I1 := I.laid (a := s.heap.objs.size) (o := .dT []) (h' := s.heap.push { cls := .type "dict", data := .dict #[] }) (t' := s.toks) (fun _ _ q => Heap.get?_push_of_some _ q) (Nat.le_refl _) (dt_empty s.heap I.big)
  have P := pps_cons (pos := pos) hk hv (pps_nil (X := X) (pos := pos))
  rw [arm_eval_Dict, show ((evalEachOpt [some k] X.env).zip ((evalEach [v] X.env).map fun v => do let x ← v; standAt pos; pure x)) = (pairTrees [some k] [v] X.env pos).map fun p => (some p.1, p.2) from rfl, dictDisplay_pairs _ (by exact List.cons_ne_nil _ _) (by show 1 < 17; decide)]
  refine wpAny_bind (wpAny_standAt (wpAny_bind (wpAny_subDictH (knd := tupleKind (mixKind X.prog X.w)) (Q := fun d s' => wpAny (model X.prog X.w) X.A (pure (Value.ref d)) (EP X pins σ Q) X.xe s') hu (by show 1 ≤ 15; decide) ?_)))
  refine thn (P.run pins _ σ _ (fun ps H2 => match ps with
    | [(x, y)] => H2 s.heap.objs.size = some (.dT []) ∧ ∃ b ks, x = .ref b ∧ H2 b = some (.tup (ks.map kV)) ∧ Q (.ref s.heap.objs.size) (upd H2 s.heap.objs.size (.dT [(ks, y)]))
    | _ => False) I1 (q _ hn)) fun ws s2 hw => ?_
  obtain ⟨ps, H2, I2, rel, hp⟩ := hw
  match ps, ws, rel, hp with
  | [(x, y)], _, .cons (b := (u1, u2)) ⟨r1, r2⟩ .nil, ⟨e, b, ks, hx, hb, q2⟩ =>
    subst hx
    cases r1
    obtain ⟨z, hd, xs0, r0, dd⟩ := dt_of I2.hok e
    cases r0
    refine ⟨[(ks, b, u2)], ⟨rfl, rfl, key_of I2.hok hb, trivial⟩, dd, fun h' tk dd' hs => wpAny_pure ⟨.ref s.heap.objs.size, _, ?_, rfl, q2⟩⟩
    obtain ⟨o, es, ep, hq, h2, h3, h4, _, h5⟩ := dd'
    refine d_write I2 (by rw [e]; exact True.intro) hs ⟨o, hq⟩ ⟨by show 1 ≤ sizeLine; decide, hd, [(ks, b, u2)], .cons ⟨rfl, ?_, r2⟩ .nil, o, es, ep, hq, h2, h3, h4, h5⟩
    rw [upd_ne (ne_of hb e nofun)]
    exact hb
/-- dict(l), l a list of one pair whose key is a tuple -/
theorem call_dict1T (hc : X.calm = true) (hu : X.A.units + 2 < cLine) : CallR X (.type "dict") (fun xs H Q => ∃ (l t b : Addr) (ks : List Key) (v : V), xs = [.ref l] ∧ SqL X.K H l [.ref t] ∧ SqT X.K H t [.ref b, v] ∧ H b = some (.tup (ks.map kV)) ∧
    ∀ p, H p = none → Q (.ref p) (upd H p (.dT [(ks, v)]))) := by
  intro pins s σ H xs us Q I r q
  obtain ⟨l, t, b, ks, v, rfl, hl, ht, hb, q⟩ := q
  obtain ⟨u, rfl, rx⟩ := vals1 r
  cases rx
  obtain ⟨its, rv, ⟨o, n, ho, hcl, hd, hdat⟩, hz⟩ := I.list hl
  obtain ⟨its2, rv2, ⟨o2, ho2, hc2, n2, hd2⟩, hz2⟩ := I.tuple ht
  obtain ⟨w1, rfl, r1⟩ := vals1 rv
  cases r1
  obtain ⟨w2, w3, rfl, r2, r3⟩ := vals2 rv2
  cases r2
  have hkey : (tupleKind (mixKind X.prog X.w)).is s.heap ks b := key_of I.hok hb
  have P := PairArg.list (prog := X.prog) (w := X.w) l #[.ref t] (fun _ => t) [(.ref b, w3)]
  have ok : PlainSeq "list" s.heap l #[.ref t] ∧ PairItems s.heap #[.ref t] (fun _ => t) [(.ref b, w3)] := by
    refine ⟨⟨o, n, ho, hcl, hd, hdat⟩, rfl, fun j k' v' hj => ?_⟩
    have j0 : j = 0 := by
      have := (List.getElem?_eq_some_iff.mp hj).1
      simpa using this
    subst j0
    cases hj
    exact ⟨rfl, .inl ⟨o2, ho2, hc2, n2, hd2⟩⟩
  have hst : KeysStay (tupleKind (mixKind X.prog X.w)) s.heap s.heap.objs.size [] [(ks, b, w3)] := by
    intro h' hk x hx
    rw [List.mem_singleton.mp hx]
    obtain ⟨ob, itb, nb, e1, e2, e3, e4⟩ := hkey
    exact ⟨ob, itb, nb, hk b ob (Nat.ne_of_lt (Heap.lt_size e1)) (by simp) e1, e2, e3, e4⟩
  refine call_dict_pairsH (knd := tupleKind (mixKind X.prog X.w)) (ps := [(ks, b, w3)]) P (I.ok.hd hc) (by show X.A.units + 1 + 1 < cLine; omega) ok ⟨rfl, fun i key v' hr => ?_⟩ hst (by show 1 ≤ sizeLine; decide) fun h' tk dd hs => ?_
  · have i0 : i = 0 := by
      have := (List.getElem?_eq_some_iff.mp hr).1
      simpa using this
    subst i0
    cases hr
    exact ⟨ks, b, rfl, rfl⟩
  · obtain ⟨o', es, ep, hq, h2, h3, h4, _, h5⟩ := dd
    have hn := I.hok.fresh (Nat.le_refl s.heap.objs.size)
    refine ⟨.ref s.heap.objs.size, _, I.laid (a := s.heap.objs.size) (o := .dT [(ks, v)]) (t' := tk) (fun c oc e => hs c oc (by simp) e) (Nat.le_refl _) ?_, rfl, q _ hn⟩
    refine ⟨by show 1 ≤ sizeLine; decide, beq_eq_false_iff_ne.mpr (Ne.symm (Nat.ne_of_lt I.big)), [(ks, b, w3)], .cons ⟨rfl, ?_, r3⟩ .nil, o', es, ep, hq, h2, h3, h4, h5⟩
    rw [upd_ne (ne_of_none hb hn)]
    exact hb
end
end K57
end

section
set_option Elab.async false
set_option maxRecDepth 100000
set_option maxHeartbeats 4000000
namespace K57
open PySem L2
/-! {k: v for .. in ..} where the keys are tuples -/
section
variable {X : Cx}
/-- what a turn is to do -/
def TurnT (g : TG) (tt : TT) (tk tv : TE) (vs : List Nat) (σ : St) (D : Addr) (J : It) (i : Nat) (H : Hp) (Nx : Hp → Prop) : Prop :=
  ∀ x H', J.yld i H x H' → g x (wipe σ vs) H' fun σ2 H2 => wipe σ2 vs = wipe σ vs ∧ tt σ2 H2 fun b H3 =>
    if b = true then tk σ2 H3 fun y H4 => tv σ2 H4 fun z H5 => ∃ kvs q ks, y = .ref q ∧ H5 D = some (.dT kvs) ∧ H5 q = some (.tup (ks.map kV)) ∧ kvs.length < sizeLine ∧ Nx (upd H5 D (.dT (putK kvs ks z))) else Nx H3
def tDcT (wi : TI) (g : TG) (tt : TT) (tk tv : TE) (vs : List Nat) : TE := fun σ H Q => wi σ H fun J H1 => ∀ D, H1 D = none → ∃ W : Nat → Nat → Hp → Prop, (∃ m, W 0 m (upd H1 D (.dT []))) ∧ ∀ i m H, W i m H →
  (J.stop i H ∧ Q (.ref D) H) ∨ (J.go i H ∧ ∃ Nx : Hp → Prop, (∀ H', Nx H' → ∃ m', m' < m ∧ W (i + 1) m' H') ∧ TurnT g tt tk tv vs σ D J i H Nx)
variable {kx vx tg iter : Expr} {ifs : List Expr} {scope : Scope} {own : List (Str × Nat)} {pos : Pos} {wi : TI} {g : TG} {tt : TT} {tk tv : TE}
theorem pe_dcT (hu : X.A.units < cLine) (hc : X.calm = true) (hN : X.N.Nodup) (hi : PI X tg iter wi) (ok : BlkOk X.N X.env.scope scope own)
    (hg : ∀ s H C cl fp, PG (X.blk s H scope (compEnvC scope cl C X.env) fp) tg g) (ht : ∀ s H C cl fp, PTs (X.blk s H scope (compEnvC scope cl C X.env) fp) ifs tt)
    (hk : ∀ s H C cl fp, PE (X.blk s H scope (compEnvC scope cl C X.env) fp) kx tk) (he : ∀ s H C cl fp, PE (X.blk s H scope (compEnvC scope cl C X.env) fp) vx tv)
    (hs : ∀ x, foldedSetIterable iter X.env x = pure x := by intro _; rfl) : PE X (.DictComp kx vx [⟨tg, iter, ifs, 0⟩] scope pos) (tDcT wi g tt tk tv (own.map (·.2))) := by
  refine ⟨fun pins s σ H Q I h => ?_⟩
  rw [arm_eval_DictComp]
  have hfree : ∀ y ∈ scope.names, y.2 = .free → ∃ c, X.env.cells.lookup y.1 = some c := fun y hy e => I.ok.has _ (ok.free y hy e)
  refine wpAny_comprehension_free (use := none) rfl hs (closure_ok hfree) ok.kind (fun y hy e => by rw [ok.uniq y hy, e]) (thn (hi.run pins s σ H _ I h) fun xv s1 hx => thn hx fun itv s2 h2 => ?_)
  obtain ⟨it, fp, tn, J, H2, rfl, I2, T, st2, f2, q⟩ := h2
  refine wpAny_newObj_type (newEnv_comp ?_)
  generalize hD : s2.heap.objs.size = D
  have hDn : H2 D = none := I2.hok.fresh (Nat.le_of_eq hD)
  obtain ⟨W, ⟨m0, w0⟩, turn⟩ := q D hDn
  generalize hs3 : ({ s2 with heap := s2.heap.push { cls := .type "dict", data := .dict #[] } } : Shared) = s3
  have I3 : Inv X pins σ (upd H2 D (.dT [])) s3 := by
    subst hs3 hD
    exact I2.laid (t' := s2.toks) (fun b o e => Heap.get?_push_of_some _ e) (Nat.le_refl _) (dt_empty s2.heap I2.big)
  have h3 : s3.heap = s2.heap.push { cls := .type "dict", data := .dict #[] } := by
    rw [← hs3]
  have f3 : ∀ b ∈ fp, FpOk X pins (upd H2 D (.dT [])) b ∧ b < s3.heap.objs.size := fun b hb => by
    obtain ⟨o, eo, _⟩ := T.obj _ _ st2 b hb
    have hlt := Heap.lt_size eo
    refine ⟨⟨?_, (f2 b hb).2⟩, by rw [h3, Heap.size_push]; exact Nat.lt_succ_of_lt hlt⟩
    rw [upd_ne (by rw [← hD]; exact Nat.ne_of_lt hlt)]
    exact (f2 b hb).1
  have st3 : tn 0 s3.heap := T.keep _ _ _ st2 fun b _ o e => by
    rw [h3]
    exact Heap.get?_push_of_some _ e
  have I4 := block_start I3 ok hN f3
  show codeAny _ _ (.compStart (.DictComp kx vx [⟨tg, iter, ifs, 0⟩] scope pos) 0 (.ref it) (.ref D) (compEnvC scope (cellsFrom (s3.heap.objs.size + 1) scope.names (cloFrom X.env.cells scope.names [])) s3.heap.objs.size X.env))
    (compPost (model X.prog X.w) X.A X.xe none (EP X pins σ Q) (.ref D) s3.heap.objs.size) { s3 with heap := pushCells (s3.heap.push { cls := .type "dict", data := .dict #[] }) scope.names }
  generalize hcl : cellsFrom (s3.heap.objs.size + 1) scope.names (cloFrom X.env.cells scope.names []) = cl at I4 ⊢
  generalize hce : compEnvC scope cl s3.heap.objs.size X.env = ce at I4 ⊢
  generalize hH3 : upd H2 D (.dT []) = H3 at I3 I4 w0 f3
  have pg := hg s3 H3 s3.heap.objs.size cl fp
  have pt := ht s3 H3 s3.heap.objs.size cl fp
  have pk := hk s3 H3 s3.heap.objs.size cl fp
  have pe := he s3 H3 s3.heap.objs.size cl fp
  rw [hce] at pg pt pk pe
  have cL : ce.locals = s3.heap.objs.size := by
    subst hce
    rfl
  generalize hs4 : ({ s3 with heap := pushCells (s3.heap.push { cls := .type "dict", data := .dict #[] }) scope.names } : Shared) = s4 at I4 ⊢
  have st4 : tn 0 s4.heap := T.keep _ _ _ st3 fun b _ o e => by
    rw [← hs4]
    exact pushCells_keeps _ _ _ _ (Heap.get?_push_of_some _ e)
  have stat : ∀ {σ' : St} {H' : Hp} {s' : Shared}, Inv (X.blk s3 H3 scope ce fp) [] σ' H' s' → (∀ b ∈ fp, H' b = none) → ∀ b ∈ fp, FpOk (X.blk s3 H3 scope ce fp) [] H' b := fun {_ _ _} I' hn b hb =>
    ⟨hn b hb, (I'.ok.exf b hb).1, I'.ok.exfs b hb, .inl hb, fun x c e => (I'.ok.exf b hb).2 x c e, fun p hp => by simp at hp⟩
  have loop : codeAny (model X.prog X.w) X.A (.compLoop (.DictComp kx vx [⟨tg, iter, ifs, 0⟩] scope pos) 0 (.ref it) (.ref D) ce) (compPost (model X.prog X.w) X.A X.xe none (EP X pins σ Q) (.ref D) s3.heap.objs.size) s4 := by
    refine compLoop_anyD (fun n s' => ∃ i H', Inv (X.blk s3 H3 scope ce fp) [] (wipe σ (own.map (·.2))) H' s' ∧ tn i s'.heap ∧ (∀ b ∈ fp, H' b = none) ∧ W i n H') ?_ m0 ⟨0, H3, I4, st4, fun b hb => (f3 b hb).1.1, w0⟩
    rintro n s5 ⟨i, H5, I5, st5, n5, w5⟩
    rcases turn i n H5 w5 with ⟨stop, qq⟩ | ⟨go, Nx, hNx, step⟩
    · refine thnF (T.done (X.blk s3 H3 scope ce fp) rfl rfl rfl hc i [] s5 _ H5 (fun _ _ => False) I5 (stat I5 n5) st5 stop) fun r s6 hr => ?_
      obtain ⟨rfl, I6⟩ := hr
      have I7 : Inv X pins σ H5 s6 := I3.call' (ch := fp) I6.os I6.base I6.hok I6.bare fun b hb => ⟨(f3 b hb).1.2.2.2.1, (f3 b hb).1.2.1, (f3 b hb).1.2.2.2.2.1, (f3 b hb).1.2.2.2.2.2⟩
      have nC : H5 s3.heap.objs.size = none := cL ▸ (I6.free : H5 ce.locals = none)
      obtain ⟨m, hn, _⟩ := I6.loc
      have hn : s6.heap.Ns s3.heap.objs.size m := cL ▸ (hn : s6.heap.Ns ce.locals m)
      obtain ⟨f0, f1, _, f4, f5, f6⟩ := I3.fpOk (Nat.le_refl _) nC
      exact ⟨m, hn, fun h'' sb => ⟨.ref D, H5, I7.turned (t' := s6.toks) (fun b o hb e => (sb.2 b hb).trans e) f0 f1 f4 f5 f6, rfl, qq⟩⟩
    · refine thnF (T.item (X.blk s3 H3 scope ce fp) rfl rfl rfl hc i [] s5 _ H5 (fun _ _ => False) I5 (stat I5 n5) st5 go) fun r s6 hr => ?_
      obtain ⟨u, rfl, h6⟩ := hr
      refine thnF h6 fun _ s7 h7 => ?_
      obtain ⟨x, H7, I7, r7, y7, st7, n7⟩ := h7
      refine thnF (pg.run _ s7 _ H7 x u _ (I7.pinned (stat I7 n7) (T.obj _ _ st7)) r7 (step x H7 y7)) fun _ s8 h8 => ?_
      obtain ⟨σ8, H8, I8, hw8, q8⟩ := h8
      refine thnF (pt.run _ s8 σ8 H8 _ I8 q8) fun b s9 h9 => ?_
      obtain ⟨H9, I9, q9⟩ := h9
      have fin : ∀ {s' : Shared} {H' : Hp}, Inv (X.blk s3 H3 scope ce fp) ([] ++ pinsAt fp s7.heap) σ8 H' s' → Nx H' → ∃ m, m < n ∧ ∃ i H', Inv (X.blk s3 H3 scope ce fp) [] (wipe σ (own.map (·.2))) H' s' ∧ tn i s'.heap ∧ (∀ b ∈ fp, H' b = none) ∧ W i m H' := by
        intro s' H' I' nx
        obtain ⟨m', hm, w'⟩ := hNx H' nx
        have pin' : ∀ b ∈ fp, ∀ o, s7.heap.get? b = some o → s'.heap.get? b = some o ∧ H' b = none := fun b hb o e =>
          let z := I'.pin (b, o) (List.mem_append_right _ (List.mem_append_right _ (mem_pinsAt hb e)))
          ⟨z.1, z.2.1⟩
        refine ⟨m', hm, i + 1, H', (I'.unpinned (pins := [])).weak (by rw [← hw8, wipe_length]) (fun j v e => (wipe_some (hw8 ▸ e)).1), T.keep _ _ _ st7 fun b hb o e => (pin' b hb o e).1, fun b hb => ?_, w'⟩
        obtain ⟨o, e, _⟩ := T.obj _ _ st7 b hb
        exact (pin' b hb o e).2
      cases b with
      | false =>
        simp only [Bool.false_eq_true, if_false] at q9 ⊢
        exact fin I9 q9
      | true =>
        simp only [if_true] at q9 ⊢
        refine thnF (pk.run _ s9 σ8 H9 _ I9 q9) fun z s10 h10 => ?_
        obtain ⟨yk, H10, I10, r10, q10⟩ := h10
        refine thnF (pe.run _ s10 σ8 H10 _ I10 q10) fun z2 s11 h11 => ?_
        obtain ⟨yv, H11, I11, r11, kvs, qa, ks, rfl, hD11, hk11, hz11, nx⟩ := h11
        exact setT (X := X.blk s3 H3 scope ce fp) hu I11 hD11 hk11 hz11 r10 r11 fun s12 I12 => fin I12 nx
  exact codeAny_compStart_dict loop (T.self X.A 0 _ _ _ st4 loop)
/-- over a list that stays -/
theorem dcT_list {K : PySem.W.Frag} {a : Addr} {xs : List V} {vs : List Nat} {σ : St} {H1 : Hp} {D : Addr} {Qd : Hp → Prop} (Pv : Nat → Hp → Prop) (h0 : Pv 0 (upd H1 D (.dT []))) (hl : ∀ i H, i ≤ xs.length → Pv i H → SqL K H a xs)
    (hs : ∀ i x H, xs[i]? = some x → Pv i H → g x (wipe σ vs) H fun σ2 H2 => wipe σ2 vs = wipe σ vs ∧ tt σ2 H2 fun b H3 =>
      if b = true then tk σ2 H3 fun y H4 => tv σ2 H4 fun z H5 => ∃ kvs q ks, y = .ref q ∧ H5 D = some (.dT kvs) ∧ H5 q = some (.tup (ks.map kV)) ∧ kvs.length < sizeLine ∧ Pv (i + 1) (upd H5 D (.dT (putK kvs ks z))) else Pv (i + 1) H3)
    (hd : ∀ H, Pv xs.length H → Qd H) :
    ∃ W : Nat → Nat → Hp → Prop, (∃ m, W 0 m (upd H1 D (.dT []))) ∧ ∀ i m H, W i m H →
      ((Itl K a).stop i H ∧ Qd H) ∨ ((Itl K a).go i H ∧ ∃ Nx : Hp → Prop, (∀ H', Nx H' → ∃ m', m' < m ∧ W (i + 1) m' H') ∧ TurnT g tt tk tv vs σ D (Itl K a) i H Nx) := by
  refine ⟨fun i m H => i + m = xs.length ∧ Pv i H, ⟨xs.length, Nat.zero_add _, h0⟩, fun i m H hw => ?_⟩
  obtain ⟨hm, hp⟩ := hw
  have hS := hl i H (by omega) hp
  by_cases hi : i < xs.length
  · refine .inr ⟨⟨xs, xs[i], hS, List.getElem?_eq_getElem hi⟩, Pv (i + 1), fun H' n => ⟨m - 1, by omega, by omega, n⟩, fun x H' y => ?_⟩
    obtain ⟨rfl, hx⟩ := y
    exact hs i x H' (hx xs hS) hp
  · have : i = xs.length := by omega
    subst this
    exact .inl ⟨⟨xs, hS, Nat.le_refl _⟩, hd H hp⟩
end
end K57
end

section
set_option Elab.async false
set_option maxRecDepth 100000
set_option maxHeartbeats 4000000
namespace K57
open PySem L2
/-! enumerate(t), t a tuple -/
theorem newEnumT (a : Addr) (items : Array Value) :
    Meets (Builtin.«enumerate.__new__» ⟨[.type "enumerate", .ref a], []⟩) (fun _ R s => s.heap.IsTuple a items ∧
      R (.ok (.ret (.ref (s.heap.push { cls := .type "tuple_iterator", data := .fields #[.ref a, .int 0 0] }).objs.size)))
        { s with heap := (s.heap.push { cls := .type "tuple_iterator", data := .fields #[.ref a, .int 0 0] }).push { cls := .type "enumerate", data := .fields #[.none, .bool false, .ref s.heap.objs.size, rawInt 0, .none, .none] } }) :=
  .of_wp fun prog w A R s h => by
    obtain ⟨hp, g, d, tk, os⟩ := s
    obtain ⟨h1, h⟩ := h
    have hsub := sub_enumerate
    have q1 : ∀ {A' : Around} {E : Value → Shared → Prop} {Q : Value → Shared → Prop}, Q (.ref hp.objs.size) ⟨hp.push { cls := .type "tuple_iterator", data := .fields #[.ref a, .int 0 0] }, g, d, tk, os⟩ →
        wpAny (model prog w) A' (pyIter (.ref a)) Q E ⟨hp, g, d, tk, os⟩ := fun q => wpAny_pyIter_tuple (s := ⟨hp, g, d, tk, os⟩) h1 q
    wp_walk using q1
    refine wpAny_stack_any fun st => wpAny_pure ?_
    split
    · rename_i c _ _ _ _ _
      cases (c == Value.type "enumerate") <;> (wp_walk using q1; exact ⟨_, rfl, h⟩)
    · wp_walk using q1
      exact ⟨_, rfl, h⟩
theorem callEnumT {prog : Program} {w : World} {A : Around} {E : Value → Shared → Prop} {s : Shared} {a : Addr} {items : Array Value} {Q : Value → Shared → Prop} (hT : s.heap.IsTuple a items)
    (h : ∀ h', IsEnum h' (s.heap.objs.size + 1) s.heap.objs.size 0 .none → h'.IsTupleIter s.heap.objs.size a 0 → (∀ b o, s.heap.get? b = some o → h'.get? b = some o) → Q (.ref (s.heap.objs.size + 1)) { s with heap := h' }) :
    wpAny (model prog w) A (call (.type "enumerate") [.ref a]) Q E s := by
  refine callType_new PySem.F.called_enumerate (by decide) (PySem.F.typeCall_enumerate_1 _) (PySem.F.newCall_enumerate_1 _) (fun obj => PySem.F.args_object_init_2 obj _) PySem.F.entry_enumerate_new (newEnumT a items) ⟨hT, ?_⟩
  have hz : (s.heap.push { cls := .type "tuple_iterator", data := .fields #[.ref a, .int 0 0] }).objs.size = s.heap.objs.size + 1 := Heap.size_push ..
  show _ ∧ _
  rw [hz]
  have he := Heap.get?_push_size (s.heap.push { cls := .type "tuple_iterator", data := .fields #[.ref a, .int 0 0] }) (o := { cls := .type "enumerate", data := .fields #[.none, .bool false, .ref s.heap.objs.size, rawInt 0, .none, .none] }) rfl
  rw [hz] at he
  exact ⟨⟨_, he, rfl⟩, h _ he ⟨_, Heap.get?_push_of_some _ (Heap.get?_push_size _ rfl), rfl, rfl⟩ fun b o x => Heap.get?_push_of_some _ (Heap.get?_push_of_some _ x)⟩
/-- the tuple at a, each item in a new pair -/
def ItetN (K : PySem.W.Frag) (a : Addr) : It :=
  ⟨fun i H => ∃ (xs : List V) (x : V), SqT K H a xs ∧ xs[i]? = some x, fun i H v H' => ∃ T x, v = .ref T ∧ H T = none ∧ H' = upd H T (.tup [.int (i : Nat), x]) ∧ ∀ xs, SqT K H a xs → xs[i]? = some x, fun i H => ∃ xs : List V, SqT K H a xs ∧ xs.length = i⟩
theorem turnEnumT {P : Program} {w : World} {K : PySem.W.Frag} {elts : List Expr} {kk : Nat} {tpos : Pos} (a e it : Addr) :
    Turn P w K (.Tuple elts kk tpos) (ItetN K a) [e, it] e (fun i h => (∃ old, IsEnum h e it ((i : Nat) : Int) old) ∧ h.IsTupleIter it a i ∧ e ≠ it) where
  mem := List.mem_cons_self
  obj := fun i h st b hb => by
    obtain ⟨⟨old, he⟩, ⟨o, ho, hc, hd⟩, _⟩ := st
    rcases List.mem_cons.mp hb with rfl | hb
    · exact ⟨_, he, nofun⟩
    · rw [List.mem_singleton.mp hb]
      exact ⟨o, ho, fun v q => by rw [hd] at q; cases q⟩
  keep := fun i h h' st k => by
    obtain ⟨⟨old, he⟩, hi, hne⟩ := st
    exact ⟨⟨old, k e List.mem_cons_self _ he⟩, hi.at fun o q => k it (by simp) o q, hne⟩
  item := by
    intro X hP hw hK hc i pins s σ H E I hf st hg
    subst hP hw hK
    obtain ⟨⟨old, he⟩, hit, hne⟩ := st
    obtain ⟨xs, x, hq, hx⟩ := hg
    obtain ⟨its, rv, p, hz⟩ := I.tuple hq
    obtain ⟨u, hu, ru⟩ := rv.get hx
    have hel : e < s.heap.objs.size := Heap.lt_size he
    have hil : it < s.heap.objs.size := by
      obtain ⟨_, q, _⟩ := hit
      exact Heap.lt_size q
    have hal : a ≠ it := by
      intro z
      subst z
      obtain ⟨o1, q1, c1, _⟩ := p
      obtain ⟨o2, q2, c2, _⟩ := hit
      rw [q1] at q2
      cases q2
      rw [c1] at c2
      exact absurd c2 (by decide)
    have hae : e ∉ [it, a] := by
      intro z
      rcases List.mem_cons.mp z with z | z
      · exact hne z
      · rw [List.mem_singleton.mp z] at he
        obtain ⟨o1, q1, c1, _⟩ := p
        unfold IsEnum at he
        rw [q1] at he
        rw [Option.some.inj he] at c1
        exact absurd (show Value.type "enumerate" = Value.type "tuple" from c1) (by decide)
    have hlt : i < its.toArray.size := by
      have := (List.getElem?_eq_some_iff.mp hu).1
      simpa using this
    refine wpAny_pyNext_enum_itemD (Draws.tuple (A := X.A.in1) (I.ok.hd hc) it a hal its.toArray) he ⟨hit, p⟩ hlt hne hae fun y h' tk hy ho hst hT hsz hk => ?_
    have hyu : y = u := by
      have h1 : its[i]? = some y := by simpa using hy
      rw [hu] at h1
      exact (Option.some.inj h1).symm
    subst hyu
    refine ⟨_, rfl, wpAny_letOwnedTupleGo_enum (s := { s with heap := h', toks := tk + 1 }) ho fun h'' he' sb => ?_⟩
    have hT2 : h''.get? s.heap.objs.size = some { cls := .type "tuple", data := .seq #[.int i tk, y] } := (sb.2 _ (Nat.ne_of_gt hel)).trans hT
    have new : ObjOk X.prog X.w (upd H s.heap.objs.size (.tup [.int (i : Nat), x])) h'' s.heap.objs.size (.tup [.int (i : Nat), x]) := ⟨by show 2 ≤ sizeLine; decide, [.int i tk, y], .cons ⟨_, rfl⟩ (.cons ru .nil), ⟨_, hT2, rfl, _, rfl⟩⟩
    have I1 : Inv X pins σ (upd H s.heap.objs.size (.tup [.int (i : Nat), x])) { s with heap := h'', toks := tk + 1 } :=
      I.turnedNew (ch := [e, it]) (fun b ob hb q => (sb.2 b (fun z => hb (by simp [z]))).trans (hk b ob (fun z => hb (by simp [z])) (fun z => hb (by simp [z])) q)) hf (Nat.le_refl _) new
    refine ⟨.ref s.heap.objs.size, _, I1, rfl, ⟨_, x, rfl, I.hok.fresh (Nat.le_refl _), rfl, fun ys hy => by rw [I.tuple_inj hy hq]; exact hx⟩, ⟨⟨y, ?_⟩, hst.1.at fun o q => (sb.2 it (Ne.symm hne)).trans q, hne⟩, fun b hb => ?_⟩
    · have e1 : ((i + 1 : Nat) : Int) = (i : Int) + 1 := by omega
      rw [e1]
      exact he'
    · have hb' : b < s.heap.objs.size := by
        rcases List.mem_cons.mp hb with rfl | hb
        · exact hel
        · rw [List.mem_singleton.mp hb]
          exact hil
      rw [upd_ne (Nat.ne_of_lt hb')]
      exact (hf b hb).1
  done := by
    intro X hP hw hK hc i pins s σ H E I hf st hg
    subst hP hw hK
    obtain ⟨⟨old, he⟩, hit, hne⟩ := st
    obtain ⟨xs, hq, hx⟩ := hg
    obtain ⟨its, rv, p, hz⟩ := I.tuple hq
    obtain ⟨f0, f1, f2, f3, f4, f5⟩ := hf it (by simp)
    have hal : a ≠ it := by
      intro z
      subst z
      obtain ⟨o1, q1, c1, _⟩ := p
      obtain ⟨o2, q2, c2, _⟩ := hit
      rw [q1] at q2
      cases q2
      rw [c1] at c2
      exact absurd c2 (by decide)
    have hn : i = its.toArray.size := by
      rw [← hx, rv.length]
      simp
    subst hn
    exact wpAny_pyNext_enum_endD (Draws.tuple (A := X.A.in1) (I.ok.hd hc) it a hal its.toArray) he ⟨hit, p⟩ fun h' eb => ⟨rfl, I.turned (t' := s.toks) (fun b o hb q => eb b o hb q) f0 f1 f3 f4 f5⟩
  self := fun A i s Q E st h => by
    obtain ⟨⟨_, he⟩, _⟩ := st
    exact wpAny_pyIter_enum he h
def iEnumT (K : PySem.W.Frag) (ta : TA) : TI := fun σ H R => ta σ H fun vs H1 => ∃ a xs, vs = [.ref a] ∧ SqT K H1 a xs ∧ R (ItetN K a) H1
theorem pi_enumT {X : Cx} {e : Expr} {ta : TA} {p pos tpos : Pos} {elts : List Expr} {kk : Nat} (hg : Gl X "enumerate") (hm : X.mg "enumerate" = none) (ha : PA X [e] ta) (hs : starEach [e] X.env = [(false, eval e X.env)] := by rfl) :
    PI X (.Tuple elts kk tpos) (.Call (.Name "enumerate" p) [e] [] pos) (iEnumT X.K ta) := by
  refine ⟨fun pins s σ H R I h => ?_⟩
  refine PyProof.Rows.Call_ (ld_blt I hg hm PyProof.Rows.boot_enumerate (PyProof.Rows.callWith_type1 (thn (ha.run pos pins s σ H _ I h) fun us s1 hq1 => ?_) hs rfl))
  obtain ⟨vs, H1, I1, r1, a, xs, rfl, hq, q⟩ := hq1
  obtain ⟨u, rfl, r⟩ := vals1 r1
  cases r
  obtain ⟨its, rv, p', hz⟩ := I1.tuple hq
  refine callEnumT p' fun h' he hit hk => wpAny_pyIter_enum he ?_
  have I2 : Inv X pins σ H1 { s1 with heap := h' } := I1.kept (t' := s1.toks) hk
  refine ⟨s1.heap.objs.size + 1, [s1.heap.objs.size + 1, s1.heap.objs.size], _, _, H1, rfl, I2, turnEnumT a (s1.heap.objs.size + 1) s1.heap.objs.size, ⟨⟨.none, he⟩, hit, Nat.succ_ne_self _⟩, fun b hb => ?_, q⟩
  have hle : s1.heap.objs.size ≤ b := by
    rcases List.mem_cons.mp hb with z | z
    · exact z ▸ Nat.le_add_right _ _
    · exact (List.mem_singleton.mp z) ▸ Nat.le_refl _
  exact I1.fpOk hle (I1.hok.fresh hle)
theorem SqT.one {K : PySem.W.Frag} {H : Hp} {a : Addr} {xs : List V} (h : H a = some (.tup xs)) {ys : List V} (h' : SqT K H a ys) (hk : K.lookup a = none) : ys = xs := by
  rcases h' with (h' | ⟨o, h'⟩) | ⟨o, its, n, h', _⟩
  · rw [h] at h'
    injection (Option.some.inj h') with e
    exact e.symm
  · rw [h] at h'
    cases h'
  · rw [hk] at h'
    cases h'
theorem walk_enumT {K : PySem.W.Frag} {a : Addr} {xs : List V} : Walk (ItetN K a) xs.length (fun H => SqT K H a xs) (YPair (fun i => some (.int (i : Nat))) (fun i => xs[i]?)) where
  goes := fun i H hi h => ⟨xs, xs[i], h, List.getElem?_eq_getElem hi⟩
  stops := fun H h => ⟨xs, h, rfl⟩
  yields := fun i H x H' hi h y => by
    obtain ⟨T, z, rfl, hT, rfl, hz⟩ := y
    exact ⟨T, .int (i : Nat), z, rfl, hT, rfl, rfl, hz xs h⟩
section
variable {J : It} {n : Nat} {G : Hp → Prop} {Y : Nat → Hp → V → Hp → Prop} {g : TG} {tt : TT} {tk tv te : TE} {vs : List Nat} {σ : St} {H1 : Hp} {D : Addr} {Qd : Hp → Prop}
/-- a dict comprehension over a walk -/
theorem dc_it (w : Walk J n G Y) (Pv : Nat → Hp → Prop) (h0 : Pv 0 (upd H1 D (.dK []))) (hG : ∀ i H, i ≤ n → Pv i H → G H)
    (hs : ∀ i x H H', i < n → Pv i H → Y i H x H' → g x (wipe σ vs) H' fun σ2 H2 => wipe σ2 vs = wipe σ vs ∧ tt σ2 H2 fun b H3 =>
      if b = true then tk σ2 H3 fun y H4 => tv σ2 H4 fun z H5 => ∃ kvs k, y = kV k ∧ H5 D = some (.dK kvs) ∧ kvs.length < sizeLine ∧ Pv (i + 1) (upd H5 D (.dK (putK kvs k z))) else Pv (i + 1) H3) (hd : ∀ H, Pv n H → Qd H) :
    ∃ W : Nat → Nat → Hp → Prop, (∃ m, W 0 m (upd H1 D (.dK []))) ∧ ∀ i m H, W i m H →
      (J.stop i H ∧ Qd H) ∨ (J.go i H ∧ ∃ Nx : Hp → Prop, (∀ H', Nx H' → ∃ m', m' < m ∧ W (i + 1) m' H') ∧ ∀ x H', J.yld i H x H' → g x (wipe σ vs) H' fun σ2 H2 => wipe σ2 vs = wipe σ vs ∧ tt σ2 H2 fun b H3 =>
        if b = true then tk σ2 H3 fun y H4 => tv σ2 H4 fun z H5 => ∃ kvs k, y = kV k ∧ H5 D = some (.dK kvs) ∧ kvs.length < sizeLine ∧ Nx (upd H5 D (.dK (putK kvs k z))) else Nx H3) := by
  refine ⟨fun i m H => i + m = n ∧ Pv i H, ⟨n, Nat.zero_add _, h0⟩, fun i m H hw => ?_⟩
  obtain ⟨hm, hp⟩ := hw
  by_cases hi : i < n
  · exact .inr ⟨w.goes i H hi (hG i H (by omega) hp), Pv (i + 1), fun H' q => ⟨m - 1, by omega, by omega, q⟩, fun x H' y => hs i x H H' hi hp (w.yields i H x H' hi (hG i H (by omega) hp) y)⟩
  · have : i = n := by omega
    subst this
    exact .inl ⟨w.stops H (hG i H (Nat.le_refl _) hp), hd H hp⟩
/-- the inner loop of a comprehension of two clauses -/
theorem lc2_in {g1 : TG} {tt1 : TT} {vs1 : List Nat} {σ2 : St} {H4 : Hp} {Nx : Hp → Prop} (w : Walk J n G Y) (Pv : Nat → Hp → Prop) (h0 : Pv 0 H4) (hG : ∀ i H, i ≤ n → Pv i H → G H)
    (hs : ∀ i x H H', i < n → Pv i H → Y i H x H' → g1 x (wipe σ2 vs1) H' fun σ3 H5 => wipe σ3 vs1 = wipe σ2 vs1 ∧ tt1 σ3 H5 fun b H6 =>
      if b = true then te σ3 H6 fun y H7 => ∃ acc, H7 D = some (.lst acc) ∧ acc.length < sizeLine ∧ Pv (i + 1) (upd H7 D (.lst (acc ++ [y]))) else Pv (i + 1) H6) (hd : ∀ H, Pv n H → Nx H) :
    ∃ W1 : Nat → Nat → Hp → Prop, (∃ m, W1 0 m H4) ∧ ∀ j k H, W1 j k H →
      (J.stop j H ∧ Nx H) ∨ (J.go j H ∧ ∃ Nx1 : Hp → Prop, (∀ H', Nx1 H' → ∃ k', k' < k ∧ W1 (j + 1) k' H') ∧ ∀ x H', J.yld j H x H' → g1 x (wipe σ2 vs1) H' fun σ3 H5 => wipe σ3 vs1 = wipe σ2 vs1 ∧ tt1 σ3 H5 fun b H6 =>
        if b = true then te σ3 H6 fun y H7 => ∃ acc, H7 D = some (.lst acc) ∧ acc.length < sizeLine ∧ Nx1 (upd H7 D (.lst (acc ++ [y]))) else Nx1 H6) := by
  refine ⟨fun i m H => i + m = n ∧ Pv i H, ⟨n, Nat.zero_add _, h0⟩, fun i m H hw => ?_⟩
  obtain ⟨hm, hp⟩ := hw
  by_cases hi : i < n
  · exact .inr ⟨w.goes i H hi (hG i H (by omega) hp), Pv (i + 1), fun H' q => ⟨m - 1, by omega, by omega, q⟩, fun x H' y => hs i x H H' hi hp (w.yields i H x H' hi (hG i H (by omega) hp) y)⟩
  · have : i = n := by omega
    subst this
    exact .inl ⟨w.stops H (hG i H (Nat.le_refl _) hp), hd H hp⟩
/-- the outer loop -/
theorem lc2_out {wi1 : TI} {g1 : TG} {tt1 : TT} {vs1 : List Nat} (w : Walk J n G Y) (Pv : Nat → Hp → Prop) (h0 : Pv 0 (upd H1 D (.lst []))) (hG : ∀ i H, i ≤ n → Pv i H → G H)
    (hs : ∀ i x H H', i < n → Pv i H → Y i H x H' → g x (wipe σ vs) H' fun σ2 H2 => wipe σ2 vs = wipe σ vs ∧ tt σ2 H2 fun b H3 =>
      if b = true then wi1 σ2 H3 fun J1 H4 => ∃ W1 : Nat → Nat → Hp → Prop, (∃ m, W1 0 m H4) ∧ ∀ j k H, W1 j k H →
        (J1.stop j H ∧ Pv (i + 1) H) ∨ (J1.go j H ∧ ∃ Nx1 : Hp → Prop, (∀ H', Nx1 H' → ∃ k', k' < k ∧ W1 (j + 1) k' H') ∧ ∀ x H', J1.yld j H x H' → g1 x (wipe σ2 vs1) H' fun σ3 H5 => wipe σ3 vs1 = wipe σ2 vs1 ∧ tt1 σ3 H5 fun b H6 =>
          if b = true then te σ3 H6 fun y H7 => ∃ acc, H7 D = some (.lst acc) ∧ acc.length < sizeLine ∧ Nx1 (upd H7 D (.lst (acc ++ [y]))) else Nx1 H6)
      else Pv (i + 1) H3) (hd : ∀ H, Pv n H → Qd H) :
    ∃ W : Nat → Nat → Hp → Prop, (∃ m, W 0 m (upd H1 D (.lst []))) ∧ ∀ i m H, W i m H →
      (J.stop i H ∧ Qd H) ∨ (J.go i H ∧ ∃ Nx : Hp → Prop, (∀ H', Nx H' → ∃ m', m' < m ∧ W (i + 1) m' H') ∧ ∀ x H', J.yld i H x H' → g x (wipe σ vs) H' fun σ2 H2 => wipe σ2 vs = wipe σ vs ∧ tt σ2 H2 fun b H3 =>
        if b = true then wi1 σ2 H3 fun J1 H4 => ∃ W1 : Nat → Nat → Hp → Prop, (∃ m, W1 0 m H4) ∧ ∀ j k H, W1 j k H →
          (J1.stop j H ∧ Nx H) ∨ (J1.go j H ∧ ∃ Nx1 : Hp → Prop, (∀ H', Nx1 H' → ∃ k', k' < k ∧ W1 (j + 1) k' H') ∧ ∀ x H', J1.yld j H x H' → g1 x (wipe σ2 vs1) H' fun σ3 H5 => wipe σ3 vs1 = wipe σ2 vs1 ∧ tt1 σ3 H5 fun b H6 =>
            if b = true then te σ3 H6 fun y H7 => ∃ acc, H7 D = some (.lst acc) ∧ acc.length < sizeLine ∧ Nx1 (upd H7 D (.lst (acc ++ [y]))) else Nx1 H6)
        else Nx H3) := by
  refine ⟨fun i m H => i + m = n ∧ Pv i H, ⟨n, Nat.zero_add _, h0⟩, fun i m H hw => ?_⟩
  obtain ⟨hm, hp⟩ := hw
  by_cases hi : i < n
  · exact .inr ⟨w.goes i H hi (hG i H (by omega) hp), Pv (i + 1), fun H' q => ⟨m - 1, by omega, by omega, q⟩, fun x H' y => hs i x H H' hi hp (w.yields i H x H' hi (hG i H (by omega) hp) y)⟩
  · have : i = n := by omega
    subst this
    exact .inl ⟨w.stops H (hG i H (Nat.le_refl _) hp), hd H hp⟩
end
end K57
end

section
set_option Elab.async false
set_option linter.all false
set_option maxRecDepth 100000
set_option maxHeartbeats 4000000
namespace K57
open PySem PySem.Spec PyProof.Rows Calls L2 StX
/-! defs and their promises by positional values -/
/-- the def st stands at f -/
def DefAt (K : PySem.W.Frag) (x qual : Str) (st : Stmt) (f : Addr) (ps : List Str) : Prop := ∃ fd, Fun K x qual st f fd ∧ Binds K fd ps []
abbrev Fn0 (P : Program) (w : World) (K : PySem.W.Frag) (mg : Str → Option Value) (base : Heap) (k : Nat) (f : Addr) (sp : Sp) : Prop := FnR P w K mg base CX0 k f sp
section
variable {P : Program} {w : World} {K : PySem.W.Frag} {mg : Str → Option Value} {base : Heap}
theorem DefAt.ok {x qual : Str} {st : Stmt} {f : Addr} {N ps : List Str} {k : Nat} {sp : Sp} (d : DefAt K x qual st f ps) (S : FnScope N ps (defScope st)) (len : ∀ vs H Q E, sp vs H Q E → vs.length = ps.length)
    (hbody : ∀ (cdv : Value) (A : Around) (outer : List Env) (s : Shared) (H : Hp) (vs : List V) (Q : VK) (E : XK), Room k (A.deeper (envOfC qual (defScope st) s.heap.objs.size f cdv)) → sp vs H Q E →
      ∃ t, PSs (cxOf CX0 P w K mg base N qual (defScope st) f cdv A outer s H E).nox (defBody st) t ∧ t { nx := fun _ H' => Q .non H', rt := Q } (start N vs) H) : Fn0 P w K mg base (k + 1) f sp := by
  obtain ⟨fd, F, b⟩ := d
  exact ((F.ok (P := P) (w := w) (mg := mg) (base := base) S len hbody).raw b .nil).imp fun vs H Q E h => by simpa using h
end
section
variable {X : Cx} {k i : Nat} {f C g p1 : Addr} {sp : Sp} {x fld : Str} {p pos sp_ : Pos} {e a b : Expr} {es : List Expr} {ta tb te : TE} {t : TA}
theorem runR {pins : List (Addr × Obj)} {σ : L2.St} {H : Hp} {s : Shared} {Q : VK} {us : List Value} {vs : List V} (F : Fn0 X.prog X.w X.K X.mg X.base k f sp) (hr : Room k X.A) (I : Inv X pins σ H s) (r : Vals vs us) (h : sp vs H Q E0) :
    wpAny (model X.prog X.w) X.A (call (.ref f) us) (EP X pins σ Q) X.xe s := wpAny_call (codeAny_mono (run_fnR F hr pass0 I r h) fun rr s' z => by
  cases rr with
  | error e => exact z
  | ok fl => cases fl <;> exact z)
theorem runR1 {pins : List (Addr × Obj)} {σ : L2.St} {H : Hp} {s : Shared} {Q : VK} {us : List Value} {vs : List V} (F : Fn0 X.prog X.w X.K X.mg X.base k f sp) (hr : Room (k + 1) X.A) (I : Inv X pins σ H s) (r : Vals vs us) (h : sp vs H Q E0) :
    wpAny (model X.prog X.w) X.A.in1 (call (.ref f) us) (EP X pins σ Q) (fun _ _ => False) s := by
  refine wpAny_call (codeAny_mono (F X.A.in1 X.stack s H us vs Q E0 hr.in1 I.env0.in1 r h) fun rr s' hq => ?_)
  cases rr with
  | error e => exact hq
  | ok fl =>
    cases fl with
    | ret u => exact I.after hq
    | _ => exact hq.elim
def tC0 (sp : Sp) (t : TA) : TE := fun σ H Q => t σ H fun vs H1 => sp vs H1 Q E0
/-- f(e, ..) -/
theorem pe_cR (F : Fn0 X.prog X.w X.K X.mg X.base k f sp) (hr : Room k X.A) (hg : Gl X x) (hm : X.mg x = some (.ref f)) (hk : PySem.W.keepIn X.K (.ref f) = true) (ha : PA X (e :: es) t) (hdb : (x == ("__debug__" : Str)) = false := by decide)
    (he : starEach (e :: es) X.env = (false, eval e X.env) :: starEach es X.env := by rfl) (hpl : (backTo pos (starEach es X.env)).any (·.1) = false := by rfl) : PE X (.Call (.Name x p) (e :: es) [] pos) (tC0 sp t) := by
  refine ⟨fun pins s σ H Q I h => ?_⟩
  refine wpAny_Call_Name_kw (ld_glob I hg hm ?_ hdb)
  refine PySem.W.callWith_K (h₀ := X.base) I.ok.mod.kin hk (thn (ha.run pos pins s σ H _ I h) fun us s1 hq => ?_) he hpl
  obtain ⟨vs, H1, I1, r, q⟩ := hq
  exact ⟨I1.kIn, runR F hr I1 r q⟩
theorem pe_cR0 (F : Fn0 X.prog X.w X.K X.mg X.base k f sp) (hr : Room k X.A) (hg : Gl X x) (hm : X.mg x = some (.ref f)) (hk : PySem.W.keepIn X.K (.ref f) = true) (hdb : (x == ("__debug__" : Str)) = false := by decide) : PE X (.Call (.Name x p) [] [] pos) (tC0 sp tNil) := by
  refine ⟨fun pins s σ H Q I h => ?_⟩
  refine wpAny_Call_Name_kw (ld_glob I hg hm ?_ hdb)
  exact PySem.W.callWith_K0 I.kIn hk (runR (us := []) F hr I .nil h)
/-- C(e, ..): a new instance -/
def tM0 (C : Addr) (sp : Sp) (t : TA) : TE := fun σ H Q => t σ H fun vs H1 => ∀ x dx, H1 x = none → H1 dx = none → dx ≠ x → sp (.ref x :: vs) (upd (upd H1 dx (.own x)) x (.ins C dx [])) (fun v H2 => v = .non ∧ Q (.ref x) H2) E0
theorem pe_mR (M : Mk X.K C f) (F : Fn0 X.prog X.w X.K X.mg X.base k f sp) (hr : Room (k + 1) X.A) (hg : Gl X x) (hm : X.mg x = some (.ref C)) (ha : PA X (e :: es) t) (hdb : (x == ("__debug__" : Str)) = false := by decide)
    (he : starEach (e :: es) X.env = (false, eval e X.env) :: starEach es X.env := by rfl) (hpl : (backTo pos (starEach es X.env)).any (·.1) = false := by rfl) : PE X (.Call (.Name x p) (e :: es) [] pos) (tM0 C sp t) := by
  refine ⟨fun pins s σ H Q I h => ?_⟩
  refine wpAny_Call_Name_kw (ld_glob I hg hm ?_ hdb)
  refine PySem.W.callWith_K (h₀ := X.base) I.ok.mod.kin M.kp (thn (ha.run pos pins s σ H _ I h) fun us s1 hq => ?_) he hpl
  obtain ⟨vs, H1, I1, r, q⟩ := hq
  exact ⟨I1.kIn, run_makeR M F hr pass0 I1 r q⟩
/-- cls(e, ..), cls a name of the def that holds the class -/
def tML (i : Nat) (C : Addr) (sp : Sp) (t : TA) : TE := fun σ H Q => σ[i]? = some (some (.ref C)) ∧ t σ H fun vs H1 => ∀ x dx, H1 x = none → H1 dx = none → dx ≠ x → sp (.ref x :: vs) (upd (upd H1 dx (.own x)) x (.ins C dx [])) (fun v H2 => v = .non ∧ Q (.ref x) H2) E0
theorem pe_mL (M : Mk X.K C f) (F : Fn0 X.prog X.w X.K X.mg X.base k f sp) (hr : Room (k + 1) X.A) (hN : X.N[i]? = some x) (hv : Vis X.env.scope x) (ha : PA X (e :: es) t) (hdb : (x == ("__debug__" : Str)) = false := by decide) (hcd : (x == ("__classdict__" : Str)) = false := by decide)
    (he : starEach (e :: es) X.env = (false, eval e X.env) :: starEach es X.env := by rfl) (hpl : (backTo pos (starEach es X.env)).any (·.1) = false := by rfl) : PE X (.Call (.Name x p) (e :: es) [] pos) (tML i C sp t) := by
  refine ⟨fun pins s σ H Q I h => ?_⟩
  obtain ⟨hs, ht⟩ := h
  refine wpAny_Call_Name_kw (thn ((pe_var (pos := p) hN hv hdb hcd).run pins s σ H (fun v H1 => v = .ref C ∧ H1 = H) I ⟨.ref C, hs, rfl, rfl⟩) fun u s1 hq => ?_)
  obtain ⟨v, H1, I1, r1, rfl, rfl⟩ := hq
  cases r1
  refine PySem.W.callWith_K (h₀ := X.base) I.ok.mod.kin M.kp (thn (ha.run pos pins s1 σ _ _ I1 ht) fun us s2 hq => ?_) he hpl
  obtain ⟨vs, H2, I2, r, q⟩ := hq
  exact ⟨I2.kIn, run_makeR M F hr pass0 I2 r q⟩
/-- C(*e) -/
def tMS (K : PySem.W.Frag) (C : Addr) (sp : Sp) (te : TE) : TE := fun σ H Q => te σ H fun y H1 => ∃ q xs, y = .ref q ∧ (SqT K H1 q xs ∨ SqL K H1 q xs) ∧ ∀ x dx, H1 x = none → H1 dx = none → dx ≠ x → sp (.ref x :: xs) (upd (upd H1 dx (.own x)) x (.ins C dx [])) (fun v H2 => v = .non ∧ Q (.ref x) H2) E0
theorem pe_mS (M : Mk X.K C f) (F : Fn0 X.prog X.w X.K X.mg X.base k f sp) (hr : Room (k + 1) X.A) (hg : Gl X x) (hm : X.mg x = some (.ref C)) (he : PE X e te) (hd : (x == ("__debug__" : Str)) = false := by decide)
    (hst : starEach [.Starred e sp_] X.env = [(true, eval e X.env)] := by rfl) : PE X (.Call (.Name x p) [.Starred e sp_] [] pos) (tMS X.K C sp te) := by
  refine ⟨fun pins s σ H Q I h => ?_⟩
  refine wpAny_Call_Name_kw (ld_glob I hg hm ?_ hd)
  refine PySem.W.callWith_S (h₀ := X.base) I.ok.mod.kin M.kp (thn (he.run pins s σ H _ I h) fun v s1 hq => ?_) hst
  obtain ⟨y, H1, I1, ry, q, xs, rfl, hxs, z⟩ := hq
  cases ry
  exact star_any I1 hxs fun us s2 I2 rv => ⟨I2.kIn, run_makeR M F hr pass0 I2 rv z⟩
/-- a op b of two instances of one class with the operator's method -/
def rOwnR (C : Addr) (sp : Sp) : R2 := fun x y H Q => ∃ a b dx fs dy gs, x = .ref a ∧ y = .ref b ∧ H a = some (.ins C dx fs) ∧ H b = some (.ins C dy gs) ∧ sp [x, y] H Q E0
theorem op_ownR {op : Operator} (F : Fn0 X.prog X.w X.K X.mg X.base k f sp) (hr : Room k X.A) (hc : PySem.W.selfFirst X.K C = true)
    (hs : PySem.W.findIn X.K (.ref C) (PySem.dunder op.info.2) = some (some (.ref f))) (hf : PySem.W.isFn X.K (.ref f) = true) : OpR X (binaryOp op) (rOwnR C sp) := by
  intro pins s σ H x y v u Q I rx ry h
  obtain ⟨a, b, dx, fs, dy, gs, rfl, rfl, ha, hb', hq⟩ := h
  cases rx
  cases ry
  obtain ⟨mA, J, _⟩ := ins_get I.hok ha
  obtain ⟨mB, J', _⟩ := ins_get I.hok hb'
  obtain ⟨od, J, _⟩ := J.look
  obtain ⟨od', J', _⟩ := J'.look
  obtain ⟨m, hF⟩ := I.fr
  refine PySem.W.binop_K hF I.ok.mod.kin J J'.type hc hs hf ?_
  have r2 : Vals [V.ref a, V.ref b] [Value.ref a, Value.ref b] := .cons rfl (.cons rfl .nil)
  exact wpAny_mono (runR F hr I r2 hq) (fun v s' z => back_of z) fun _ _ z => z
def rNeOwnR (C : Addr) (sp : Sp) : R2 := fun x y H Q => ∃ a b dx fs dy gs, x = .ref a ∧ y = .ref b ∧ H a = some (.ins C dx fs) ∧ H b = some (.ins C dy gs) ∧ sp [x, y] H (fun v H' => ∃ r, v = .bl r ∧ Q (.bl (!r)) H') E0
theorem op_neOwnR (F : Fn0 X.prog X.w X.K X.mg X.base k f sp) (hr : Room (k + 1) X.A) (hm : PySem.W.mroIn X.K C (.type "object") = some true) (hne : PySem.W.findIn X.K (.ref C) "__ne__" = some (some (.builtin "object.__ne__")))
    (he : PySem.W.findIn X.K (.ref C) "__eq__" = some (some (.ref f))) (hf : PySem.W.isFn X.K (.ref f) = true) : OpR X (compareOp .NotEq) (rNeOwnR C sp) := by
  intro pins s σ H x y v u Q I rx ry h
  obtain ⟨a, b, dx, fs, dy, gs, rfl, rfl, ha, hb', hq⟩ := h
  cases rx
  cases ry
  obtain ⟨mA, J, _⟩ := ins_get I.hok ha
  obtain ⟨mB, J', _⟩ := ins_get I.hok hb'
  obtain ⟨od, J, _⟩ := J.look
  obtain ⟨od', J', _⟩ := J'.look
  have r2 : Vals [V.ref a, V.ref b] [Value.ref a, Value.ref b] := .cons rfl (.cons rfl .nil)
  have hu := hr.units
  refine ne_own (by omega) I.kIn J J'.type hm hne he hf (wpAny_mono (runR1 F hr I r2 hq) (fun v s' z => ?_) fun _ _ z => z.elim)
  obtain ⟨w, H', I', r, t, rfl, q⟩ := z
  cases r
  exact ⟨t, rfl, .bl (!t), H', I', rfl, q⟩
/-- e.f, a property -/
def tPropR (C : Addr) (sp : Sp) (ta : TE) : TE := fun σ H Q => ta σ H fun x H1 => ∃ a dx fs, x = .ref a ∧ H1 a = some (.ins C dx fs) ∧ sp [.ref a] H1 Q E0
theorem pe_propR {p0 : Addr} (he : PE X e ta) (c : Cls X.K C) (hp : PropOf X.K C fld p0 g) (F : Fn0 X.prog X.w X.K X.mg X.base k g sp) (hr : Room (k + 1) X.A)
    (hab : attributeBase e fld X.env (eval e X.env) = eval e X.env := by rfl) : PE X (.Attribute e fld pos) (tPropR C sp ta) := by
  refine ⟨fun pins s σ H Q I h => ?_⟩
  refine attr_of hab (thn (he.run pins s σ H _ I h) fun u s1 hq => ?_)
  obtain ⟨x, H1, I1, rx, a, dx, fs, rfl, ea, q⟩ := hq
  cases rx
  obtain ⟨mA, O, _⟩ := ins_get I1.hok ea
  obtain ⟨od, J, _⟩ := O.look
  obtain ⟨rest, hrec⟩ := hp.rec_
  have hc : (PySem.W.clsIn X.K C).isSome = true := by
    obtain ⟨cd, hc, _⟩ := PySem.W.any_some c.hd
    rw [hc]
    rfl
  have I2 := I1.tok (s1.toks + 1)
  refine PySem.W.get_bind I1.kIn J (PySem.W.plainGet_of (c.get fld)).1 (PySem.W.findObj_data hc hp.at_ hp.get hp.tak) (PySem.W.plainGet_of (c.get fld)).2 (wpAny_call (PySem.W.prop_get (s := { s1 with toks := s1.toks + 1 }) I1.kIn hrec ?_))
  refine codeAny_mono (F X.A.in1 X.stack { s1 with toks := s1.toks + 1 } H1 [.ref a] [.ref a] Q E0 hr.in1 I2.env0.in1 (.cons rfl .nil) q) fun r s' hq => ?_
  cases r with
  | error er => exact hq.elim
  | ok fl =>
    cases fl with
    | ret u =>
      obtain ⟨v, H', I3, rv, q3⟩ := I2.after hq
      show wpAny _ _ (handedOut u) _ _ _
      rw [PySem.W.handedOut_of (handed_of rv)]
      exact wpAny_pure ⟨v, H', I3, rv, q3⟩
    | _ => exact hq.elim
/-- len(o) by the class's own method -/
def rLenOwn (C : Addr) (sp : Sp) : List V → Hp → VK → Prop := fun xs H Q => ∃ a dx fs, xs = [.ref a] ∧ H a = some (.ins C dx fs) ∧ sp [.ref a] H (fun v H' => ∃ n : Nat, v = .int n ∧ n < 2 ^ 62 ∧ Q (.int n) H') E0
theorem call_lenOwn (F : Fn0 X.prog X.w X.K X.mg X.base k f sp) (hr : Room (k + 1) X.A) (hs : PySem.W.findIn X.K (.ref C) "__len__" = some (some (.ref f))) (hf : PySem.W.isFn X.K (.ref f) = true) : CallR X (.builtin "len") (rLenOwn C sp) := by
  intro pins s σ H xs us Q I r h
  obtain ⟨a, dx, fs, rfl, ea, q⟩ := h
  obtain ⟨u, rfl, ru⟩ := vals1 r
  cases ru
  obtain ⟨mA, J, _⟩ := ins_get I.hok ea
  obtain ⟨od, J, _⟩ := J.look
  obtain ⟨m, hF⟩ := I.fr
  refine PySem.W.len_K hF I.ok.mod.kin J hs hf (wpAny_mono (runR1 F hr I (vs := [.ref a]) (.cons rfl .nil) q) (fun v s' z => ?_) fun _ _ z => z.elim)
  obtain ⟨w, H', I', rw', n, rfl, hn, q'⟩ := z
  obtain ⟨t, rfl⟩ := rw'
  exact ⟨⟨Int.natCast_nonneg _, by omega⟩, .int n, H', I'.tok _, ⟨_, rfl⟩, q'⟩
end
end K57
end

section
set_option Elab.async false
set_option linter.all false
set_option maxRecDepth 100000
set_option maxHeartbeats 4000000
namespace K57
open PySem PySem.Spec PyProof.Rows L2
/-! repr of data, sorted texts, dict(d) -/
/-- data, or an empty dict -/
def RdD (K : PySem.W.Frag) (H : Hp) (v : V) (d : PyData) : Prop := Dp K H v d ∨ ∃ a, v = .ref a ∧ H a = some (.dK []) ∧ d = .dict []
theorem eq_of_beq_sys {a : Addr} (h : (a == sysModules) = false) : sysModules ≠ a := fun e => by
  rw [← e] at h
  simp at h
mutual
theorem noDict {K : PySem.W.Frag} {H : Hp} : ∀ (d : PyData) (v : V), Dp K H v d → d.hasDict = false
  | .none, _, _ => by simp only [PyData.hasDict]
  | .bool _, _, _ => by simp only [PyData.hasDict]
  | .int _, _, _ => by simp only [PyData.hasDict]
  | .str _, _, _ => by simp only [PyData.hasDict]
  | .list ds, _, h => by
    cases h with
    | lst _ h => simp only [PyData.hasDict]; exact noDictAll ds _ h
  | .tuple ds, _, h => by
    cases h with
    | tup _ h => simp only [PyData.hasDict]; exact noDictAll ds _ h
  | .dict _, _, h => by cases h
theorem noDictAll {K : PySem.W.Frag} {H : Hp} : ∀ (ds : List PyData) (vs : List V), DpAll K H vs ds → PyData.hasDictAll ds = false
  | [], _, _ => by simp only [PyData.hasDictAll]
  | d :: ds, _, h => by
    cases h with
    | cons h1 h2 => simp only [PyData.hasDictAll, noDict d _ h1, noDictAll ds _ h2, Bool.or_self]
end
section
variable {X : Cx}
theorem call_reprD (hg : X.A.guards = some []) (hu : X.A.units + 64 < cLine) : CallR X (.builtin "repr") (fun xs H Q => ∃ x d, xs = [x] ∧ RdD X.K H x d ∧ d.showable = true ∧ d.shown.length ≤ sizeLine ∧ d.depth ≤ 60 ∧ Q (.str d.shown) H) := by
  intro pins s σ H xs us Q I r q
  obtain ⟨x, d, rfl, hx, hs, hz, hd, q⟩ := q
  obtain ⟨u, rfl, rx⟩ := vals1 r
  have fin : ∀ {a : Addr} {as : List Addr}, u = .ref a → Reads s.heap u d as → (d.hasDict = true → sysModules ∉ as) → wpAny (model X.prog X.w) X.A (call (.builtin "repr") [u]) (EP X pins σ Q) X.xe s := by
    intro a as e hr hn
    subst e
    exact repr_of_reads' hr hs hn hg (by omega) (fun b o e => e) (fun h' t tk hk => ⟨.str d.shown, H, I.kept (t' := tk) hk, ⟨t, rfl⟩, q⟩) hz
  rcases hx with hx | ⟨a, rfl, ha, rfl⟩
  · have nd := noDict d x hx
    obtain ⟨as, hr⟩ := Dp.reads I d x u hx rx
    cases hx with
    | non => cases rx; exact PySem.P.repr_of_none ⟨.str (PyData.none).shown, H, I.tok _, ⟨s.toks, by simp only [PyData.shown]⟩, q⟩
    | bl b => cases rx; exact PySem.P.repr_of_bool ⟨.str (PyData.bool b).shown, H, I.tok _, ⟨s.toks, by simp only [PyData.shown]⟩, q⟩
    | int i =>
      obtain ⟨t, rfl⟩ := rx
      exact PySem.P.repr_of_int (by simpa [PyData.showable] using hs) ⟨.str (PyData.int i).shown, H, I.tok _, ⟨s.toks, by simp only [PyData.shown]⟩, q⟩
    | str z =>
      obtain ⟨t, rfl⟩ := rx
      exact PySem.P.repr_of_str ⟨.str (PyData.str z).shown, H, I.tok _, ⟨s.toks, by simp only [PyData.shown]⟩, q⟩ (by simpa [PyData.shown] using hz)
    | lst h1 h2 => cases rx; exact fin rfl hr fun e => by rw [nd] at e; cases e
    | tup h1 h2 => cases rx; exact fin rfl hr fun e => by rw [nd] at e; cases e
  · cases rx
    obtain ⟨z, hd', vs, r0, o, es, ep, ho, hc, hdat, hk, hp, hn⟩ := dk_of I.hok ha
    cases r0
    have hes : es.toList = [] := List.length_eq_zero_iff.mp hp.length
    have he : es = #[] := by
      have := congrArg List.toArray hes
      simpa using this
    subst he
    have hr : Reads s.heap (.ref a) (.dict []) (a :: [] ++ []) := Reads.dict ho hc.1 hdat .nil .nil
    exact fin rfl hr fun _ m => eq_of_beq_sys hd' (List.mem_singleton.mp m)
/-- sorted(xs), texts, any number of them -/
theorem call_sortedT : CallR X (.builtin "sorted") (fun vs H Q => ∃ (a : Addr) (xs : List Str), vs = [V.ref a] ∧ SqL X.K H a (xs.map V.str) ∧
    ∀ (ys : List Str) (p : Addr), ys.Perm xs → sortedS ys = true → H p = none → Q (.ref p) (upd H p (.lst (ys.map V.str)))) := by
  intro pins s σ H xs us Q I r q
  obtain ⟨a, ts, rfl, ha, q⟩ := q
  obtain ⟨u, rfl, rx⟩ := vals1 r
  cases rx
  obtain ⟨its, rv, pl, hz⟩ := I.list ha
  have hl : its.length ≤ sizeLine := by
    rw [← rv.length]
    exact hz
  refine sorted_strsAny pl.isList (Vals.strs rv) hl fun out ys h1 h2 h3 => ?_
  obtain ⟨ep, he⟩ := sortedAll_at s.heap its out
  have hlen : (ys.map V.str).length ≤ sizeLine := by
    rw [List.length_map, h2.length_eq]
    rw [List.length_map] at hz
    exact hz
  exact ⟨.ref _, upd H (s.heap.objs.size + 1) (.lst (ys.map V.str)), I.laid (t' := s.toks) (fun _ _ => sortedAll_old) (Nat.le_succ _) ⟨hlen, out.toList, ep, vals_of_strs h1, he⟩, rfl, q ys _ h2 h3 (I.hok.fresh (Nat.le_succ _))⟩
/-- dict(d), d a dict with int or text keys -/
theorem call_dictCopy : CallR X (.type "dict") (fun vs H Q => ∃ (a : Addr) (kvs : List (Key × V)), vs = [V.ref a] ∧ Rd H a (.dK kvs) ∧ ∀ p, H p = none → Q (.ref p) (upd H p (.dK kvs))) := by
  intro pins s σ H xs us Q I r q
  obtain ⟨a, kvs, rfl, ha, q⟩ := q
  obtain ⟨u, rfl, rx⟩ := vals1 r
  cases rx
  exact d_copyOf I ha fun p s' hp I' => ⟨.ref p, _, I', rfl, q p hp⟩
end
end K57
end

section
set_option Elab.async false
set_option linter.all false
set_option maxRecDepth 100000
set_option maxHeartbeats 4000000
namespace K57
open PySem PySem.Spec PyProof.Rows Calls L2 StX
/-! defs that run where no repr is under way (the guards' list is known to be empty) -/
def FnG (P : Program) (w : World) (K : PySem.W.Frag) (mg : Str → Option Value) (base : Heap) (k : Nat) (f : Addr) (sp : Sp) : Prop :=
  ∀ (A : Around) (outer : List Env) (s : Shared) (H : Hp) (us : List Value) (vs : List V) (Q : VK), Room k A → A.guards = some [] → Env0 P w K mg base A outer s H → Vals vs us → sp vs H Q E0 → codeAny (model P w) A (.call (.ref f) ⟨us, []⟩) (CR CX0 outer P w H s Q E0) s
section
variable {P : Program} {w : World} {K : PySem.W.Frag} {mg : Str → Option Value} {base : Heap}
theorem DefAt.okG {x qual : Str} {st : Stmt} {f : Addr} {N ps : List Str} {k : Nat} {sp : Sp} (d : DefAt K x qual st f ps) (S : FnScope N ps (defScope st)) (len : ∀ vs H Q E, sp vs H Q E → vs.length = ps.length)
    (hbody : ∀ (cdv : Value) (A : Around) (outer : List Env) (s : Shared) (H : Hp) (vs : List V) (Q : VK), Room k (A.deeper (envOfC qual (defScope st) s.heap.objs.size f cdv)) → A.guards = some [] → sp vs H Q E0 →
      ∃ t, PSs (cxOf CX0 P w K mg base N qual (defScope st) f cdv A outer s H E0).nox (defBody st) t ∧ t { nx := fun _ H' => Q .non H', rt := Q } (start N vs) H) : FnG P w K mg base (k + 1) f sp := by
  obtain ⟨fd, F, hb⟩ := d
  obtain ⟨oc, od, kV, doc, pm, an, cdv, ct, osl, rfl, lk, hcd⟩ := F.ex
  intro A outer s H us vs Q hr hgd e0 r hsp
  have old : ∀ b o, base.get? b = some o → s.heap.get? b = some o := fun b o e => (e0.bs b o e).1
  have KX : K.In s.heap := e0.mod.kin.keeps old
  have lim : s.heap.NoLimit := e0.mod.nolimit.keeps old
  have hl := len _ _ _ _ hsp
  have hul : us.length = ps.length := r.length.symm.trans hl
  have hkind : ∀ y ∈ ps.zip us, (defScope st).names.lookup y.1 = some .local ∨ ((defScope st).names.lookup y.1 = some .cell ∧ ((cellsFrom (s.heap.objs.size + 1) (defScope st).names []).lookup y.1).isSome = true) := by
    rintro ⟨n, v⟩ hy
    exact (S.par n (List.of_mem_zip hy).1).imp_right fun q => ⟨q, PySem.W.cellsFrom_some _ _ _ (.inl q)⟩
  have bind := hb s us KX (by simpa using hul)
  rw [List.append_nil] at bind
  refine codeAny_call_function hr.depth (KX _ _ lk) rfl S.co S.gen rfl (PySem.W.codeRec_of KX hcd) (bind _ _ _ _ (wpAny_newFunctionEnv_cells S.kind hkind fun env he s1 x => ?_))
  subst he
  refine ⟨lim.keeps x.toInCall.keep, codeAny_func ?_⟩
  obtain ⟨t, ht, hq⟩ := hbody cdv A outer s H vs Q (hr.deeper _) hgd hsp
  have I := inv_start (CX := CX0) (E := E0) S hr.hd e0 hl r x
  have back : ∀ {σ' : L2.St} {H' : Hp} {v : V} {u : Value} {s' : Shared}, Inv (cxOf CX0 P w K mg base N qual (defScope st) f cdv A outer s H E0) [] σ' H' s' → RelV v u → Q v H' → CE outer P w H s Q u s' :=
    fun J rv q => ⟨_, _, J.os, J.bare, J.base, J.hok, rv, q⟩
  refine wpAny_mono (ht.nox.run [] s1 (start N vs) H _ I hq) (fun fl s' hs => ?_) fun e s' hs => hs
  cases fl with
  | ret u =>
    obtain ⟨v, σ', H', J, rv, q⟩ := hs
    exact back J rv q
  | next =>
    obtain ⟨σ', H', J, q⟩ := hs
    exact back (v := V.non) (u := Value.none) J rfl q
  | brk => exact hs.elim fun _ h => h.elim fun _ h => h.2.elim
  | cont => exact hs.elim fun _ h => h.elim fun _ h => h.2.elim
end
section
variable {X : Cx} {k : Nat} {f : Addr} {sp : Sp} {x : Str} {p pos : Pos} {e : Expr} {es : List Expr} {t : TA}
/-- f(e, ..) where no repr is under way -/
theorem pe_cG (F : FnG X.prog X.w X.K X.mg X.base k f sp) (hr : Room k X.A) (hgd : X.A.guards = some []) (hg : Gl X x) (hm : X.mg x = some (.ref f)) (hk : PySem.W.keepIn X.K (.ref f) = true) (ha : PA X (e :: es) t) (hdb : (x == ("__debug__" : Str)) = false := by decide)
    (he : starEach (e :: es) X.env = (false, eval e X.env) :: starEach es X.env := by rfl) (hpl : (backTo pos (starEach es X.env)).any (·.1) = false := by rfl) : PE X (.Call (.Name x p) (e :: es) [] pos) (tC0 sp t) := by
  refine ⟨fun pins s σ H Q I h => ?_⟩
  refine wpAny_Call_Name_kw (ld_glob I hg hm ?_ hdb)
  refine PySem.W.callWith_K (h₀ := X.base) I.ok.mod.kin hk (thn (ha.run pos pins s σ H _ I h) fun us s1 hq => ?_) he hpl
  obtain ⟨vs, H1, I1, r, q⟩ := hq
  refine ⟨I1.kIn, wpAny_call (codeAny_mono (F X.A X.stack s1 H1 us vs Q hr hgd I1.env0 r q) fun rr s' z => ?_)⟩
  cases rr with
  | error e => exact z.elim
  | ok fl =>
    cases fl with
    | ret u => exact I1.after z
    | _ => exact z.elim
end
/-- the law's call: its promise at the heap behind the top -/
theorem law_callG {P : Program} {w : World} {K : PySem.W.Frag} {mg mb : Str → Option Value} {k : Nat} {fa a : Addr} {sp : Sp} {s1 : Shared} {vs : List Value} {ns : List Int}
    (KX : K.In s1.heap) (hns : s1.heap.Ns mainGlobals mg) (hb : s1.heap.Ns builtinsNs mb) (hbb : ∀ x : Str, x ≠ "__name__" → mb x = bootBuiltins x) (hlim : s1.heap.NoLimit) (hg : s1.gens = #[])
    (ha : s1.heap.get? a = some { cls := .type "list", data := .seq vs.toArray }) (hi : IntsAre vs ns) (hl : ns.length ≤ sizeLine) (hr : Room k callerA)
    (F : ∀ base : Heap, K.In base → base.Ns mainGlobals mg → FnG P w K mg base k fa sp)
    (hsp : ∀ H : Hp, SqL K H a (ns.map V.int) → sp [.ref a] H (fun v _ => v = .bl true) E0) :
    codeAny (model P w) callerA (.call (.ref fa) ⟨[.ref a], []⟩) (fun r s' => r = .ok (.ret (.bool true)) ∧ OldK s1.heap s'.heap ∧ s'.os = s1.os ∧ AllBare s'.gens) s1 := by
  have rv := vals_ints hi
  have core : ∀ H : Hp, Only H → SqL K H a (ns.map V.int) → HOk P w H s1.heap → (∀ b, H b ≠ none → b = a) → (H a ≠ none → K.lookup a = none) →
      codeAny (model P w) callerA (.call (.ref fa) ⟨[.ref a], []⟩) (fun r s' => r = .ok (.ret (.bool true)) ∧ OldK s1.heap s'.heap ∧ s'.os = s1.os ∧ AllBare s'.gens) s1 := by
    intro H hO hS hok hA hK
    have notA : ∀ {b : Addr}, b ≠ a → H b = none := fun {b} n => Classical.byContradiction fun q => n (hA b q)
    have free : ∀ {b : Addr} {o : Obj} {es : Array DictEntry} {ep : Nat}, s1.heap.get? b = some o → o.data = .dict es ep → H b = none := fun {b o es ep} e d => notA fun z => by
      subst z
      rw [ha] at e
      cases e
      exact nomatch (show Data.seq vs.toArray _ = Data.dict es ep from d)
    have nsK : ∀ {b : Addr} {m : Str → Option Value}, s1.heap.Ns b m → (hidT s1.heap H).Ns b m := fun {b m} ⟨o, es, ep, e, d, r⟩ => ⟨o, es, ep, hidT_get e (free e d), d, r⟩
    have hKb : K.In (hidT s1.heap H) := fun b o e => hidT_get (KX b o e) (Classical.byContradiction fun q => by
      have z := hA b q
      subst z
      rw [hK q] at e
      cases e)
    have hM : Mod K mg (hidT s1.heap H) := ⟨hKb, nsK hns, ⟨mb, nsK hb, hbb⟩, hlim.elim fun mc z => ⟨mc, nsK z.1, z.2⟩⟩
    have e0 : Env0 P w K mg (hidT s1.heap H) callerA [] s1 H := ⟨rfl, hM, fun b o e => of_hidT e, Nat.le_of_eq (hidT_size _ _), trivial, fun b hb => absurd (show b ∈ ([] : List Addr) from hb) List.not_mem_nil, hok, .of_eq hg⟩
    refine codeAny_mono (F _ hKb (nsK hns) callerA [] s1 H [.ref a] [.ref a] _ hr rfl e0 (.cons rfl .nil) (hsp H hS)) fun r s' h => ?_
    cases r with
    | error e => exact h.elim
    | ok fl =>
      cases fl with
      | ret u =>
        obtain ⟨v, H', os, bare, un, hok', r', rfl⟩ := h
        cases r'
        refine ⟨rfl, OldK.of_keep fun b o e => ?_, os, bare⟩
        cases q : H b with
        | none => exact un.keep b o e q (fun z => absurd (show b ∈ ([] : List Addr) from z) List.not_mem_nil) (by simp)
        | some u =>
          rcases hO b with z | ⟨ob, xs, z⟩
          · rw [q] at z
            cases z
          · obtain ⟨e1, _⟩ := hok b _ z
            obtain ⟨e2, _⟩ := hok' b _ (un.frzs b ob _ z)
            rw [e] at e1
            cases e1
            exact e2
      | _ => exact h.elim
  cases hk : K.lookup a with
  | some o =>
    have e := KX a o hk
    rw [ha] at e
    cases e
    refine core (fun _ => none) (fun _ => .inl rfl) (.inr ⟨_, vs.toArray, _, hk, rfl, rfl, rfl, ?_, by simpa using rv⟩) (fun b u z => nomatch (show (none : Option HO) = some u from z)) (fun b z => absurd rfl z) fun z => absurd rfl z
    rw [List.size_toArray, hi.length]
    exact hl
  | none =>
    refine core (fun b => if b = a then some (.frz { cls := .type "list", data := .seq vs.toArray } (.lst (ns.map V.int))) else none) (fun b => ?_) (.inl (.inr ⟨{ cls := .type "list", data := .seq vs.toArray }, if_pos rfl⟩)) (fun b u z => ?_) (fun b z => Classical.byContradiction fun hb => z (if_neg hb)) fun _ => hk
    · by_cases hb : b = a
      · exact .inr ⟨_, _, if_pos hb⟩
      · exact .inl (if_neg hb)
    · by_cases hb : b = a
      · cases (if_pos hb).symm.trans z
        subst hb
        exact ⟨ha, by rw [List.length_map]; exact hl, vs, _, rv, ha⟩
      · exact nomatch (if_neg hb).symm.trans z
end K57
end

section
set_option Elab.async false
set_option linter.all false
set_option maxRecDepth 100000
set_option maxHeartbeats 4000000
namespace K57
open PySem PySem.Spec PyProof.Rows L2 StX ClX
/-! the text by places -/
def top (i : Nat) : Stmt := PySem.Challenge.pw_chainmaps_k57_whole_losing_words_or_evid.main.body.getD i (.Pass ⟨0, 0, 0, 0⟩)
/-- what the top leaves, as the walk uses it -/
structure TX (K : PySem.W.Frag) (mg : Str → Option Value) where
  a_isInt : Addr
  a_inRange : Addr
  a_checkSize : Addr
  a_areArrows : Addr
  a_commonSize : Addr
  a_firstClash : Addr
  a_checkMap : Addr
  a_checkAll : Addr
  a_placesAfter : Addr
  a_checkMany : Addr
  a_made : Addr
  a_checkWord : Addr
  a_checkFamily : Addr
  a_imageOf : Addr
  a_searched : Addr
  a_losingWord : Addr
  a_holdingSets : Addr
  a_isSet : Addr
  a_isHolding : Addr
  a_lHand : Addr
  a_lDraw : Addr
  a_lArrows : Addr
  a_lFamily : Addr
  a_lImage : Addr
  a_lSearch : Addr
  a_lIsList : Addr
  a_lIs : Addr
  a_lBent : Addr
  a_lRight : Addr
  a_lGreat : Addr
  a_law : Addr
  a_mInit : Addr
  a_mIdent : Addr
  a_mEmpty : Addr
  a_mSize : Addr
  a_mArrows : Addr
  a_mMul : Addr
  a_mOr : Addr
  a_mEq : Addr
  a_fMaps : Addr
  a_fSize : Addr
  a_fCall : Addr
  a_fAdd : Addr
  a_fLen : Addr
  a_fInit : Addr
  CM : Addr
  CF : Addr
  mc : Value
  pSize : Addr
  pArrows : Addr
  pMaps : Addr
  pFSize : Addr
  cIdent : Addr
  cEmpty : Addr
  d_isInt : DefAt K "is_integer" "is_integer" (top 13) a_isInt ["value"]
  m_isInt : mg "is_integer" = some (.ref a_isInt)
  d_inRange : DefAt K "in_range" "in_range" (top 14) a_inRange ["value", "least", "most"]
  m_inRange : mg "in_range" = some (.ref a_inRange)
  d_checkSize : DefAt K "check_size" "check_size" (top 15) a_checkSize ["size"]
  m_checkSize : mg "check_size" = some (.ref a_checkSize)
  d_areArrows : DefAt K "are_arrows" "are_arrows" (top 16) a_areArrows ["size", "arrows"]
  m_areArrows : mg "are_arrows" = some (.ref a_areArrows)
  d_commonSize : DefAt K "common_size" "common_size" (top 17) a_commonSize ["one", "other"]
  m_commonSize : mg "common_size" = some (.ref a_commonSize)
  d_firstClash : DefAt K "first_clash" "first_clash" (top 22) a_firstClash ["arrows", "others"]
  m_firstClash : mg "first_clash" = some (.ref a_firstClash)
  d_checkMap : DefAt K "check_map" "check_map" (top 23) a_checkMap ["value"]
  m_checkMap : mg "check_map" = some (.ref a_checkMap)
  d_checkAll : DefAt K "check_all" "check_all" (top 25) a_checkAll ["maps"]
  m_checkAll : mg "check_all" = some (.ref a_checkAll)
  d_placesAfter : DefAt K "places_after" "places_after" (top 27) a_placesAfter ["places", "table"]
  m_placesAfter : mg "places_after" = some (.ref a_placesAfter)
  d_checkMany : DefAt K "check_many" "check_many" (top 32) a_checkMany ["number"]
  m_checkMany : mg "check_many" = some (.ref a_checkMany)
  d_made : DefAt K "made" "made" (top 34) a_made ["maps"]
  m_made : mg "made" = some (.ref a_made)
  d_checkWord : DefAt K "check_word" "check_word" (top 35) a_checkWord ["family", "word"]
  m_checkWord : mg "check_word" = some (.ref a_checkWord)
  d_checkFamily : DefAt K "check_family" "check_family" (top 36) a_checkFamily ["family"]
  m_checkFamily : mg "check_family" = some (.ref a_checkFamily)
  d_imageOf : DefAt K "image_of" "image_of" (top 37) a_imageOf ["places", "table"]
  m_imageOf : mg "image_of" = some (.ref a_imageOf)
  d_searched : DefAt K "searched" "searched" (top 38) a_searched ["family"]
  m_searched : mg "searched" = some (.ref a_searched)
  d_losingWord : DefAt K "losing_word" "losing_word" (top 39) a_losingWord ["family"]
  m_losingWord : mg "losing_word" = some (.ref a_losingWord)
  d_holdingSets : DefAt K "holding_sets" "holding_sets" (top 40) a_holdingSets ["family"]
  m_holdingSets : mg "holding_sets" = some (.ref a_holdingSets)
  d_isSet : DefAt K "is_set" "is_set" (top 41) a_isSet ["value", "size"]
  m_isSet : mg "is_set" = some (.ref a_isSet)
  d_isHolding : DefAt K "is_holding" "is_holding" (top 42) a_isHolding ["family", "value"]
  m_isHolding : mg "is_holding" = some (.ref a_isHolding)
  d_lHand : DefAt K "_law_hand" "_law_hand" (top 44) a_lHand ["_law_script", "_law_k"]
  m_lHand : mg "_law_hand" = some (.ref a_lHand)
  d_lDraw : DefAt K "_law_draw" "_law_draw" (top 45) a_lDraw ["_law_pool", "_law_size"]
  m_lDraw : mg "_law_draw" = some (.ref a_lDraw)
  d_lArrows : DefAt K "_law_arrows" "_law_arrows" (top 46) a_lArrows ["_law_pool", "_law_size"]
  m_lArrows : mg "_law_arrows" = some (.ref a_lArrows)
  d_lFamily : DefAt K "_law_family" "_law_family" (top 47) a_lFamily ["_law_maps"]
  m_lFamily : mg "_law_family" = some (.ref a_lFamily)
  d_lImage : DefAt K "_law_image" "_law_image" (top 48) a_lImage ["_law_places", "_law_table", "_law_size"]
  m_lImage : mg "_law_image" = some (.ref a_lImage)
  d_lSearch : DefAt K "_law_search" "_law_search" (top 49) a_lSearch ["_law_tables", "_law_size"]
  m_lSearch : mg "_law_search" = some (.ref a_lSearch)
  d_lIsList : DefAt K "_law_is_list" "_law_is_list" (top 50) a_lIsList ["_law_value", "_law_size"]
  m_lIsList : mg "_law_is_list" = some (.ref a_lIsList)
  d_lIs : DefAt K "_law_is" "_law_is" (top 51) a_lIs ["_law_tables", "_law_size", "_law_value"]
  m_lIs : mg "_law_is" = some (.ref a_lIs)
  d_lBent : DefAt K "_law_bent" "_law_bent" (top 52) a_lBent ["_law_pool", "_law_value", "_law_size"]
  m_lBent : mg "_law_bent" = some (.ref a_lBent)
  d_lRight : DefAt K "_law_right" "_law_right" (top 53) a_lRight ["_law_pool", "_law_family_here", "_law_tables", "_law_size"]
  m_lRight : mg "_law_right" = some (.ref a_lRight)
  d_lGreat : DefAt K "_law_great" "_law_great" (top 54) a_lGreat []
  m_lGreat : mg "_law_great" = some (.ref a_lGreat)
  d_law : DefAt K "law" "law" (top 55) a_law ["_law_script"]
  m_law : mg "law" = some (.ref a_law)
  d_mInit : DefAt K "__init__" "Map.__init__" (inClass (top 20) 0) a_mInit ["self", "size", "arrows"]
  d_mIdent : DefAt K "identity" "Map.identity" (inClass (top 20) 1) a_mIdent ["cls", "size"]
  d_mEmpty : DefAt K "empty" "Map.empty" (inClass (top 20) 2) a_mEmpty ["cls", "size"]
  d_mSize : DefAt K "size" "Map.size" (inClass (top 20) 6) a_mSize ["self"]
  d_mArrows : DefAt K "arrows" "Map.arrows" (inClass (top 20) 7) a_mArrows ["self"]
  d_mMul : DefAt K "__mul__" "Map.__mul__" (inClass (top 20) 8) a_mMul ["self", "other"]
  d_mOr : DefAt K "__or__" "Map.__or__" (inClass (top 20) 14) a_mOr ["self", "other"]
  d_mEq : DefAt K "__eq__" "Map.__eq__" (inClass (top 20) 25) a_mEq ["self", "other"]
  d_fMaps : DefAt K "maps" "Family.maps" (inClass (top 33) 2) a_fMaps ["self"]
  d_fSize : DefAt K "size" "Family.size" (inClass (top 33) 3) a_fSize ["self"]
  d_fCall : DefAt K "__call__" "Family.__call__" (inClass (top 33) 4) a_fCall ["self", "word"]
  d_fAdd : DefAt K "__add__" "Family.__add__" (inClass (top 33) 5) a_fAdd ["self", "other"]
  d_fLen : DefAt K "__len__" "Family.__len__" (inClass (top 33) 8) a_fLen ["self"]
  d_fInit : ∃ fd, Fun K "__init__" "Family.__init__" (inClass (top 33) 1) a_fInit fd
  clM : Cls K CM
  mkM : Mk K CM a_mInit
  mgM : mg "Map" = some (.ref CM)
  sfM : PySem.W.selfFirst K CM = true
  moM : PySem.W.mroIn K CM (.type "object") = some true
  kcM : PySem.W.findIn K (.ref CM) "__class__" = some (some (.builtin "object.__class__"))
  clF : Cls K CF
  mkF : Mk K CF a_fInit
  mgF : mg "Family" = some (.ref CF)
  sfF : PySem.W.selfFirst K CF = true
  moF : PySem.W.mroIn K CF (.type "object") = some true
  kcF : PySem.W.findIn K (.ref CF) "__class__" = some (some (.builtin "object.__class__"))
  nM1 : NoAttr K CM "own_size"
  nM2 : NoAttr K CM "own_arrows"
  nF : NoAttr K CF "own_maps"
  kcn : PySem.W.specialIn K (.builtin "object.__class__") "__get__" = some (some (.builtin "getset_descriptor.__get__"))
  kct : PySem.W.takesIn K (.builtin "object.__class__") = some true
  o_pSize : PropOf K CM "size" pSize a_mSize
  o_pArrows : PropOf K CM "arrows" pArrows a_mArrows
  o_pMaps : PropOf K CF "maps" pMaps a_fMaps
  o_pFSize : PropOf K CF "size" pFSize a_fSize
  rdM : CRead K CM mc
  o_cIdent : CMet K CM mc "identity" cIdent a_mIdent
  o_cEmpty : CMet K CM mc "empty" cEmpty a_mEmpty
  hMul : PySem.W.findIn K (.ref CM) "__mul__" = some (some (.ref a_mMul))
  hMulf : PySem.W.isFn K (.ref a_mMul) = true
  hOr : PySem.W.findIn K (.ref CM) "__or__" = some (some (.ref a_mOr))
  hOrf : PySem.W.isFn K (.ref a_mOr) = true
  hEq : PySem.W.findIn K (.ref CM) "__eq__" = some (some (.ref a_mEq))
  hEqf : PySem.W.isFn K (.ref a_mEq) = true
  hNe : PySem.W.findIn K (.ref CM) "__ne__" = some (some (.builtin "object.__ne__"))
  hAdd : PySem.W.findIn K (.ref CF) "__add__" = some (some (.ref a_fAdd))
  hAddf : PySem.W.isFn K (.ref a_fAdd) = true
  hLen : PySem.W.findIn K (.ref CF) "__len__" = some (some (.ref a_fLen))
  hLenf : PySem.W.isFn K (.ref a_fLen) = true
  hCall : CallO K CF a_fCall
  g_MAX_SIZE : ∃ t, mg "MAX_SIZE" = some (.int 300 t)
  g_MOST_MAPS : ∃ t, mg "MOST_MAPS" = some (.int 10 t)
  g_MOST_LETTERS : ∃ t, mg "MOST_LETTERS" = some (.int 1000 t)
  g_MOST_SETS : ∃ t, mg "MOST_SETS" = some (.int 2000 t)
  z_isinstance : mg "isinstance" = none
  z_int : mg "int" = none
  z_bool : mg "bool" = none
  z_dict : mg "dict" = none
  z_range : mg "range" = none
  z_list : mg "list" = none
  z_tuple : mg "tuple" = none
  z_len : mg "len" = none
  z_all : mg "all" = none
  z_sorted : mg "sorted" = none
  z_enumerate : mg "enumerate" = none
  z_zip : mg "zip" = none
  z_min : mg "min" = none
  z_max : mg "max" = none
  z_repr : mg "repr" = none

/-! values and objects -/
abbrev vints (ps : List Nat) : List V := ps.map fun (j : Nat) => V.int (j : Int)
abbrev ikeys (ps : List Nat) : List Key := ps.map fun (j : Nat) => (Sum.inl (j : Int) : Key)
theorem ikeys_kV (ps : List Nat) : (ikeys ps).map kV = vints ps := by
  rw [List.map_map]
  rfl
/-- a dict of arrows, by ascending sources -/
def tab (n : Nat) (g : Fn) : List (Key × V) := (List.range n).filterMap fun (i : Nat) => (g i).map fun (j : Nat) => ((Sum.inl (i : Int) : Key), V.int (j : Int))
theorem mem_tab {n : Nat} {g : Fn} {e : Key × V} : e ∈ tab n g ↔ ∃ i j, i < n ∧ g i = some j ∧ e = (Sum.inl (i : Int), V.int (j : Int)) := by
  rw [tab, List.mem_filterMap]
  constructor
  · rintro ⟨i, hi, h⟩
    obtain ⟨j, hj, e⟩ := Option.map_eq_some_iff.mp h
    exact ⟨i, j, List.mem_range.mp hi, hj, e.symm⟩
  · rintro ⟨i, j, hi, hj, e⟩
    exact ⟨i, List.mem_range.mpr hi, by rw [hj, e]; rfl⟩
theorem tab_len (n : Nat) (g : Fn) : (tab n g).length ≤ n := by
  have := List.length_filterMap_le (fun (i : Nat) => (g i).map fun (j : Nat) => ((Sum.inl (i : Int) : Key), V.int (j : Int))) (List.range n)
  rwa [List.length_range] at this
/-- look-ups in a list that grows at its end -/
theorem valV_append {κ : Type} [DecidableEq κ] (a b : List (κ × V)) (k : κ) : valV (a ++ b) k = (valV a k).or (valV b k) := by
  unfold valV
  rw [List.find?_append]
  cases a.find? fun kv => decide (kv.1 = k) <;> rfl
theorem tab_succ (n : Nat) (g : Fn) : tab (n + 1) g = tab n g ++ ((g n).map fun (j : Nat) => ((Sum.inl (n : Int) : Key), V.int (j : Int))).toList := by
  rw [tab, List.range_succ, List.filterMap_append]
  cases h : g n <;> simp [tab, h]
theorem tab_look (g : Fn) (i : Nat) : ∀ n : Nat, valV (tab n g) (Sum.inl (i : Int)) = if i < n then (g i).map fun (j : Nat) => V.int (j : Int) else none
  | 0 => rfl
  | n + 1 => by
    rw [tab_succ, valV_append, tab_look g i n]
    by_cases h : i < n
    · rw [if_pos h, if_pos (by omega)]
      cases hg : g i with
      | some j => rfl
      | none =>
        cases hn : g n with
        | none => rfl
        | some j =>
          show valV [((Sum.inl (n : Int) : Key), V.int (j : Int))] _ = none
          rw [valV_neg (by intro e; injection e with e; omega)]
          rfl
    · rw [if_neg h]
      by_cases e : i = n
      · subst e
        rw [if_pos (by omega)]
        cases hn : g i with
        | none => rfl
        | some j =>
          show valV [((Sum.inl (i : Int) : Key), V.int (j : Int))] _ = some (V.int (j : Int))
          rw [valV_pos rfl]
      · rw [if_neg (by omega)]
        cases hn : g n with
        | none => rfl
        | some j =>
          show valV [((Sum.inl (n : Int) : Key), V.int (j : Int))] _ = none
          rw [valV_neg (by intro q; injection q with q; omega)]
          rfl
theorem tab_get {n : Nat} {g : Fn} (G : Good n g) (i : Nat) : valV (tab n g) (Sum.inl (i : Int)) = (g i).map fun (j : Nat) => V.int (j : Int) := by
  rw [tab_look]
  by_cases h : i < n
  · rw [if_pos h]
  · rw [if_neg h]
    cases hg : g i with
    | none => rfl
    | some j => exact absurd (G.lt i j hg).1 h
theorem tab_put {n : Nat} {g : Fn} (j : Nat) : putK (tab n g) (Sum.inl (n : Int) : Key) (V.int (j : Int)) = tab n g ++ [((Sum.inl (n : Int) : Key), V.int (j : Int))] :=
  putK_new _ (by rw [tab_look, if_neg (Nat.lt_irrefl n)])

/-! fields -/
theorem os_oa : ¬ (("own_size" : Str) = "own_arrows") := by decide +kernel
theorem oa_os : ¬ (("own_arrows" : Str) = "own_size") := by decide +kernel
/-- a Map's attributes -/
def mf (n : Nat) (d : Addr) : List (Str × V) := putF "own_arrows" (.ref d) (putF "own_size" (.int (n : Int)) [])
theorem mf_size (n : Nat) (d : Addr) : (mf n d).lookup ("own_size" : Str) = some (.int (n : Int)) := by
  unfold mf
  rw [lookup_putF, if_neg os_oa, lookup_putF, if_pos rfl]
theorem mf_arrows (n : Nat) (d : Addr) : (mf n d).lookup ("own_arrows" : Str) = some (.ref d) := by
  unfold mf
  rw [lookup_putF, if_pos rfl]
/-- a Family's attributes -/
def ff (t : Addr) : List (Str × V) := putF "own_maps" (.ref t) []
theorem ff_maps (t : Addr) : (ff t).lookup ("own_maps" : Str) = some (.ref t) := by
  unfold ff
  rw [lookup_putF, if_pos rfl]
/-- a Map of size n with the arrows of g -/
def MapAt (C : Addr) (H : Hp) (m : Addr) (n : Nat) (g : Fn) : Prop := ∃ dx d, H m = some (.ins C dx (mf n d)) ∧ H d = some (.dK (tab n g))
theorem MapAt.same {C : Addr} {H H' : Hp} {m : Addr} {n : Nat} {g : Fn} (s : Same H H') (h : MapAt C H m n g) : MapAt C H' m n g := by
  obtain ⟨dx, d, h1, h2⟩ := h
  exact ⟨dx, d, s _ _ h1, s _ _ h2⟩
/-- Maps, one for each of gs -/
inductive MapsAt (C : Addr) (H : Hp) (n : Nat) : List Addr → List Fn → Prop
  | nil : MapsAt C H n [] []
  | cons {m : Addr} {ms : List Addr} {g : Fn} {gs : List Fn} : MapAt C H m n g → MapsAt C H n ms gs → MapsAt C H n (m :: ms) (g :: gs)
theorem MapsAt.same {C : Addr} {H H' : Hp} {n : Nat} (s : Same H H') : ∀ {ms : List Addr} {gs : List Fn}, MapsAt C H n ms gs → MapsAt C H' n ms gs
  | _, _, .nil => .nil
  | _, _, .cons h r => .cons (h.same s) (r.same s)
theorem MapsAt.len {C : Addr} {H : Hp} {n : Nat} : ∀ {ms : List Addr} {gs : List Fn}, MapsAt C H n ms gs → ms.length = gs.length
  | _, _, .nil => rfl
  | _, _, .cons _ r => by rw [List.length_cons, List.length_cons, r.len]
theorem MapsAt.get {C : Addr} {H : Hp} {n : Nat} : ∀ {ms : List Addr} {gs : List Fn}, MapsAt C H n ms gs → ∀ {i : Nat} {m : Addr}, ms[i]? = some m → ∃ g, gs[i]? = some g ∧ MapAt C H m n g
  | _, _, .cons h r, 0, _, e => by
    cases e
    exact ⟨_, rfl, h⟩
  | _, _, .cons h r, i + 1, _, e => r.get (i := i) e
theorem MapsAt.append {C : Addr} {H : Hp} {n : Nat} : ∀ {ms : List Addr} {gs : List Fn} {ms' : List Addr} {gs' : List Fn}, MapsAt C H n ms gs → MapsAt C H n ms' gs' → MapsAt C H n (ms ++ ms') (gs ++ gs')
  | _, _, _, _, .nil, r => r
  | _, _, _, _, .cons h r, q => .cons h (r.append q)
/-- a Family of Maps -/
def FamAt (CF CM : Addr) (H : Hp) (f : Addr) (n : Nat) (gs : List Fn) : Prop := ∃ dx t ms, H f = some (.ins CF dx (ff t)) ∧ H t = some (.tup (ms.map V.ref)) ∧ MapsAt CM H n ms gs
theorem FamAt.same {CF CM : Addr} {H H' : Hp} {f : Addr} {n : Nat} {gs : List Fn} (s : Same H H') (h : FamAt CF CM H f n gs) : FamAt CF CM H' f n gs := by
  obtain ⟨dx, t, ms, h1, h2, h3⟩ := h
  exact ⟨dx, t, ms, s _ _ h1, s _ _ h2, h3.same s⟩
/-! heaps -/
theorem _root_.L2.Same.upd {H : Hp} {p : Addr} {o : HO} (h : H p = Option.none) : Same H (L2.upd H p o) := fun b u e => by
  rw [upd_ne (ne_of_none e h)]
  exact e
theorem _root_.L2.Same.upd2 {H H1 : Hp} {p : Addr} {o : HO} (s : Same H H1) (h : H1 p = Option.none) : Same H (L2.upd H1 p o) := s.trans (Same.upd h)
/-- an object that is not of the heap at the start is changed -/
theorem _root_.L2.Same.set {H H1 : Hp} {p : Addr} {o : HO} (s : Same H H1) (h : H p = Option.none) : Same H (L2.upd H1 p o) := fun b u e => by
  rw [upd_ne (ne_of_none e h)]
  exact s b u e
theorem _root_.L2.Same.sqT {K : PySem.W.Frag} {H H' : Hp} {a : Addr} {xs : List V} (e : Same H H') (h : SqT K H a xs) : SqT K H' a xs := by
  rcases h with (h | ⟨o, h⟩) | h
  · exact .inl (.inl (e _ _ h))
  · exact .inl (.inr ⟨o, e _ _ h⟩)
  · exact .inr h
/-- but what stands at d -/
def SameX (d : Addr) (H H' : Hp) : Prop := ∀ b o, b ≠ d → H b = some o → H' b = some o
theorem _root_.L2.Same.x {H H' : Hp} {d : Addr} (s : Same H H') : SameX d H H' := fun b o _ e => s b o e
theorem SameX.trans {d : Addr} {H H1 H2 : Hp} (a : SameX d H H1) (b : SameX d H1 H2) : SameX d H H2 := fun c o n e => b c o n (a c o n e)
theorem SameX.updx {d : Addr} {H H1 : Hp} {o : HO} (s : SameX d H H1) : SameX d H (L2.upd H1 d o) := fun b u n e => by
  rw [upd_ne n]
  exact s b u n e
theorem SameX.upd {d p : Addr} {H H1 : Hp} {o : HO} (s : SameX d H H1) (h : H1 p = none) : SameX d H (L2.upd H1 p o) := fun b u n e => by
  have e1 := s b u n e
  rw [upd_ne (ne_of_none e1 h)]
  exact e1
theorem SameX.set {d p : Addr} {H H1 : Hp} {o : HO} (s : SameX d H H1) (h : H p = none) : SameX d H (L2.upd H1 p o) := fun b u n e => by
  rw [upd_ne (ne_of_none e h)]
  exact s b u n e
/-- unlocked again: all is as it was -/
theorem SameX.back {d : Addr} {H H1 : Hp} {o : HO} (s : SameX d H H1) (h : H d = some o) : Same H (L2.upd H1 d o) := fun b u e => by
  by_cases n : b = d
  · subst n
    rw [h] at e
    cases e
    exact upd_same
  · rw [upd_ne n]
    exact s b u n e
theorem SameX.lock {d : Addr} {H : Hp} {o : HO} : SameX d H (L2.upd H d o) := fun b u n e => by
  rw [upd_ne n]
  exact e
theorem DefAt.kp {K : PySem.W.Frag} {x qual : Str} {st : Stmt} {f : Addr} {ps : List Str} (d : DefAt K x qual st f ps) : PySem.W.keepIn K (.ref f) = true := by
  obtain ⟨fd, F, _⟩ := d
  exact F.kp
end K57
end

section
set_option Elab.async false
set_option linter.all false
set_option maxRecDepth 100000
set_option maxHeartbeats 4000000
namespace K57
open PySem PySem.Spec PyProof.Rows L2 StX ClX
/-! is_integer, in_range, check_size, size, arrows, common_size, check_map, check_many -/
def isIB : V → Bool
  | .int _ => true
  | .bl _ => true
  | _ => false
def isB : V → Bool
  | .bl _ => true
  | _ => false
theorem kint {K : PySem.W.Frag} {H : Hp} {x : V} {t : String} (ty : TyX K H x (.type t)) : PySem.W.kitOne K (.type t) (.type "int") = some (isIB x) := by
  cases ty
  case base ty => cases ty <;> refine kit_ty ?_ <;> first | (show kitB _ _ = some true; decide +kernel) | (show kitB _ _ = some false; decide +kernel)
  all_goals refine kit_ty ?_
  all_goals first | (show kitB _ _ = some true; decide +kernel) | (show kitB _ _ = some false; decide +kernel)
theorem kbool {K : PySem.W.Frag} {H : Hp} {x : V} {t : String} (ty : TyX K H x (.type t)) : PySem.W.kitOne K (.type t) (.type "bool") = some (isB x) := by
  cases ty
  case base ty => cases ty <;> refine kit_ty ?_ <;> first | (show kitB _ _ = some true; decide +kernel) | (show kitB _ _ = some false; decide +kernel)
  all_goals refine kit_ty ?_
  all_goals first | (show kitB _ _ = some true; decide +kernel) | (show kitB _ _ = some false; decide +kernel)
def isI : V → Bool
  | .int _ => true
  | _ => false
def inR (l m : Int) : V → Bool
  | .int i => decide (l ≤ i) && decide (i ≤ m)
  | _ => false
def Dt (K : PySem.W.Frag) (H : Hp) (x : V) : Prop := ∃ t, TyX K H x (.type t)
theorem Dt.int {K : PySem.W.Frag} {H : Hp} (i : Int) : Dt K H (.int i) := ⟨_, .base (.int i)⟩
def spIsInt (K : PySem.W.Frag) : Sp := fun vs H Q _ => ∃ x, vs = [x] ∧ Dt K H x ∧ Q (.bl (isI x)) H
def spInRange (K : PySem.W.Frag) : Sp := fun vs H Q _ => ∃ x l m, vs = [x, .int l, .int m] ∧ Dt K H x ∧ Q (.bl (inR l m x)) H
def spCheckSize : Sp := fun vs H Q _ => ∃ n : Nat, vs = [.int (n : Int)] ∧ 1 ≤ n ∧ n ≤ 300 ∧ Q .non H
def spMSize (CM : Addr) : Sp := fun vs H Q _ => ∃ a dx d n, vs = [.ref a] ∧ H a = some (.ins CM dx (mf n d)) ∧ Q (.int (n : Int)) H
def spMArrows (CM : Addr) : Sp := fun vs H Q _ => ∃ a n g, vs = [.ref a] ∧ MapAt CM H a n g ∧ ∀ p, H p = none → Q (.ref p) (upd H p (.dK (tab n g)))
def spCommon (CM : Addr) : Sp := fun vs H Q _ => ∃ a b n g h, vs = [.ref a, .ref b] ∧ MapAt CM H a n g ∧ MapAt CM H b n h ∧ Q (.int (n : Int)) H
def spCheckMap (CM : Addr) : Sp := fun vs H Q _ => ∃ a n g, vs = [.ref a] ∧ MapAt CM H a n g ∧ Q .non H
def spCheckMany : Sp := fun vs H Q _ => ∃ n : Nat, vs = [.int (n : Int)] ∧ n ≤ 10 ∧ Q .non H
section
variable {P : Program} {w : World} {K : PySem.W.Frag} {mg : Str → Option Value} {base : Heap} {k : Nat}
theorem tyM (T : TX K mg) {H : Hp} {a dx : Addr} {fs : List (Str × V)} (h : H a = some (.ins T.CM dx fs)) : TyX K H (.ref a) (.ref T.CM) := .base (.ins h T.clM T.kcM T.kcn T.kct T.moM)
theorem tyF (T : TX K mg) {H : Hp} {a dx : Addr} {fs : List (Str × V)} (h : H a = some (.ins T.CF dx fs)) : TyX K H (.ref a) (.ref T.CF) := .base (.ins h T.clF T.kcF T.kcn T.kct T.moF)
theorem kit_self {K : PySem.W.Frag} {C : Addr} : PySem.W.kitOne K (.ref C) (.ref C) = some true := by
  unfold PySem.W.kitOne
  simp
theorem scIsInt : FnScope ["value"] ["value"] (defScope (top 13)) := ⟨rfl, rfl, rfl, by decide +kernel, rfl, by decide +kernel, by decide +kernel⟩
theorem ok_isInt (T : TX K mg) : Fn0 P w K mg base (k + 1) T.a_isInt (spIsInt K) := by
  refine T.d_isInt.ok scIsInt (fun vs H Q E h => ?_) (fun cdv A outer s H vs Q E hr h => ?_)
  · obtain ⟨x, rfl, _⟩ := h
    rfl
  · obtain ⟨x, rfl, ⟨t, ty⟩, q⟩ := h
    refine ⟨_, pss_one (ps_ret (pe_and (pe_callB call_isi rfl T.z_isinstance boot_isinstance (pa_cons (pv 0) (pa_cons (pe_bltn (v := .ty "int") rfl T.z_int boot_int rfl) pa_nil)))
      (pe_one (pe_not (pe_callB call_isi rfl T.z_isinstance boot_isinstance (pa_cons (pv 0) (pa_cons (pe_bltn (v := .ty "bool") rfl T.z_bool boot_bool rfl) pa_nil))))))), ?_⟩
    refine ⟨x, rfl, x, _, _, _, _, rfl, .ty "int", ty, kint ty, _, rfl, ?_⟩
    refine ite2 (fun h => ⟨x, rfl, x, _, _, _, _, rfl, .ty "bool", ty, kbool ty, _, rfl, ?_⟩) (fun h => ?_)
    · cases x <;> first | exact q | cases h
    · cases x <;> first | exact q | exact absurd rfl h
theorem scInRange : FnScope ["value", "least", "most"] ["value", "least", "most"] (defScope (top 14)) := ⟨rfl, rfl, rfl, by decide +kernel, rfl, by decide +kernel, by decide +kernel⟩
theorem ok_inRange (T : TX K mg) : Fn0 P w K mg base (k + 2) T.a_inRange (spInRange K) := by
  refine T.d_inRange.ok scInRange (fun vs H Q E h => ?_) (fun cdv A outer s H vs Q E hr h => ?_)
  · obtain ⟨x, l, m, rfl, _⟩ := h
    rfl
  · obtain ⟨x, l, m, rfl, dt, q⟩ := h
    refine ⟨_, pss_one (ps_ret (pe_and (pe_cR (ok_isInt T) hr rfl T.m_isInt T.d_isInt.kp (pa_cons (pv 0) pa_nil)) (pe_one (pe_chain op_le op_le (pv 1) (pv 0) (pv 2))))), ?_⟩
    refine ⟨x, rfl, x, rfl, dt, _, rfl, ?_⟩
    refine ite2 (fun h => ?_) (fun h => ?_)
    · cases x <;> try (cases h; done)
      rename_i i
      refine ⟨_, rfl, _, rfl, l, i, rfl, rfl, _, rfl, ?_⟩
      refine ite2 (fun h => ?_) (fun h => ?_)
      · refine ⟨_, rfl, i, m, rfl, rfl, ?_⟩
        have e : inR l m (.int i) = decide (i ≤ m) := by
          show (decide (l ≤ i) && decide (i ≤ m)) = decide (i ≤ m)
          rw [h]
          rfl
        rw [e] at q
        exact q
      · have e : inR l m (.int i) = false := by
          show (decide (l ≤ i) && decide (i ≤ m)) = false
          rw [Bool.eq_false_iff.mpr h]
          rfl
        rw [e] at q
        exact q
    · cases x <;> first | exact q | exact absurd rfl h
theorem inR_nat {n : Nat} {i : Nat} (h : i < n) : inR 0 ((n : Int) - 1) (.int (i : Int)) = true := by
  show (decide ((0 : Int) ≤ i) && decide ((i : Int) ≤ (n : Int) - 1)) = true
  rw [decide_eq_true (by omega), decide_eq_true (by omega)]
  rfl
theorem inR_size {n : Nat} (h1 : 1 ≤ n) (h2 : n ≤ 300) : inR 1 300 (.int (n : Int)) = true := by
  show (decide ((1 : Int) ≤ n) && decide ((n : Int) ≤ 300)) = true
  rw [decide_eq_true (by omega), decide_eq_true (by omega)]
  rfl
theorem scCheckSize : FnScope ["size"] ["size"] (defScope (top 15)) := ⟨rfl, rfl, rfl, by decide +kernel, rfl, by decide +kernel, by decide +kernel⟩
theorem ok_checkSize (T : TX K mg) : Fn0 P w K mg base (k + 3) T.a_checkSize spCheckSize := by
  refine T.d_checkSize.ok scCheckSize (fun vs H Q E h => ?_) (fun cdv A outer s H vs Q E hr h => ?_)
  · obtain ⟨n, rfl, _⟩ := h
    rfl
  · obtain ⟨n, rfl, h1, h2, q⟩ := h
    obtain ⟨t, gm⟩ := T.g_MAX_SIZE
    refine ⟨_, pss_one (ps_if (pt_not (pt_val (pe_cR (ok_inRange T) hr rfl T.m_inRange T.d_inRange.kp (pa_cons (pv 0) (pa_cons pe_int (pa_cons (pe_glob (v := .int 300) rfl gm ⟨t, rfl⟩) pa_nil)))))) pss_never pss_nil), ?_⟩
    refine ⟨_, rfl, _, _, _, rfl, .int _, _, rfl, ?_⟩
    rw [inR_size h1 h2]
    exact iteF q
theorem scMSize : FnScope ["self"] ["self"] (defScope (inClass (top 20) 6)) := ⟨rfl, rfl, rfl, by decide +kernel, rfl, by decide +kernel, by decide +kernel⟩
theorem ok_mSize (T : TX K mg) : Fn0 P w K mg base (k + 1) T.a_mSize (spMSize T.CM) := by
  refine T.d_mSize.ok scMSize (fun vs H Q E h => ?_) (fun cdv A outer s H vs Q E hr h => ?_)
  · obtain ⟨a, dx, d, n, rfl, _⟩ := h
    rfl
  · obtain ⟨a, dx, d, n, rfl, h1, q⟩ := h
    refine ⟨_, pss_one (ps_ret (pe_fld (pv 0) rfl)), ?_⟩
    exact ⟨_, rfl, a, T.CM, dx, _, _, rfl, h1, T.clM, T.nM1, mf_size _ _, q⟩
theorem scMArrows : FnScope ["self"] ["self"] (defScope (inClass (top 20) 7)) := ⟨rfl, rfl, rfl, by decide +kernel, rfl, by decide +kernel, by decide +kernel⟩
theorem ok_mArrows (T : TX K mg) : Fn0 P w K mg base (k + 1) T.a_mArrows (spMArrows T.CM) := by
  refine T.d_mArrows.ok scMArrows (fun vs H Q E h => ?_) (fun cdv A outer s H vs Q E hr h => ?_)
  · obtain ⟨a, n, g, rfl, _⟩ := h
    rfl
  · obtain ⟨a, n, g, rfl, ⟨dx, d, h1, h2⟩, q⟩ := h
    refine ⟨_, pss_one (ps_ret (pe_callTy call_dictCopy rfl T.z_dict boot_dict (pa_cons (pe_fld (pv 0) rfl) pa_nil))), ?_⟩
    exact ⟨_, rfl, a, T.CM, dx, _, _, rfl, h1, T.clM, T.nM2, mf_arrows _ _, d, _, rfl, .of h2, q⟩
theorem scCommon : FnScope ["one", "other"] ["one", "other"] (defScope (top 17)) := ⟨rfl, rfl, rfl, by decide +kernel, rfl, by decide +kernel, by decide +kernel⟩
theorem ok_common (T : TX K mg) : Fn0 P w K mg base (k + 3) T.a_commonSize (spCommon T.CM) := by
  refine T.d_commonSize.ok scCommon (fun vs H Q E h => ?_) (fun cdv A outer s H vs Q E hr h => ?_)
  · obtain ⟨a, b, n, g, h', rfl, _⟩ := h
    rfl
  · obtain ⟨a, b, n, g, h', rfl, ⟨dx, d, h1, h2⟩, ⟨dy, e, h3, h4⟩, q⟩ := h
    refine ⟨_, pss_cons (ps_if (pt_cmpR op_ne (pe_propR (pv 0) T.clM T.o_pSize (ok_mSize (k := 0) T) (hr.mono (by omega))) (pe_propR (pv 1) T.clM T.o_pSize (ok_mSize (k := 0) T) (hr.mono (by omega))) (nomark _)) pss_never pss_nil)
      (pss_one (ps_ret (pe_propR (pv 0) T.clM T.o_pSize (ok_mSize (k := 0) T) (hr.mono (by omega))))), ?_⟩
    refine ⟨_, rfl, a, _, _, rfl, h1, a, _, _, n, rfl, h1, _, rfl, b, _, _, rfl, h3, b, _, _, n, rfl, h3, rfl, ?_⟩
    have e1 : decide (V.int (n : Int) = V.int (n : Int)) = true := decide_eq_true rfl
    refine ⟨_, rfl, ?_⟩
    rw [e1]
    refine iteF ?_
    exact ⟨_, rfl, a, _, _, rfl, h1, a, _, _, n, rfl, h1, q⟩
theorem scCheckMap : FnScope ["value"] ["value"] (defScope (top 23)) := ⟨rfl, rfl, rfl, by decide +kernel, rfl, by decide +kernel, by decide +kernel⟩
theorem ok_checkMap (T : TX K mg) : Fn0 P w K mg base (k + 1) T.a_checkMap (spCheckMap T.CM) := by
  refine T.d_checkMap.ok scCheckMap (fun vs H Q E h => ?_) (fun cdv A outer s H vs Q E hr h => ?_)
  · obtain ⟨a, n, g, rfl, _⟩ := h
    rfl
  · obtain ⟨a, n, g, rfl, ⟨dx, d, h1, h2⟩, q⟩ := h
    refine ⟨_, pss_one (ps_if (pt_not (pt_val (pe_callB call_isi rfl T.z_isinstance boot_isinstance (pa_cons (pv 0) (pa_cons (pe_glob (v := .ref T.CM) rfl T.mgM rfl) pa_nil))))) pss_never pss_nil), ?_⟩
    refine ⟨_, rfl, _, _, _, _, _, rfl, .own _, tyM T h1, kit_self, _, rfl, ?_⟩
    exact iteF q
theorem scCheckMany : FnScope ["number"] ["number"] (defScope (top 32)) := ⟨rfl, rfl, rfl, by decide +kernel, rfl, by decide +kernel, by decide +kernel⟩
theorem ok_checkMany (T : TX K mg) : Fn0 P w K mg base (k + 1) T.a_checkMany spCheckMany := by
  refine T.d_checkMany.ok scCheckMany (fun vs H Q E h => ?_) (fun cdv A outer s H vs Q E hr h => ?_)
  · obtain ⟨n, rfl, _⟩ := h
    rfl
  · obtain ⟨n, rfl, h1, q⟩ := h
    obtain ⟨t, gm⟩ := T.g_MOST_MAPS
    refine ⟨_, pss_one (ps_if (pt_cmpR op_gt (pv 0) (pe_glob (v := .int 10) rfl gm ⟨t, rfl⟩) (nomark _)) pss_never pss_nil), ?_⟩
    refine ⟨_, rfl, _, _, rfl, rfl, _, rfl, ?_⟩
    have e1 : decide ((10 : Int) < (n : Int)) = false := decide_eq_false (by omega)
    rw [e1]
    exact iteF q
end
end K57
end

section
set_option Elab.async false
set_option linter.all false
set_option maxRecDepth 100000
set_option maxHeartbeats 4000000
namespace K57
open PySem PySem.Spec PyProof.Rows L2 StX ClX
/-! are_arrows, Map.__init__, identity, empty, __mul__ -/
theorem walk_range0 {n : Nat} : Walk (Itr 0 n) n (fun _ => True) (YFn fun i => .int (i : Int)) :=
  walk_range.mono (fun _ h => h) fun i H x H' _ _ h => ⟨h.1, h.2.trans (congrArg V.int (Int.zero_add (i : Int)))⟩
theorem tab_keys_nd (g : Fn) : ∀ n : Nat, ((tab n g).map (·.1)).Nodup
  | 0 => List.nodup_nil
  | n + 1 => by
    rw [tab_succ, List.map_append]
    cases h : g n with
    | none =>
      show (List.map (fun e : Key × V => e.1) (tab n g) ++ []).Nodup
      rw [List.append_nil]
      exact tab_keys_nd g n
    | some j => exact nd_snoc (tab_keys_nd g n) (valV_not (by rw [tab_look, if_neg (Nat.lt_irrefl n)]))
theorem tab_at {n : Nat} {g : Fn} {i : Nat} {e : Key × V} (h : (tab n g)[i]? = some e) : ∃ s t : Nat, s < n ∧ g s = some t ∧ e = (Sum.inl (s : Int), V.int (t : Int)) := mem_tab.mp (List.mem_of_getElem? h)
/-- two entries of one target are one -/
theorem tab_target {n : Nat} {g : Fn} (G : Good n g) {i j : Nat} {e f : Key} {t : Nat} (hi : (tab n g)[i]? = some (e, V.int (t : Int))) (hj : (tab n g)[j]? = some (f, V.int (t : Int))) : i = j := by
  obtain ⟨s, t1, _, g1, e1⟩ := tab_at hi
  obtain ⟨s', t2, _, g2, e2⟩ := tab_at hj
  have a1 : (t : Int) = t1 := V.int.inj (congrArg Prod.snd e1)
  have a2 : (t : Int) = t2 := V.int.inj (congrArg Prod.snd e2)
  have b : s = s' := G.inj s s' t (by rw [g1]; congr 1; omega) (by rw [g2]; congr 1; omega)
  have c : e = f := by
    rw [show e = Sum.inl (s : Int) from congrArg Prod.fst e1, show f = Sum.inl (s' : Int) from congrArg Prod.fst e2, b]
  refine nd_ix (tab_keys_nd g n) (x := e) ?_ ?_
  · rw [List.getElem?_map, hi]
    rfl
  · rw [List.getElem?_map, hj, c]
    rfl
theorem small300 {n : Nat} (h : n ≤ 300) : n < sizeLine := small1000 (by omega)
def spAreArrows : Sp := fun vs H Q _ => ∃ n g d, vs = [.int ((n : Nat) : Int), .ref d] ∧ H d = some (.dK (tab n g)) ∧ Good n g ∧ n ≤ 300 ∧ ∀ H', Same H H' → Q (.bl true) H'
section
variable {P : Program} {w : World} {K : PySem.W.Frag} {mg : Str → Option Value} {base : Heap} {k : Nat}
theorem scAreArrows : FnScope ["size", "arrows", "targets", "source", "target"] ["size", "arrows"] (defScope (top 16)) := ⟨rfl, rfl, rfl, by decide +kernel, rfl, by decide +kernel, by decide +kernel⟩
theorem ok_areArrows (T : TX K mg) : Fn0 P w K mg base (k + 3) T.a_areArrows spAreArrows := by
  refine T.d_areArrows.ok scAreArrows (fun vs H Q E h => ?_) (fun cdv A outer s H vs Q E hr h => ?_)
  · obtain ⟨n, g, d, rfl, _⟩ := h
    rfl
  · obtain ⟨n, g, d, rfl, hd, G, hn, q⟩ := h
    have hu := hu_of hr
    refine ⟨_, pss_cons (ps_if (pt_not (pt_val (pe_callB call_isi rfl T.z_isinstance boot_isinstance (pa_cons (pv 1) (pa_cons (pe_bltn (v := .ty "dict") rfl T.z_dict boot_dict rfl) pa_nil))))) pss_never pss_nil)
      (pss_cons (ps_set (i := 2) scAreArrows.nd rfl (.inl rfl) pe_dnewK)
      (pss_cons (ps_lock (ps_for PassesOwn.never rfl (pi_items (pv 1)) (pg_tup rfl (pgs_cons (pg_name (i := 3) scAreArrows.nd rfl (.inl rfl)) (pgs_cons (pg_name (i := 4) scAreArrows.nd rfl (.inl rfl)) pgs_nil)))
        (pss_cons (ps_if (PW.pt (pw_or (pt_not (pt_val (pe_cR (ok_inRange (k := k) T) hr rfl T.m_inRange T.d_inRange.kp (pa_cons (pv 3) (pa_cons pe_int (pa_cons (pe_op op_sub (pv 0) pe_int) pa_nil))))))
            (pw_or (pt_not (pt_val (pe_cR (ok_inRange (k := k) T) hr rfl T.m_inRange T.d_inRange.kp (pa_cons (pv 4) (pa_cons pe_int (pa_cons (pe_op op_sub (pv 0) pe_int) pa_nil))))))
            (pw_or1 (pt_cmp (pc_din hu (pv 4) (pv 2))))))) pss_never pss_nil)
          (pss_one (ps_dput hu (pv 2) (pv 4) pe_bl rfl)))))
      (pss_one (ps_ret pe_bl)))), ?_⟩
    refine ⟨_, rfl, _, _, _, _, true, rfl, .ty "dict", .base (.dK hd), kit_ty (by decide +kernel), _, rfl, iteF ?_⟩
    intro p np
    have npd : d ≠ p := ne_of_none hd np
    refine ⟨d, .dK (tab n g), (by rw [upd_ne npd]; exact hd), trivial, fun od => ?_⟩
    refine ⟨_, rfl, d, od, tab n g, rfl, upd_same, ?_⟩
    refine for_it walk_items (fun i σ H' => ∃ y3 y4 tg, σ = [some (.int (n : Int)), some (.ref d), some (.ref p), y3, y4] ∧ H' d = some (.frz od (.dK (tab n g))) ∧ H' p = some (.dK tg) ∧ SameX d H H' ∧ tg.length ≤ i ∧
        ∀ t : Nat, (valV tg (Sum.inl (t : Int))).isSome = true → ∃ j e, j < i ∧ (tab n g)[j]? = some (e, V.int (t : Int)))
      ⟨none, none, [], rfl, upd_same, (by rw [upd_ne npd.symm, upd_same]), (Same.upd np).x.updx, Nat.le_refl _, fun t h => by cases h⟩ (fun i σ H' _ h => ?_) ?_ ?_
    · obtain ⟨_, _, _, _, h, _⟩ := h
      exact h
    · rintro i x σ H1 H2 hi ⟨y3, y4, tg, rfl, hf, hp, sx, hl, ht⟩ ⟨T', a, b, rfl, nT, rfl, ea, eb⟩
      have hin : i < (tab n g).length := hi
      obtain ⟨s', t, hs, gs, ee⟩ := tab_at (List.getElem?_eq_getElem hin)
      have e0 : (tab n g)[i]? = some (Sum.inl (s' : Int), V.int (t : Int)) := by rw [List.getElem?_eq_getElem hin, ee]
      replace ea : ((tab n g)[i]?).map (fun kv => kV kv.1) = some a := ea
      replace eb : ((tab n g)[i]?).map Prod.snd = some b := eb
      rw [e0] at ea eb
      have ea' : V.int (s' : Int) = a := Option.some.inj ea
      have eb' : V.int (t : Int) = b := Option.some.inj eb
      subst ea' eb'
      have nTd : d ≠ T' := ne_of_none hf nT
      have nTp : p ≠ T' := ne_of_none hp nT
      have hp2 : (upd H1 T' (.tup [V.int (s' : Int), V.int (t : Int)])) p = some (.dK tg) := by rw [upd_ne nTp]; exact hp
      refine ⟨T', _, rfl, SqT.of upd_same, rfl, _, _, rfl, _, _, rfl, rfl, ?_⟩
      refine ⟨_, rfl, _, rfl, _, _, rfl, rfl, _, _, _, rfl, .int _, _, rfl, ?_⟩
      rw [inR_nat hs]
      refine iteF ?_
      refine ⟨_, rfl, _, rfl, _, _, rfl, rfl, _, _, _, rfl, .int _, _, rfl, ?_⟩
      rw [inR_nat (G.lt s' t gs).2]
      refine iteF ?_
      have hno : valV tg (Sum.inl (t : Int)) = none := by
        cases hv : valV tg (Sum.inl (t : Int)) with
        | none => rfl
        | some v =>
          obtain ⟨j, e, hj, ej⟩ := ht t (by rw [hv]; rfl)
          exact absurd (tab_target G ej e0) (Nat.ne_of_lt hj)
      refine ⟨_, rfl, _, rfl, p, _, rfl, DGet.k (k := Sum.inl (t : Int)) hp2, _, rfl, ?_⟩
      rw [hno]
      refine iteF ?_
      refine ⟨_, rfl, _, rfl, p, _, rfl, DPut.k (k := Sum.inl (t : Int)) hp2 (Nat.lt_of_le_of_lt hl (Nat.lt_trans hin (Nat.lt_of_le_of_lt (tab_len n g) (small300 hn)))), ?_⟩
      refine ⟨_, _, _, rfl, ?_, upd_same, ?_, ?_, ?_⟩
      · rw [upd_ne npd, upd_ne nTd]
        exact hf
      · exact (sx.upd nT).set np
      · exact Nat.le_trans (length_putK _ _ _) (Nat.succ_le_succ hl)
      · intro u hu'
        rw [valV_put] at hu'
        by_cases c : (Sum.inl (u : Int) : Key) = Sum.inl (t : Int)
        · have c' : (u : Int) = t := Sum.inl.inj c
          exact ⟨i, _, Nat.lt_succ_self i, by rw [e0, c']⟩
        · rw [if_neg c] at hu'
          obtain ⟨j, e, hj, ej⟩ := ht u hu'
          exact ⟨j, e, Nat.lt_succ_of_lt hj, ej⟩
    · rintro σ H1 ⟨y3, y4, tg, rfl, hf, hp, sx, hl, ht⟩
      exact ⟨hf, q _ (sx.back hd)⟩
def spMInit (CM : Addr) : Sp := fun vs H Q _ => ∃ p dx n d g, vs = [.ref p, .int ((n : Nat) : Int), .ref d] ∧ H p = some (.ins CM dx []) ∧ H d = some (.dK (tab n g)) ∧ Good n g ∧ 1 ≤ n ∧ n ≤ 300 ∧
  ∀ H', MapAt CM H' p n g → (∀ b o, H b = some o → b ≠ p → H' b = some o) → Q .non H'
theorem scMInit : FnScope ["self", "size", "arrows", "source"] ["self", "size", "arrows"] (defScope (inClass (top 20) 0)) := ⟨rfl, rfl, rfl, by decide +kernel, rfl, by decide +kernel, by decide +kernel⟩
theorem ok_mInit (T : TX K mg) : Fn0 P w K mg base (k + 4) T.a_mInit (spMInit T.CM) := by
  refine T.d_mInit.ok scMInit (fun vs H Q E h => ?_) (fun cdv A outer s H vs Q E hr h => ?_)
  · obtain ⟨p, dx, n, d, g, rfl, _⟩ := h
    rfl
  · obtain ⟨p, dx, n, d, g, rfl, hp, hd, G, h1, hn, q⟩ := h
    have hu := hu_of hr
    obtain ⟨t, gm⟩ := T.g_MAX_SIZE
    refine ⟨_, pss_cons (ps_if (pt_not (pt_val (pe_cR (ok_inRange (k := k + 1) T) hr rfl T.m_inRange T.d_inRange.kp (pa_cons (pv 1) (pa_cons pe_int (pa_cons (pe_glob (v := .int 300) rfl gm ⟨t, rfl⟩) pa_nil)))))) pss_never pss_nil)
      (pss_cons (ps_if (pt_not (pt_val (pe_cR (ok_areArrows (k := k) T) hr rfl T.m_areArrows T.d_areArrows.kp (pa_cons (pv 1) (pa_cons (pv 2) pa_nil))))) pss_never pss_nil)
      (pss_cons (ps_fld (pv 0) (pv 1) rfl)
      (pss_one (ps_fld (pv 0) (pe_dc (own := [("source", 3)]) rfl scMInit.nd (pi_range1 rfl T.z_range (pa_cons (pv 1) pa_nil)) (blkOk_by (N := ["self", "size", "arrows", "source"]) (sc := defScope (inClass (top 20) 0)) (by decide +kernel)) (fun s H C cl fp => pg_name (i := 3) scMInit.nd rfl (.inl rfl))
        (fun s H C cl fp => pts_one (pt_cmp (pc_din hu (pv 3) (pv 2)))) (fun s H C cl fp => pv 3) (fun s H C cl fp => pe_dget hu (pv 2) (pv 3) (fun _ _ => rfl))) rfl)))), ?_⟩
    refine ⟨_, rfl, _, _, _, rfl, .int _, _, rfl, ?_⟩
    rw [inR_size h1 hn]
    refine iteF ?_
    refine ⟨_, rfl, _, rfl, n, g, d, rfl, hd, G, hn, fun H1 s1 => ⟨_, rfl, iteF ?_⟩⟩
    refine ⟨_, rfl, _, rfl, p, T.CM, dx, [], rfl, s1 _ _ hp, T.clM, T.nM1, (by show 0 < 1000; decide), ?_⟩
    have ndp : d ≠ p := ne_of hd hp (by intro e; cases e)
    refine ⟨_, rfl, n, rfl, by omega, by omega, fun D nD => ?_⟩
    refine dc_it walk_range0 (fun i H' => H' D = some (.dK (tab i g)) ∧ SameX D (upd H1 p (.ins T.CM dx (putF "own_size" (.int (n : Int)) []))) H') ⟨upd_same, (Same.upd nD).x⟩ (fun _ _ _ _ => trivial) ?_ ?_
    · rintro i x H2 H3 hi ⟨hD, sx⟩ ⟨rfl, rfl⟩
      have hd3 : H3 d = some (.dK (tab n g)) := by
        have e : (upd H1 p (.ins T.CM dx (putF "own_size" (.int (n : Int)) []))) d = some (.dK (tab n g)) := by
          rw [upd_ne ndp]
          exact s1 _ _ hd
        exact sx d _ (ne_of_none e nD) e
      refine ⟨rfl, _, rfl, _, rfl, d, _, rfl, DGet.k (k := Sum.inl (i : Int)) hd3, _, rfl, ?_⟩
      rw [tab_get G]
      cases hg : g i with
      | none =>
        refine iteF ⟨?_, sx⟩
        rw [hD, tab_succ, hg]
        simp
      | some j =>
        refine iteT ⟨_, rfl, _, rfl, _, rfl, d, .int (j : Int), rfl, ?_, tab i g, Sum.inl (i : Int), rfl, hD, Nat.lt_of_le_of_lt (tab_len i g) (small300 (by omega)), upd_same.trans ?_, sx.updx⟩
        · have e := DGet.k (k := Sum.inl (i : Int)) hd3
          rw [tab_get G, hg] at e
          exact e
        · rw [tab_put, tab_succ, hg]
          rfl
    · rintro H2 ⟨hD, sx⟩
      have hpD : p ≠ D := ne_of_none upd_same nD
      have hp2 : H2 p = some (.ins T.CM dx (putF "own_size" (.int (n : Int)) [])) := sx p _ hpD upd_same
      refine ⟨_, rfl, p, T.CM, dx, _, rfl, hp2, T.clM, T.nM2, (by show 1 < 1000; decide), ?_⟩
      refine q _ ⟨dx, D, upd_same, ?_⟩ fun b o e nb => ?_
      · rw [upd_ne hpD.symm]
        exact hD
      · rw [upd_ne nb]
        have e1 : (upd H1 p (.ins T.CM dx (putF "own_size" (.int (n : Int)) []))) b = some o := by
          rw [upd_ne nb]
          exact s1 _ _ e
        exact sx b _ (ne_of_none e1 nD) e1
end
end K57
end

section
set_option Elab.async false
set_option linter.all false
set_option maxRecDepth 100000
set_option maxHeartbeats 4000000
namespace K57
open PySem PySem.Spec PyProof.Rows L2 StX ClX
/-! Map.identity, empty, __mul__, __eq__ -/
def idF (n : Nat) : Fn := fun i => if i < n then some i else none
def noF : Fn := fun _ => none
def compF (g h : Fn) : Fn := fun i => (g i).bind h
theorem good_id (n : Nat) : Good n (idF n) := by
  constructor
  · intro i j h
    unfold idF at h
    split at h
    · cases h
      exact ⟨by assumption, by assumption⟩
    · cases h
  · intro i j k h1 h2
    unfold idF at h1 h2
    split at h1 <;> split at h2 <;> simp_all
theorem good_no (n : Nat) : Good n noF := ⟨fun _ _ h => (by cases h), fun _ _ _ h => (by cases h)⟩
theorem good_comp {n : Nat} {g h : Fn} (G : Good n g) (G' : Good n h) : Good n (compF g h) := by
  constructor
  · intro i j e
    obtain ⟨m, e1, e2⟩ := Option.bind_eq_some_iff.mp e
    exact ⟨(G.lt _ _ e1).1, (G'.lt _ _ e2).2⟩
  · intro i j l e e'
    obtain ⟨m, e1, e2⟩ := Option.bind_eq_some_iff.mp e
    obtain ⟨m', e1', e2'⟩ := Option.bind_eq_some_iff.mp e'
    have em := G'.inj _ _ _ e2 e2'
    subst em
    exact G.inj _ _ _ e1 e1'
theorem tab_no : ∀ n : Nat, tab n noF = []
  | 0 => rfl
  | n + 1 => by
    rw [tab_succ, tab_no n]
    rfl
/-- the entries of a product -/
def mulE (h : Fn) (e : Key × V) : Option (Key × V) := match e.2 with
  | .int t => (h t.toNat).map fun (u : Nat) => (e.1, V.int (u : Int))
  | _ => none
theorem mulE_at (h : Fn) (k : Key) (t : Nat) : mulE h (k, V.int (t : Int)) = (h t).map fun (u : Nat) => (k, V.int (u : Int)) := rfl
theorem mul_tab (g h : Fn) : ∀ n : Nat, (tab n g).filterMap (mulE h) = tab n (compF g h)
  | 0 => rfl
  | n + 1 => by
    rw [tab_succ, tab_succ, List.filterMap_append, mul_tab g h n]
    congr 1
    unfold compF
    cases g n with
    | none => rfl
    | some j =>
      show List.filterMap (mulE h) [((Sum.inl (n : Int) : Key), V.int (j : Int))] = ((h j).map fun (j : Nat) => ((Sum.inl (n : Int) : Key), V.int (j : Int))).toList
      rw [List.filterMap_cons, mulE_at]
      cases h j <;> rfl
theorem not_take {α : Type} {l : List α} (nd : l.Nodup) {i : Nat} {x : α} (h : l[i]? = some x) : ¬ x ∈ l.take i := by
  intro m
  obtain ⟨j, hj⟩ := List.mem_iff_getElem?.mp m
  rw [List.getElem?_take] at hj
  split at hj
  · have := nd_ix nd h hj
    omega
  · cases hj
theorem valV_notin {κ : Type} [DecidableEq κ] {kvs : List (κ × V)} {k : κ} (h : ¬ k ∈ kvs.map (·.1)) : valV kvs k = none := by
  cases e : valV kvs k with
  | none => rfl
  | some v => exact absurd (valV_in e) h
theorem mul_new {h : Fn} {l : List (Key × V)} {k : Key} (hk : ¬ k ∈ l.map (·.1)) : valV (l.filterMap (mulE h)) k = none := by
  refine valV_notin fun m => hk ?_
  obtain ⟨e, he, rfl⟩ := List.mem_map.mp m
  obtain ⟨f, hf, ef⟩ := List.mem_filterMap.mp he
  refine List.mem_map.mpr ⟨f, hf, ?_⟩
  unfold mulE at ef
  split at ef
  · obtain ⟨u, _, e2⟩ := Option.map_eq_some_iff.mp ef
    rw [← e2]
  · cases ef
def spNew (CM : Addr) (g : Nat → Fn) : Sp := fun vs H Q _ => ∃ n : Nat, vs = [.ref CM, .int (n : Int)] ∧ 1 ≤ n ∧ n ≤ 300 ∧ ∀ H' m, Same H H' → H m = none → MapAt CM H' m n (g n) → Q (.ref m) H'
def spMul (CM : Addr) : Sp := fun vs H Q _ => ∃ a b n g h, vs = [.ref a, .ref b] ∧ MapAt CM H a n g ∧ MapAt CM H b n h ∧ Good n g ∧ Good n h ∧ 1 ≤ n ∧ n ≤ 300 ∧ ∀ H' m, Same H H' → H m = none → MapAt CM H' m n (compF g h) → Q (.ref m) H'
section
variable {P : Program} {w : World} {K : PySem.W.Frag} {mg : Str → Option Value} {base : Heap} {k : Nat}
theorem scIdent : FnScope ["cls", "size", "element"] ["cls", "size"] (defScope (inClass (top 20) 1)) := ⟨rfl, rfl, rfl, by decide +kernel, rfl, by decide +kernel, by decide +kernel⟩
theorem ok_mIdent (T : TX K mg) : Fn0 P w K mg base (k + 6) T.a_mIdent (spNew T.CM idF) := by
  refine T.d_mIdent.ok scIdent (fun vs H Q E h => ?_) (fun cdv A outer s H vs Q E hr h => ?_)
  · obtain ⟨n, rfl, _⟩ := h
    rfl
  · obtain ⟨n, rfl, h1, hn, q⟩ := h
    refine ⟨_, pss_cons (ps_expr (pe_cR (ok_checkSize (k := 0) T) (hr.mono (by omega)) rfl T.m_checkSize T.d_checkSize.kp (pa_cons (pv 1) pa_nil)))
      (pss_one (ps_ret (pe_mL (i := 0) T.mkM (ok_mInit (k := k) T) hr rfl (.inl rfl) (pa_cons (pv 1) (pa_cons
        (pe_dc (own := [("element", 2)]) (g := gName 2) rfl scIdent.nd (pi_range1 rfl T.z_range (pa_cons (pv 1) pa_nil)) (blkOk_by (N := ["cls", "size", "element"]) (sc := defScope (inClass (top 20) 1)) (by decide +kernel)) (fun s H C cl fp => pg_name (i := 2) scIdent.nd rfl (.inl rfl))
        (fun s H C cl fp => pts_nil) (fun s H C cl fp => pv 2) (fun s H C cl fp => pv 2)) pa_nil))))), ?_⟩
    refine ⟨_, rfl, n, rfl, h1, hn, ?_⟩
    refine ⟨rfl, _, rfl, _, rfl, n, rfl, by omega, by omega, fun D nD => ?_⟩
    refine dc_it walk_range0 (fun i H' => H' D = some (.dK (tab i (idF n))) ∧ SameX D H H') ⟨upd_same, (Same.upd nD).x⟩ (fun _ _ _ _ => trivial) ?_ ?_
    · rintro i x H2 H3 hi ⟨hD, sx⟩ ⟨rfl, rfl⟩
      refine ⟨rfl, ?_⟩
      refine iteT (B := True) ⟨_, rfl, _, rfl, tab i (idF n), Sum.inl (i : Int), rfl, hD, Nat.lt_of_le_of_lt (tab_len i _) (small300 (by omega)), upd_same.trans ?_, sx.updx⟩
      rw [tab_put, tab_succ, show idF n i = some i from if_pos hi]
      rfl
    · rintro H2 ⟨hD, sx⟩
      intro x dx nx ndx ne
      have s2 : Same H H2 := fun b o e => sx b o (ne_of_none e nD) e
      have nDx : D ≠ x := ne_of_none hD nx
      have nDd : D ≠ dx := ne_of_none hD ndx
      refine ⟨x, dx, n, D, idF n, rfl, upd_same, by rw [upd_ne nDx, upd_ne nDd]; exact hD, good_id n, h1, hn, fun H' hm kp => ⟨rfl, ?_⟩⟩
      exact q H' x (s2.trans (Same.made nx ndx kp)) (s2.free nx) hm
theorem scEmpty : FnScope ["cls", "size"] ["cls", "size"] (defScope (inClass (top 20) 2)) := ⟨rfl, rfl, rfl, by decide +kernel, rfl, by decide +kernel, by decide +kernel⟩
theorem ok_mEmpty (T : TX K mg) : Fn0 P w K mg base (k + 6) T.a_mEmpty (spNew T.CM fun _ => noF) := by
  refine T.d_mEmpty.ok scEmpty (fun vs H Q E h => ?_) (fun cdv A outer s H vs Q E hr h => ?_)
  · obtain ⟨n, rfl, _⟩ := h
    rfl
  · obtain ⟨n, rfl, h1, hn, q⟩ := h
    refine ⟨_, pss_cons (ps_expr (pe_cR (ok_checkSize (k := 0) T) (hr.mono (by omega)) rfl T.m_checkSize T.d_checkSize.kp (pa_cons (pv 1) pa_nil)))
      (pss_one (ps_ret (pe_mL (i := 0) T.mkM (ok_mInit (k := k) T) hr rfl (.inl rfl) (pa_cons (pv 1) (pa_cons pe_dnewK pa_nil))))), ?_⟩
    refine ⟨_, rfl, n, rfl, h1, hn, ?_⟩
    refine ⟨rfl, _, rfl, fun D nD => ?_⟩
    intro x dx nx ndx ne
    have s2 : Same H (upd H D (.dK [])) := Same.upd nD
    have nDx : D ≠ x := ne_of_none upd_same nx
    have nDd : D ≠ dx := ne_of_none upd_same ndx
    refine ⟨x, dx, n, D, noF, rfl, upd_same, by rw [upd_ne nDx, upd_ne nDd, upd_same, tab_no], good_no n, h1, hn, fun H' hm kp => ⟨rfl, ?_⟩⟩
    exact q H' x (s2.trans (Same.made nx ndx kp)) (s2.free nx) hm
theorem scMul : FnScope ["self", "other", "size", "later", "source", "target"] ["self", "other"] (defScope (inClass (top 20) 8)) := ⟨rfl, rfl, rfl, by decide +kernel, rfl, by decide +kernel, by decide +kernel⟩
theorem ok_mMul (T : TX K mg) : Fn0 P w K mg base (k + 6) T.a_mMul (spMul T.CM) := by
  refine T.d_mMul.ok scMul (fun vs H Q E h => ?_) (fun cdv A outer s H vs Q E hr h => ?_)
  · obtain ⟨a, b, n, g, h', rfl, _⟩ := h
    rfl
  · obtain ⟨a, b, n, g, h', rfl, ma, mb, G, G', h1, hn, q⟩ := h
    have hu := hu_of hr
    obtain ⟨dx, d, ha, hd⟩ := id ma
    obtain ⟨dy, e, hb, he⟩ := id mb
    refine ⟨_, pss_cons (ps_if (pt_not (pt_val (pe_callB call_isi rfl T.z_isinstance boot_isinstance (pa_cons (pv 1) (pa_cons (pe_glob (v := .ref T.CM) rfl T.mgM rfl) pa_nil))))) pss_never pss_nil)
      (pss_cons (ps_set (i := 2) scMul.nd rfl (.inl rfl) (pe_cR (ok_common (k := 0) T) (hr.mono (by omega)) rfl T.m_commonSize T.d_commonSize.kp (pa_cons (pv 0) (pa_cons (pv 1) pa_nil))))
      (pss_cons (ps_set (i := 3) scMul.nd rfl (.inr rfl) (pe_propR (pv 1) T.clM T.o_pArrows (ok_mArrows (k := 0) T) (hr.mono (by omega))))
      (pss_one (ps_ret (pe_mR T.mkM (ok_mInit (k := k) T) hr rfl T.mgM (pa_cons (pv 2) (pa_cons
        (pe_lock (pe_dc (own := [("source", 4), ("target", 5)]) (g := gTup K 2 (gCons (gName 4) (gCons (gName 5) gNil))) rfl scMul.nd (pi_items (pe_fld (pv 0) rfl)) (blkOk_by (N := ["self", "other", "size", "later", "source", "target"]) (sc := defScope (inClass (top 20) 8)) (by decide +kernel))
          (fun s H C cl fp => pg_tup rfl (pgs_cons (pg_name (i := 4) scMul.nd rfl (.inl rfl)) (pgs_cons (pg_name (i := 5) scMul.nd rfl (.inl rfl)) pgs_nil)))
          (fun s H C cl fp => pts_one (pt_cmp (pc_din hu (pv 5) (pv 3)))) (fun s H C cl fp => pv 4) (fun s H C cl fp => pe_dget hu (pv 3) (pv 5) (fun _ _ => rfl)))) pa_nil))))))), ?_⟩
    refine ⟨_, rfl, _, _, _, _, _, rfl, .own _, tyM T hb, kit_self, _, rfl, iteF ?_⟩
    refine ⟨_, rfl, _, rfl, a, b, n, g, h', rfl, ma, mb, ?_⟩
    refine ⟨_, rfl, b, dy, _, rfl, hb, b, n, h', rfl, mb, fun p np => ?_⟩
    have s1 : Same H (upd H p (.dK (tab n h'))) := Same.upd np
    have npd : d ≠ p := ne_of_none hd np
    refine ⟨_, rfl, d, .dK (tab n g), s1 _ _ hd, trivial, fun od => ?_⟩
    have nad : a ≠ d := ne_of ha hd (by intro e; cases e)
    have hp1 : (upd (upd H p (.dK (tab n h'))) d (.frz od (.dK (tab n g)))) p = some (.dK (tab n h')) := by
      rw [upd_ne npd.symm, upd_same]
    refine ⟨_, rfl, a, T.CM, dx, _, _, rfl, by rw [upd_ne nad]; exact s1 _ _ ha, T.clM, T.nM2, mf_arrows _ _, d, od, tab n g, rfl, upd_same, fun D nD => ?_⟩
    refine dc_it walk_items (fun i H' => H' D = some (.dK (((tab n g).take i).filterMap (mulE h'))) ∧ SameX D (upd (upd H p (.dK (tab n h'))) d (.frz od (.dK (tab n g)))) H')
      ⟨upd_same, (Same.upd nD).x⟩ (fun i H' _ h => h.2 d _ (ne_of_none upd_same nD) upd_same) ?_ ?_
    · rintro i x H2 H3 hi ⟨hD, sx⟩ ⟨T', x1, x2, rfl, nT, rfl, ea, eb⟩
      have hin : i < (tab n g).length := hi
      obtain ⟨s', t, hs, gs, ee⟩ := tab_at (List.getElem?_eq_getElem hin)
      have e0 : (tab n g)[i]? = some (Sum.inl (s' : Int), V.int (t : Int)) := by rw [List.getElem?_eq_getElem hin, ee]
      replace ea : ((tab n g)[i]?).map (fun kv => kV kv.1) = some x1 := ea
      replace eb : ((tab n g)[i]?).map Prod.snd = some x2 := eb
      rw [e0] at ea eb
      have ea' : V.int (s' : Int) = x1 := Option.some.inj ea
      have eb' : V.int (t : Int) = x2 := Option.some.inj eb
      subst ea' eb'
      have hp2 : (upd H2 T' (.tup [V.int (s' : Int), V.int (t : Int)])) p = some (.dK (tab n h')) := by
        have e := sx p _ (ne_of_none hp1 nD) hp1
        rw [upd_ne (ne_of_none e nT)]
        exact e
      have nDT : D ≠ T' := ne_of_none hD nT
      have hD2 : (upd H2 T' (.tup [V.int (s' : Int), V.int (t : Int)])) D = some (.dK (((tab n g).take i).filterMap (mulE h'))) := by
        rw [upd_ne nDT]
        exact hD
      refine ⟨T', _, rfl, SqT.of upd_same, rfl, _, _, rfl, _, _, rfl, rfl, rfl, ?_⟩
      refine ⟨_, rfl, _, rfl, p, _, rfl, DGet.k (k := Sum.inl (t : Int)) hp2, _, rfl, ?_⟩
      have et : ((tab n g).take (i + 1)).filterMap (mulE h') = ((tab n g).take i).filterMap (mulE h') ++ (mulE h' (Sum.inl (s' : Int), V.int (t : Int))).toList := by
        rw [List.take_add_one, e0, List.filterMap_append]
        all_goals rfl
      rw [tab_get G']
      cases hg : h' t with
      | none =>
        refine iteF ⟨?_, sx.upd nT⟩
        rw [hD2, et, mulE_at, hg]
        exact congrArg (fun z => some (HO.dK z)) (List.append_nil _).symm
      | some j =>
        refine iteT ⟨_, rfl, _, rfl, _, rfl, p, .int (j : Int), rfl, ?_, _, Sum.inl (s' : Int), rfl, hD2, ?_, upd_same.trans ?_, (sx.upd nT).updx⟩
        · have e := DGet.k (k := Sum.inl (t : Int)) hp2
          rw [tab_get G', hg] at e
          exact e
        · refine Nat.lt_of_le_of_lt (List.length_filterMap_le _ _) ?_
          rw [List.length_take]
          exact Nat.lt_of_le_of_lt (Nat.min_le_right _ _) (Nat.lt_of_le_of_lt (tab_len n g) (small300 hn))
        · rw [putK_new, et, mulE_at, hg]
          · rfl
          · refine mul_new ?_
            rw [List.map_take]
            refine not_take (tab_keys_nd g n) ?_
            rw [List.getElem?_map, e0]
            rfl
    · rintro H2 ⟨hD, sx⟩
      rw [List.take_length, mul_tab] at hD
      have hd2 : H2 d = some (.frz od (.dK (tab n g))) := sx d _ (ne_of_none upd_same nD) upd_same
      refine ⟨hd2, ?_⟩
      have nDd : D ≠ d := fun e => by
        rw [e, upd_same] at nD
        cases nD
      have s2 : Same H (upd H2 d (.dK (tab n g))) := by
        intro b u eb
        by_cases c : b = d
        · subst c
          rw [hd] at eb
          cases eb
          exact upd_same
        · have e1 : (upd (upd H p (.dK (tab n h'))) d (.frz od (.dK (tab n g)))) b = some u := by
            rw [upd_ne c]
            exact s1 _ _ eb
          rw [upd_ne c]
          exact sx b _ (ne_of_none e1 nD) e1
      have hD2 : (upd H2 d (.dK (tab n g))) D = some (.dK (tab n (compF g h'))) := by
        rw [upd_ne nDd]
        exact hD
      intro x dx' nx ndx ne
      have nDx : D ≠ x := ne_of_none hD2 nx
      have nDd' : D ≠ dx' := ne_of_none hD2 ndx
      refine ⟨x, dx', n, D, compF g h', rfl, upd_same, by rw [upd_ne nDx, upd_ne nDd']; exact hD2, good_comp G G', h1, hn, fun H' hm kp => ⟨rfl, ?_⟩⟩
      exact q H' x (s2.trans (Same.made nx ndx kp)) (s2.free nx) hm
end
end K57
end

section
set_option Elab.async false
set_option linter.all false
set_option maxRecDepth 100000
set_option maxHeartbeats 4000000
namespace K57
open PySem PySem.Spec PyProof.Rows L2 StX ClX
/-! first_clash, Map.__or__, __eq__ -/
def NoClash (g h : Fn) : Prop := ∀ i j k l, g i = some j → h k = some l → (i = k ↔ j = l)
def spClash : Sp := fun vs H Q _ => ∃ d e n g h, vs = [.ref d, .ref e] ∧ d ≠ e ∧ H d = some (.dK (tab n g)) ∧ H e = some (.dK (tab n h)) ∧ NoClash g h ∧ ∀ H', Same H H' → Q .non H'
def spOr (CM : Addr) : Sp := fun vs H Q _ => ∃ a b n g h u, vs = [.ref a, .ref b] ∧ MapAt CM H a n g ∧ MapAt CM H b n h ∧ NoClash g h ∧ mergeK (tab n g) (tab n h) = tab n u ∧ Good n u ∧ 1 ≤ n ∧ n ≤ 300 ∧
  ∀ H' m, Same H H' → H m = none → MapAt CM H' m n u → Q (.ref m) H'
def spEqM (CM : Addr) : Sp := fun vs H Q _ => ∃ a b n g h, vs = [.ref a, .ref b] ∧ MapAt CM H a n g ∧ MapAt CM H b n h ∧ Good n h ∧ tab n g = tab n h ∧ Q (.bl true) H
section
variable {P : Program} {w : World} {K : PySem.W.Frag} {mg : Str → Option Value} {base : Heap} {k : Nat}
theorem scClash : FnScope ["arrows", "others", "source", "target", "other", "end"] ["arrows", "others"] (defScope (top 22)) := ⟨rfl, rfl, rfl, by decide +kernel, rfl, by decide +kernel, by decide +kernel⟩
theorem ok_clash (T : TX K mg) : Fn0 P w K mg base (k + 1) T.a_firstClash spClash := by
  refine T.d_firstClash.ok scClash (fun vs H Q E h => ?_) (fun cdv A outer s H vs Q E hr h => ?_)
  · obtain ⟨d, e, n, g, h', rfl, _⟩ := h
    rfl
  · obtain ⟨d, e, n, g, h', rfl, de, hd, he, nc, q⟩ := h
    refine ⟨_, pss_cons (ps_lock (ps_for PassesOwn.never rfl (pi_items (pv 0)) (pg_tup rfl (pgs_cons (pg_name (i := 2) scClash.nd rfl (.inl rfl)) (pgs_cons (pg_name (i := 3) scClash.nd rfl (.inl rfl)) pgs_nil)))
        (pss_one (ps_lock (ps_for PassesOwn.never rfl (pi_items (pv 1)) (pg_tup rfl (pgs_cons (pg_name (i := 4) scClash.nd rfl (.inl rfl)) (pgs_cons (pg_name (i := 5) scClash.nd rfl (.inl rfl)) pgs_nil)))
          (pss_one (ps_if (pt_cmpR op_ne (pe_cmpR op_eq (pv 2) (pv 4) (nomark _)) (pe_cmpR op_eq (pv 3) (pv 5) (nomark _)) (nomark _)) pss_never pss_nil)))))))
      (pss_one (ps_ret pe_non)), ?_⟩
    refine ⟨d, .dK (tab n g), hd, trivial, fun od => ?_⟩
    refine ⟨_, rfl, d, od, tab n g, rfl, upd_same, ?_⟩
    refine for_it walk_items (fun i σ H' => ∃ y2 y3 y4 y5, σ = [some (.ref d), some (.ref e), y2, y3, y4, y5] ∧ H' d = some (.frz od (.dK (tab n g))) ∧ SameX d H H')
      ⟨none, none, none, none, rfl, upd_same, SameX.lock⟩ (fun i σ H' _ h => ?_) ?_ ?_
    · obtain ⟨_, _, _, _, _, h, _⟩ := h
      exact h
    · rintro i x σ H1 H2 hi ⟨y2, y3, y4, y5, rfl, hf, sx⟩ ⟨T', a, b, rfl, nT, rfl, ea, eb⟩
      have hin : i < (tab n g).length := hi
      obtain ⟨s', t, hs, gs, ee⟩ := tab_at (List.getElem?_eq_getElem hin)
      have e0 : (tab n g)[i]? = some (Sum.inl (s' : Int), V.int (t : Int)) := by rw [List.getElem?_eq_getElem hin, ee]
      replace ea : ((tab n g)[i]?).map (fun kv => kV kv.1) = some a := ea
      replace eb : ((tab n g)[i]?).map Prod.snd = some b := eb
      rw [e0] at ea eb
      have ea' : V.int (s' : Int) = a := Option.some.inj ea
      have eb' : V.int (t : Int) = b := Option.some.inj eb
      subst ea' eb'
      refine ⟨T', _, rfl, SqT.of upd_same, rfl, _, _, rfl, _, _, rfl, rfl, ?_⟩
      have sx2 : SameX d H (upd H1 T' (.tup [V.int (s' : Int), V.int (t : Int)])) := sx.upd nT
      have he2 := sx2 e _ de.symm he
      have hf2 : (upd H1 T' (.tup [V.int (s' : Int), V.int (t : Int)])) d = some (.frz od (.dK (tab n g))) := by
        rw [upd_ne (ne_of_none hf nT)]
        exact hf
      refine ⟨e, .dK (tab n h'), he2, trivial, fun oe => ?_⟩
      refine ⟨_, rfl, e, oe, tab n h', rfl, upd_same, ?_⟩
      refine for_it walk_items (fun i σ H' => ∃ y4 y5, σ = [some (.ref d), some (.ref e), some (.int (s' : Int)), some (.int (t : Int)), y4, y5] ∧ H' e = some (.frz oe (.dK (tab n h'))) ∧ SameX e (upd H1 T' (.tup [V.int (s' : Int), V.int (t : Int)])) H')
        ⟨_, _, rfl, upd_same, SameX.lock⟩ (fun i σ H' _ h => ?_) ?_ ?_
      · obtain ⟨_, _, _, h, _⟩ := h
        exact h
      · rintro j x σ H3 H4 hj ⟨y4, y5, rfl, hg, sy⟩ ⟨T2, a, b, rfl, nT2, rfl, ea, eb⟩
        have hjn : j < (tab n h').length := hj
        obtain ⟨s2, t2, hs2, gs2, ee⟩ := tab_at (List.getElem?_eq_getElem hjn)
        have e0' : (tab n h')[j]? = some (Sum.inl (s2 : Int), V.int (t2 : Int)) := by rw [List.getElem?_eq_getElem hjn, ee]
        replace ea : ((tab n h')[j]?).map (fun kv => kV kv.1) = some a := ea
        replace eb : ((tab n h')[j]?).map Prod.snd = some b := eb
        rw [e0'] at ea eb
        have ea' : V.int (s2 : Int) = a := Option.some.inj ea
        have eb' : V.int (t2 : Int) = b := Option.some.inj eb
        subst ea' eb'
        refine ⟨T2, _, rfl, SqT.of upd_same, rfl, _, _, rfl, _, _, rfl, rfl, ?_⟩
        refine ⟨_, rfl, _, rfl, rfl, _, rfl, _, rfl, rfl, rfl, _, rfl, ?_⟩
        have key : decide (V.int (s' : Int) = V.int (s2 : Int)) = decide (V.int (t : Int) = V.int (t2 : Int)) := by
          have := nc s' t s2 t2 gs gs2
          apply decide_eq_decide.mpr
          constructor
          · intro e
            have e1 := V.int.inj e
            rw [this.mp (by omega)]
          · intro e
            have e1 := V.int.inj e
            rw [this.mpr (by omega)]
        rw [key, decide_eq_true rfl]
        refine iteF ?_
        refine ⟨_, _, rfl, ?_, sy.upd nT2⟩
        rw [upd_ne (ne_of_none hg nT2)]
        exact hg
      · rintro σ H3 ⟨y4, y5, rfl, hg, sy⟩
        refine ⟨hg, _, _, _, _, rfl, ?_, sx2.trans (Same.x (sy.back he2))⟩
        rw [upd_ne de]
        exact sy d _ de hf2
    · rintro σ H1 ⟨y2, y3, y4, y5, rfl, hf, sx⟩
      exact ⟨hf, q _ (sx.back hd)⟩
theorem scOr : FnScope ["self", "other", "size", "clash"] ["self", "other"] (defScope (inClass (top 20) 14)) := ⟨rfl, rfl, rfl, by decide +kernel, rfl, by decide +kernel, by decide +kernel⟩
theorem ok_mOr (T : TX K mg) : Fn0 P w K mg base (k + 6) T.a_mOr (spOr T.CM) := by
  refine T.d_mOr.ok scOr (fun vs H Q E h => ?_) (fun cdv A outer s H vs Q E hr h => ?_)
  · obtain ⟨a, b, n, g, h', u, rfl, _⟩ := h
    rfl
  · obtain ⟨a, b, n, g, h', u, rfl, ma, mb, nc, em, G, h1, hn, q⟩ := h
    obtain ⟨dx, d, ha, hd⟩ := id ma
    obtain ⟨dy, e, hb, he⟩ := id mb
    refine ⟨_, pss_cons (ps_if (pt_not (pt_val (pe_callB call_isi rfl T.z_isinstance boot_isinstance (pa_cons (pv 1) (pa_cons (pe_glob (v := .ref T.CM) rfl T.mgM rfl) pa_nil))))) pss_never pss_nil)
      (pss_cons (ps_set (i := 2) scOr.nd rfl (.inl rfl) (pe_cR (ok_common (k := 0) T) (hr.mono (by omega)) rfl T.m_commonSize T.d_commonSize.kp (pa_cons (pv 0) (pa_cons (pv 1) pa_nil))))
      (pss_cons (ps_set (i := 3) scOr.nd rfl (.inl rfl) (pe_cR (ok_clash (k := 0) T) (hr.mono (by omega)) rfl T.m_firstClash T.d_firstClash.kp (pa_cons (pe_fld (pv 0) rfl) (pa_cons (pe_propR (pv 1) T.clM T.o_pArrows (ok_mArrows (k := 0) T) (hr.mono (by omega))) pa_nil))))
      (pss_cons (ps_if (pt_cmpR op_notN (pv 3) pe_non (nomark _)) pss_never pss_nil)
      (pss_one (ps_ret (pe_mR T.mkM (ok_mInit (k := k) T) hr rfl T.mgM (pa_cons (pv 2) (pa_cons
        (pe_op K57.op_or (pe_fld (pv 0) rfl) (pe_propR (pv 1) T.clM T.o_pArrows (ok_mArrows (k := 0) T) (hr.mono (by omega)))) pa_nil)))))))), ?_⟩
    refine ⟨_, rfl, _, _, _, _, _, rfl, .own _, tyM T hb, kit_self, _, rfl, iteF ?_⟩
    refine ⟨_, rfl, _, rfl, a, b, n, g, h', rfl, ma, mb, ?_⟩
    refine ⟨_, rfl, a, T.CM, dx, _, _, rfl, ha, T.clM, T.nM2, mf_arrows _ _, _, rfl, b, dy, _, rfl, hb, b, n, h', rfl, mb, fun p np => ?_⟩
    have s1 : Same H (upd H p (.dK (tab n h'))) := Same.upd np
    refine ⟨d, p, n, g, h', rfl, ne_of_none hd np, s1 _ _ hd, upd_same, nc, fun H2 s2 => ?_⟩
    refine ⟨_, rfl, rfl, _, rfl, iteF ?_⟩
    have sH2 := s1.trans s2
    refine ⟨_, rfl, _, rfl, a, T.CM, dx, _, _, rfl, sH2 _ _ ha, T.clM, T.nM2, mf_arrows _ _, _, rfl, b, dy, _, rfl, sH2 _ _ hb, b, n, h', rfl, mb.same sH2, fun p2 np2 => ?_⟩
    have s3 : Same H2 (upd H2 p2 (.dK (tab n h'))) := Same.upd np2
    have l1 := tab_len n g
    have l2 := tab_len n h'
    refine ⟨d, p2, tab n g, tab n h', rfl, rfl, (sH2.trans s3) _ _ hd, upd_same, Nat.le_of_lt (small1000 (by omega)), fun D nD => ?_⟩
    have s4 := (sH2.trans s3).trans (Same.upd (o := .dK (mergeK (tab n g) (tab n h'))) nD)
    intro x dx' nx ndx ne
    have hD : (upd (upd H2 p2 (.dK (tab n h'))) D (.dK (mergeK (tab n g) (tab n h')))) D = some (.dK (tab n u)) := by rw [upd_same, em]
    have nDx : D ≠ x := ne_of_none hD nx
    have nDd' : D ≠ dx' := ne_of_none hD ndx
    refine ⟨x, dx', n, D, u, rfl, upd_same, by rw [upd_ne nDx, upd_ne nDd']; exact hD, G, h1, hn, fun H' hm kp => ⟨rfl, ?_⟩⟩
    exact q H' x (s4.trans (Same.made nx ndx kp)) (s4.free nx) hm
theorem scEqM : FnScope ["self", "other"] ["self", "other"] (defScope (inClass (top 20) 25)) := ⟨rfl, rfl, rfl, by decide +kernel, rfl, by decide +kernel, by decide +kernel⟩
theorem ok_mEq (T : TX K mg) : Fn0 P w K mg base (k + 1) T.a_mEq (spEqM T.CM) := by
  refine T.d_mEq.ok scEqM (fun vs H Q E h => ?_) (fun cdv A outer s H vs Q E hr h => ?_)
  · obtain ⟨a, b, n, g, h', rfl, _⟩ := h
    rfl
  · obtain ⟨a, b, n, g, h', rfl, ⟨dx, d, ha, hd⟩, ⟨dy, e, hb, he⟩, G, et, q⟩ := h
    refine ⟨_, pss_cons (ps_if (pt_not (pt_val (pe_callB call_isi rfl T.z_isinstance boot_isinstance (pa_cons (pv 1) (pa_cons (pe_glob (v := .ref T.CM) rfl T.mgM rfl) pa_nil))))) pss_never pss_nil)
      (pss_one (ps_ret (pe_and (pe_cmpR op_eq (pe_fld (pv 0) rfl) (pe_fld (pv 1) rfl) (nomark _)) (pe_one (pe_cmpR (op_eq_dictA hr.units0) (pe_fld (pv 0) rfl) (pe_fld (pv 1) rfl) (nomark _)))))), ?_⟩
    refine ⟨_, rfl, _, _, _, _, _, rfl, .own _, tyM T hb, kit_self, _, rfl, iteF ?_⟩
    refine ⟨_, rfl, a, T.CM, dx, _, _, rfl, ha, T.clM, T.nM1, mf_size _ _, _, rfl, b, T.CM, dy, _, _, rfl, hb, T.clM, T.nM1, mf_size _ _, rfl, _, rfl, ?_⟩
    rw [decide_eq_true rfl]
    refine iteT ⟨_, rfl, a, T.CM, dx, _, _, rfl, ha, T.clM, T.nM2, mf_arrows _ _, _, rfl, b, T.CM, dy, _, _, rfl, hb, T.clM, T.nM2, mf_arrows _ _, d, e, _, _, rfl, rfl, hd, he, by rw [et], fun p hp => ?_, q⟩
    rw [et] at hp
    obtain ⟨i, j, hi, gi, rfl⟩ := mem_tab.mp hp
    exact ⟨by rw [tab_get G, gi]; rfl, rfl⟩
end
end K57
end

section
set_option Elab.async false
set_option linter.all false
set_option maxRecDepth 100000
set_option maxHeartbeats 4000000
namespace K57
open PySem PySem.Spec PyProof.Rows L2 StX ClX
/-! check_all, Family -/
theorem mf_ne (n : Nat) (d : Addr) : mf n d ≠ [] := fun e => by
  have := mf_size n d
  rw [e] at this
  cases this
/-- all but a bare object at p is kept -/
theorem MapAt.keep {CM C' : Addr} {H H' : Hp} {m p dx : Addr} {n : Nat} {g : Fn} (hp : H p = some (.ins C' dx [])) (kp : ∀ b o, H b = some o → b ≠ p → H' b = some o) (h : MapAt CM H m n g) : MapAt CM H' m n g := by
  obtain ⟨dy, d, h1, h2⟩ := h
  refine ⟨dy, d, kp _ _ h1 ?_, kp _ _ h2 (ne_of h2 hp (by intro e; cases e))⟩
  refine ne_of h1 hp ?_
  intro e
  injection e with _ _ e
  exact mf_ne _ _ e
theorem MapsAt.keep {CM C' : Addr} {H H' : Hp} {p dx : Addr} {n : Nat} (hp : H p = some (.ins C' dx [])) (kp : ∀ b o, H b = some o → b ≠ p → H' b = some o) : ∀ {ms : List Addr} {gs : List Fn}, MapsAt CM H n ms gs → MapsAt CM H' n ms gs
  | _, _, .nil => .nil
  | _, _, .cons h r => .cons (h.keep hp kp) (r.keep hp kp)
theorem MapsAt.get' {C : Addr} {H : Hp} {n : Nat} {ms : List Addr} {gs : List Fn} (h : MapsAt C H n ms gs) {i : Nat} {g : Fn} (e : gs[i]? = some g) : ∃ m, ms[i]? = some m ∧ MapAt C H m n g := by
  have hl := h.len
  have hi : i < ms.length := by
    rw [hl]
    exact (List.getElem?_eq_some_iff.mp e).1
  obtain ⟨g', e', q⟩ := h.get (List.getElem?_eq_getElem hi)
  rw [e] at e'
  cases e'
  exact ⟨_, List.getElem?_eq_getElem hi, q⟩
def spCheckAll (CM : Addr) : Sp := fun vs H Q _ => ∃ t ms n gs, vs = [.ref t] ∧ H t = some (.tup (ms.map V.ref)) ∧ MapsAt CM H n ms gs ∧ ms ≠ [] ∧ ms.length ≤ 10 ∧ Q .non H
def spFInit (CF CM : Addr) : Sp := fun vs H Q _ => ∃ p dx ms n gs, vs = .ref p :: ms.map V.ref ∧ H p = some (.ins CF dx []) ∧ MapsAt CM H n ms gs ∧ ms ≠ [] ∧ ms.length ≤ 10 ∧
  ∀ H', FamAt CF CM H' p n gs → (∀ b o, H b = some o → b ≠ p → H' b = some o) → Q .non H'
def spFMaps (CF : Addr) : Sp := fun vs H Q _ => ∃ a dx t, vs = [.ref a] ∧ H a = some (.ins CF dx (ff t)) ∧ Q (.ref t) H
def spFSize (CF CM : Addr) : Sp := fun vs H Q _ => ∃ a n gs, vs = [.ref a] ∧ FamAt CF CM H a n gs ∧ gs ≠ [] ∧ Q (.int ((n : Nat) : Int)) H
def spFLen (CF CM : Addr) : Sp := fun vs H Q _ => ∃ a n gs, vs = [.ref a] ∧ FamAt CF CM H a n gs ∧ Q (.int (((gs : List Fn).length : Nat) : Int)) H
def spMade (CF CM : Addr) : Sp := fun vs H Q _ => ∃ l ms n gs, vs = [.ref l] ∧ H l = some (.lst (ms.map V.ref)) ∧ MapsAt CM H n ms gs ∧ ms ≠ [] ∧ ms.length ≤ 10 ∧ ∀ H' m, Same H H' → FamAt CF CM H' m n gs → Q (.ref m) H'
def spFAdd (CF CM : Addr) : Sp := fun vs H Q _ => ∃ a b n gs hs, vs = [.ref a, .ref b] ∧ FamAt CF CM H a n gs ∧ FamAt CF CM H b n hs ∧ gs ≠ [] ∧ hs ≠ [] ∧ gs.length + hs.length ≤ 10 ∧
  ∀ H' m, Same H H' → FamAt CF CM H' m n (gs ++ hs) → Q (.ref m) H'
def spCheckFam (CF CM : Addr) : Sp := fun vs H Q _ => ∃ a n gs, vs = [.ref a] ∧ FamAt CF CM H a n gs ∧ Q .non H
def spCheckWord (CF CM : Addr) : Sp := fun vs H Q _ => ∃ f t n gs ws, vs = [.ref f, .ref t] ∧ FamAt CF CM H f n gs ∧ H t = some (.tup (vints ws)) ∧ ws.length ≤ 1000 ∧ gs.length ≤ 10 ∧ (∀ i ∈ ws, i < gs.length) ∧ ∀ H', Same H H' → Q .non H'
def prodF (n : Nat) (gs : List Fn) (ws : List Nat) : Fn := ws.foldl (fun g i => compF g (gs.getD i noF)) (idF n)
def spFCall (CF CM : Addr) : Sp := fun vs H Q _ => ∃ f t n gs ws, vs = [.ref f, .ref t] ∧ FamAt CF CM H f n gs ∧ H t = some (.tup (vints ws)) ∧ ws.length ≤ 1000 ∧ gs.length ≤ 10 ∧ gs ≠ [] ∧ (∀ i ∈ ws, i < gs.length) ∧ (∀ g ∈ gs, Good n g) ∧ 1 ≤ n ∧ n ≤ 300 ∧
  ∀ H' m, Same H H' → MapAt CM H' m n (prodF n gs ws) → Q (.ref m) H'
theorem prodF_good {n : Nat} {gs : List Fn} (hg : ∀ g ∈ gs, Good n g) : ∀ ws : List Nat, (∀ i ∈ ws, i < gs.length) → ∀ g0, Good n g0 → Good n (ws.foldl (fun g i => compF g (gs.getD i noF)) g0)
  | [], _, _, h => h
  | i :: ws, hi, g0, h => by
    refine prodF_good hg ws (fun j hj => hi j (List.mem_cons_of_mem _ hj)) _ (good_comp h ?_)
    have h1 : i < gs.length := hi i List.mem_cons_self
    rw [List.getD_eq_getElem?_getD, List.getElem?_eq_getElem h1]
    exact hg _ (List.getElem_mem h1)
section
variable {P : Program} {w : World} {K : PySem.W.Frag} {mg : Str → Option Value} {base : Heap} {k : Nat}
theorem scCheckAll : FnScope ["maps", "given"] ["maps"] (defScope (top 25)) := ⟨rfl, rfl, rfl, by decide +kernel, rfl, by decide +kernel, by decide +kernel⟩
theorem ok_checkAll (T : TX K mg) : Fn0 P w K mg base (k + 4) T.a_checkAll (spCheckAll T.CM) := by
  refine T.d_checkAll.ok scCheckAll (fun vs H Q E h => ?_) (fun cdv A outer s H vs Q E hr h => ?_)
  · obtain ⟨t, ms, n, gs, rfl, _⟩ := h
    rfl
  · obtain ⟨t, ms, n, gs, rfl, ht, M, hne, hl, q⟩ := h
    refine ⟨_, pss_cons (ps_if (pt_cmpR op_eq (pe_callB call_len_seq rfl T.z_len PySem.boot_len (pa_cons (pv 0) pa_nil)) pe_int (nomark _)) pss_never pss_nil)
      (pss_cons (ps_for PassesOwn.never rfl (pi_tup (pv 0)) (pg_name (i := 1) scCheckAll.nd rfl (.inl rfl))
        (pss_one (ps_expr (pe_cR (ok_checkMap (k := 0) T) (hr.mono (by omega)) rfl T.m_checkMap T.d_checkMap.kp (pa_cons (pv 1) pa_nil)))))
      (pss_one (ps_for PassesOwn.never rfl (pi_tup (pv 0)) (pg_name (i := 1) scCheckAll.nd rfl (.inl rfl))
        (pss_one (ps_expr (pe_cR (ok_common (k := 0) T) (hr.mono (by omega)) rfl T.m_commonSize T.d_commonSize.kp (pa_cons (pe_ix ix_tup (pv 0) pe_int (fun _ _ => rfl)) (pa_cons (pv 1) pa_nil)))))))), ?_⟩
    have hS : SqT K H t (ms.map V.ref) := SqT.of ht
    obtain ⟨m0, mr, rfl⟩ : ∃ m0 mr, ms = m0 :: mr := by
      cases ms with
      | nil => exact absurd rfl hne
      | cons a b => exact ⟨a, b, rfl⟩
    refine ⟨_, rfl, t, _, rfl, .inr hS, rfl, _, rfl, ?_⟩
    have e1 : decide (V.int ((((m0 :: mr).map V.ref).length : Nat) : Int) = V.int 0) = false := by
      refine decide_eq_false fun e => ?_
      have := V.int.inj e
      rw [List.length_map, List.length_cons] at this
      omega
    rw [e1]
    refine iteF ?_
    refine ⟨_, rfl, t, rfl, ⟨_, hS⟩, ?_⟩
    refine for_tup (K := K) (a := t) (xs := (m0 :: mr).map V.ref) (fun i σ H' => ∃ y, σ = [some (.ref t), y] ∧ H' = H) ⟨none, rfl, rfl⟩ (fun i σ H' _ h => ?_) ?_ ?_
    · obtain ⟨_, _, rfl⟩ := h
      exact hS
    · rintro i x σ H1 hx ⟨y, rfl, rfl⟩
      rw [List.getElem?_map] at hx
      obtain ⟨m, em, rfl⟩ := Option.map_eq_some_iff.mp hx
      obtain ⟨g, eg, hm⟩ := M.get em
      exact ⟨_, rfl, m, n, g, rfl, hm, _, rfl, rfl⟩
    · rintro σ H1 ⟨y, rfl, rfl⟩
      refine ⟨_, rfl, t, rfl, ⟨_, hS⟩, ?_⟩
      refine for_tup (K := K) (a := t) (xs := (m0 :: mr).map V.ref) (fun i σ H' => ∃ y, σ = [some (.ref t), y] ∧ H' = H1) ⟨_, rfl, rfl⟩ (fun i σ H' _ h => ?_) ?_ ?_
      · obtain ⟨_, _, rfl⟩ := h
        exact hS
      · rintro i x σ H2 hx ⟨y, rfl, rfl⟩
        rw [List.getElem?_map] at hx
        obtain ⟨m, em, rfl⟩ := Option.map_eq_some_iff.mp hx
        obtain ⟨g, eg, hm⟩ := M.get em
        obtain ⟨g0, eg0, hm0⟩ := M.get (i := 0) (m := m0) rfl
        exact ⟨_, rfl, _, _, 0, .ref m0, rfl, rfl, hS, at_of (j := 0) rfl rfl, _, rfl, m0, m, n, g0, g, rfl, hm0, hm, _, rfl, rfl⟩
      · rintro σ H2 ⟨y, rfl, rfl⟩
        exact q
theorem scFInit : FnScope ["self", "maps"] ["self", "maps"] (defScope (inClass (top 33) 1)) := ⟨rfl, rfl, rfl, by decide +kernel, rfl, by decide +kernel, by decide +kernel⟩
theorem ok_fInit (T : TX K mg) : Fn0 P w K mg base (k + 5) T.a_fInit (spFInit T.CF T.CM) := by
  obtain ⟨fd, F⟩ := T.d_fInit
  obtain ⟨⟨oc, od, kV, doc, pm, an, cdv, ct, osl, rfl, lk, hcd⟩, kp⟩ := F
  refine FnR.imp (fn_star (ps := ["self"]) (pv := "maps") (N := ["self", "maps"]) (k := k + 4) (sp := fun vs H Q _ => ∃ p dx t ms n gs, vs = [.ref p, .ref t] ∧ H p = some (.ins T.CF dx []) ∧ H t = some (.tup (ms.map V.ref)) ∧ MapsAt T.CM H n ms gs ∧ ms ≠ [] ∧ ms.length ≤ 10 ∧
      ∀ H', FamAt T.CF T.CM H' p n gs → (∀ b o, H b = some o → b ≠ p → H' b = some o) → Q .non H') lk hcd scFInit cxUp_none (bind_star1 (B := fun us => bindArgs (PySem.W.fnOf "__init__" "Family.__init__" (defArgs (inClass (top 33) 1)) (defBody (inClass (top 33) 1)) (defScope (inClass (top 33) 1)) .none kV doc pm an cdv ct) ⟨us, []⟩) (fun a => rfl) (fun a r rs => rfl)) (fun A outer s H vs Q E hr h => ?_)) ?_
  · obtain ⟨p, dx, t, ms, n, gs, rfl, hp, ht, M, hne, hl, q⟩ := h
    refine ⟨_, PSs.nox (pss_cons (ps_expr (pe_cR (ok_checkAll (k := k) T) hr rfl T.m_checkAll T.d_checkAll.kp (pa_cons (pv 1) pa_nil)))
      (pss_cons (ps_expr (pe_cR (ok_checkMany (k := 0) T) (hr.mono (by omega)) rfl T.m_checkMany T.d_checkMany.kp (pa_cons (pe_callB call_len_seq rfl T.z_len PySem.boot_len (pa_cons (pv 1) pa_nil)) pa_nil)))
      (pss_one (ps_fld (pv 0) (pe_callTy call_tupleT rfl T.z_tuple boot_tuple (pa_cons (pv 1) pa_nil)) rfl)))), ?_⟩
    refine ⟨_, rfl, t, ms, n, gs, rfl, ht, M, hne, hl, ?_⟩
    refine ⟨_, rfl, t, _, rfl, .inr (SqT.of ht), ms.length, by rw [List.length_map], hl, ?_⟩
    refine ⟨_, rfl, t, _, rfl, SqT.of ht, _, rfl, p, T.CF, dx, [], rfl, hp, T.clF, T.nF, (by show 0 < 1000; decide), ?_⟩
    have ntp : t ≠ p := ne_of ht hp (by intro e; cases e)
    have kp' : ∀ b o, H b = some o → b ≠ p → (upd H p (.ins T.CF dx (putF "own_maps" (.ref t) []))) b = some o := fun b o e nb => by
      rw [upd_ne nb]
      exact e
    exact q _ ⟨dx, t, ms, upd_same, kp' _ _ ht ntp, M.keep hp kp'⟩ kp'
  · rintro vs H Q E ⟨p, dx, ms, n, gs, rfl, hp, M, hne, hl, q⟩
    refine ⟨[.ref p], ms.map V.ref, rfl, rfl, ?_, fun t nt => ?_⟩
    · rw [List.length_map]
      exact Nat.le_of_lt (small1000 (by omega))
    · have st : Same H (upd H t (.tup (ms.map V.ref))) := Same.upd nt
      refine ⟨p, dx, t, ms, n, gs, rfl, st _ _ hp, upd_same, M.same st, hne, hl, fun H' hF kp => ?_⟩
      exact q H' hF fun b o e nb => kp b o (st _ _ e) nb
theorem scFMaps : FnScope ["self"] ["self"] (defScope (inClass (top 33) 2)) := ⟨rfl, rfl, rfl, by decide +kernel, rfl, by decide +kernel, by decide +kernel⟩
theorem ok_fMaps (T : TX K mg) : Fn0 P w K mg base (k + 1) T.a_fMaps (spFMaps T.CF) := by
  refine T.d_fMaps.ok scFMaps (fun vs H Q E h => ?_) (fun cdv A outer s H vs Q E hr h => ?_)
  · obtain ⟨a, dx, t, rfl, _⟩ := h
    rfl
  · obtain ⟨a, dx, t, rfl, h1, q⟩ := h
    refine ⟨_, pss_one (ps_ret (pe_fld (pv 0) rfl)), ?_⟩
    exact ⟨_, rfl, a, T.CF, dx, _, _, rfl, h1, T.clF, T.nF, ff_maps _, q⟩
theorem scFSize : FnScope ["self"] ["self"] (defScope (inClass (top 33) 3)) := ⟨rfl, rfl, rfl, by decide +kernel, rfl, by decide +kernel, by decide +kernel⟩
theorem ok_fSize (T : TX K mg) : Fn0 P w K mg base (k + 3) T.a_fSize (spFSize T.CF T.CM) := by
  refine T.d_fSize.ok scFSize (fun vs H Q E h => ?_) (fun cdv A outer s H vs Q E hr h => ?_)
  · obtain ⟨a, n, gs, rfl, _⟩ := h
    rfl
  · obtain ⟨a, n, gs, rfl, ⟨dx, t, ms, h1, h2, M⟩, hne, q⟩ := h
    refine ⟨_, pss_one (ps_ret (pe_propR (pe_ix ix_tup (pe_fld (pv 0) rfl) pe_int (fun _ _ => rfl)) T.clM T.o_pSize (ok_mSize (k := 0) T) (hr.mono (by omega)))), ?_⟩
    cases M with
    | nil => exact absurd rfl hne
    | @cons m mr g gr hm r =>
      obtain ⟨dy, d, h3, h4⟩ := hm
      exact ⟨_, rfl, a, T.CF, dx, _, _, rfl, h1, T.clF, T.nF, ff_maps _, _, _, 0, .ref m, rfl, rfl, SqT.of h2, at_of (j := 0) rfl rfl, m, dy, _, rfl, h3, m, dy, d, n, rfl, h3, q⟩
theorem scFLen : FnScope ["self"] ["self"] (defScope (inClass (top 33) 8)) := ⟨rfl, rfl, rfl, by decide +kernel, rfl, by decide +kernel, by decide +kernel⟩
theorem ok_fLen (T : TX K mg) : Fn0 P w K mg base (k + 1) T.a_fLen (spFLen T.CF T.CM) := by
  refine T.d_fLen.ok scFLen (fun vs H Q E h => ?_) (fun cdv A outer s H vs Q E hr h => ?_)
  · obtain ⟨a, n, gs, rfl, _⟩ := h
    rfl
  · obtain ⟨a, n, gs, rfl, ⟨dx, t, ms, h1, h2, M⟩, q⟩ := h
    refine ⟨_, pss_one (ps_ret (pe_callB call_len_seq rfl T.z_len PySem.boot_len (pa_cons (pe_fld (pv 0) rfl) pa_nil))), ?_⟩
    refine ⟨_, rfl, a, T.CF, dx, _, _, rfl, h1, T.clF, T.nF, ff_maps _, t, _, rfl, .inr (SqT.of h2), ?_⟩
    rw [List.length_map, M.len]
    exact q
theorem scMade : FnScope ["maps"] ["maps"] (defScope (top 34)) := ⟨rfl, rfl, rfl, by decide +kernel, rfl, by decide +kernel, by decide +kernel⟩
theorem ok_made (T : TX K mg) : Fn0 P w K mg base (k + 7) T.a_made (spMade T.CF T.CM) := by
  refine T.d_made.ok scMade (fun vs H Q E h => ?_) (fun cdv A outer s H vs Q E hr h => ?_)
  · obtain ⟨l, ms, n, gs, rfl, _⟩ := h
    rfl
  · obtain ⟨l, ms, n, gs, rfl, hl, M, hne, hlen, q⟩ := h
    refine ⟨_, pss_one (ps_ret (pe_mS T.mkF (ok_fInit (k := k) T) hr rfl T.mgF (pv 0))), ?_⟩
    refine ⟨_, rfl, l, _, rfl, .inr (SqL.of hl), fun x dx nx ndx ne => ?_⟩
    have s1 : Same H (upd (upd H dx (.own x)) x (.ins T.CF dx [])) := Same.upd2 (Same.upd ndx) (by rw [upd_ne ne.symm]; exact nx)
    refine ⟨x, dx, ms, n, gs, rfl, upd_same, M.same s1, hne, hlen, fun H' hF kp => ⟨rfl, ?_⟩⟩
    exact q H' x (Same.made nx ndx kp) hF
theorem scFAdd : FnScope ["self", "other"] ["self", "other"] (defScope (inClass (top 33) 5)) := ⟨rfl, rfl, rfl, by decide +kernel, rfl, by decide +kernel, by decide +kernel⟩
theorem ok_fAdd (T : TX K mg) : Fn0 P w K mg base (k + 8) T.a_fAdd (spFAdd T.CF T.CM) := by
  refine T.d_fAdd.ok scFAdd (fun vs H Q E h => ?_) (fun cdv A outer s H vs Q E hr h => ?_)
  · obtain ⟨a, b, n, gs, hs, rfl, _⟩ := h
    rfl
  · obtain ⟨a, b, n, gs, hs, rfl, ⟨dx, t, ms, h1, h2, M⟩, ⟨dy, u, ns, h3, h4, N⟩, g0, h0, hlen, q⟩ := h
    have hr2 : Room 2 _ := hr.mono (by omega)
    refine ⟨_, pss_cons (ps_if (pt_not (pt_val (pe_callB call_isi rfl T.z_isinstance boot_isinstance (pa_cons (pv 1) (pa_cons (pe_glob (v := .ref T.CF) rfl T.mgF rfl) pa_nil))))) pss_never pss_nil)
      (pss_cons (ps_if (pt_cmpR op_ne (pe_propR (pe_ix ix_tup (pe_fld (pv 0) rfl) pe_int (fun _ _ => rfl)) T.clM T.o_pSize (ok_mSize (k := 0) T) hr2)
          (pe_propR (pe_ix ix_tup (pe_fld (pv 1) rfl) pe_int (fun _ _ => rfl)) T.clM T.o_pSize (ok_mSize (k := 0) T) hr2) (nomark _)) pss_never pss_nil)
      (pss_cons (ps_expr (pe_cR (ok_checkMany (k := 0) T) (hr.mono (by omega)) rfl T.m_checkMany T.d_checkMany.kp (pa_cons (pe_op op_add (pe_callB call_len_seq rfl T.z_len PySem.boot_len (pa_cons (pe_fld (pv 0) rfl) pa_nil))
          (pe_callB call_len_seq rfl T.z_len PySem.boot_len (pa_cons (pe_fld (pv 1) rfl) pa_nil))) pa_nil)))
      (pss_one (ps_ret (pe_cR (ok_made (k := k) T) hr rfl T.m_made T.d_made.kp (pa_cons (pe_lst (pa_star (pe_fld (pv 0) rfl) (pa_star (pe_fld (pv 1) rfl) pa_nil))) pa_nil)))))), ?_⟩
    refine ⟨_, rfl, _, _, _, _, _, rfl, .own _, tyF T h3, kit_self, _, rfl, iteF ?_⟩
    have lm := M.len
    have ln := N.len
    have F1 : ∀ {β : Prop} (_ : β), β := fun h => h
    have hmx : ∃ m mr g gr, ms = m :: mr ∧ gs = g :: gr ∧ MapAt T.CM H m n g := by
      cases M with
      | nil => exact absurd rfl g0
      | cons hm r => exact ⟨_, _, _, _, rfl, rfl, hm⟩
    have hnx : ∃ m mr g gr, ns = m :: mr ∧ hs = g :: gr ∧ MapAt T.CM H m n g := by
      cases N with
      | nil => exact absurd rfl h0
      | cons hm r => exact ⟨_, _, _, _, rfl, rfl, hm⟩
    obtain ⟨m, mr, g, gr, em, eg, dm, d, hm1, hm2⟩ := hmx
    obtain ⟨m', mr', g', gr', em', eg', dm', d', hm1', hm2'⟩ := hnx
    refine ⟨_, rfl, a, T.CF, dx, _, _, rfl, h1, T.clF, T.nF, ff_maps _, _, _, 0, .ref m, rfl, rfl, SqT.of h2, by rw [em]; exact at_of (j := 0) rfl rfl, m, dm, _, rfl, hm1, m, dm, d, n, rfl, hm1, ?_⟩
    refine ⟨_, rfl, b, T.CF, dy, _, _, rfl, h3, T.clF, T.nF, ff_maps _, _, _, 0, .ref m', rfl, rfl, SqT.of h4, by rw [em']; exact at_of (j := 0) rfl rfl, m', dm', _, rfl, hm1', m', dm', d', n, rfl, hm1', rfl, _, rfl, ?_⟩
    rw [decide_eq_true rfl]
    refine iteF ?_
    refine ⟨_, rfl, a, T.CF, dx, _, _, rfl, h1, T.clF, T.nF, ff_maps _, t, _, rfl, .inr (SqT.of h2), _, rfl, b, T.CF, dy, _, _, rfl, h3, T.clF, T.nF, ff_maps _, u, _, rfl, .inr (SqT.of h4), _, _, rfl, rfl, ms.length + ns.length, ?_, by omega, ?_⟩
    · rw [List.length_map, List.length_map]
      rfl
    refine ⟨_, rfl, a, T.CF, dx, _, _, rfl, h1, T.clF, T.nF, ff_maps _, t, _, rfl, .inl (SqT.of h2), _, rfl, b, T.CF, dy, _, _, rfl, h3, T.clF, T.nF, ff_maps _, u, _, rfl, .inl (SqT.of h4), ?_, fun p np => ?_⟩
    · rw [List.append_nil, List.length_append, List.length_map, List.length_map]
      exact Nat.le_of_lt (small1000 (by omega))
    · have s1 : Same H (upd H p (.lst (ms.map V.ref ++ (ns.map V.ref ++ [])))) := Same.upd np
      refine ⟨p, ms ++ ns, n, gs ++ hs, rfl, ?_, (M.same s1).append (N.same s1), ?_, ?_, fun H' x s2 hF => ?_⟩
      · rw [upd_same, List.append_nil, List.map_append]
      · rw [em]
        simp
      · rw [List.length_append]
        omega
      · exact q H' x (s1.trans s2) hF
theorem scCheckFam : FnScope ["family"] ["family"] (defScope (top 36)) := ⟨rfl, rfl, rfl, by decide +kernel, rfl, by decide +kernel, by decide +kernel⟩
theorem ok_checkFam (T : TX K mg) : Fn0 P w K mg base (k + 1) T.a_checkFamily (spCheckFam T.CF T.CM) := by
  refine T.d_checkFamily.ok scCheckFam (fun vs H Q E h => ?_) (fun cdv A outer s H vs Q E hr h => ?_)
  · obtain ⟨a, n, gs, rfl, _⟩ := h
    rfl
  · obtain ⟨a, n, gs, rfl, ⟨dx, t, ms, h1, h2, M⟩, q⟩ := h
    refine ⟨_, pss_one (ps_if (pt_not (pt_val (pe_callB call_isi rfl T.z_isinstance boot_isinstance (pa_cons (pv 0) (pa_cons (pe_glob (v := .ref T.CF) rfl T.mgF rfl) pa_nil))))) pss_never pss_nil), ?_⟩
    exact ⟨_, rfl, _, _, _, _, _, rfl, .own _, tyF T h1, kit_self, _, rfl, iteF q⟩
theorem scCheckWord : FnScope ["family", "word", "position", "index"] ["family", "word"] (defScope (top 35)) := ⟨rfl, rfl, rfl, by decide +kernel, rfl, by decide +kernel, by decide +kernel⟩
theorem ok_checkWord (T : TX K mg) : Fn0 P w K mg base (k + 3) T.a_checkWord (spCheckWord T.CF T.CM) := by
  refine T.d_checkWord.ok scCheckWord (fun vs H Q E h => ?_) (fun cdv A outer s H vs Q E hr h => ?_)
  · obtain ⟨f, t, n, gs, ws, rfl, _⟩ := h
    rfl
  · obtain ⟨f, t, n, gs, ws, rfl, hF, ht, hl, hg, hv, q⟩ := h
    obtain ⟨tt, gm⟩ := T.g_MOST_LETTERS
    refine ⟨_, pss_cons (ps_if (PW.pt (pw_or (pt_not (pt_val (pe_callB call_isiT rfl T.z_isinstance boot_isinstance (pa_cons (pv 1) (pa_cons (pe_tup (pa_cons (pe_bltn (v := .ty "list") rfl T.z_list boot_list rfl) (pa_cons (pe_bltn (v := .ty "tuple") rfl T.z_tuple boot_tuple rfl) pa_nil))) pa_nil)))))
        (pw_or1 (pt_cmpR op_gt (pe_callB call_len_seq rfl T.z_len PySem.boot_len (pa_cons (pv 1) pa_nil)) (pe_glob (v := .int 1000) rfl gm ⟨tt, rfl⟩) (nomark _))))) pss_never pss_nil)
      (pss_one (ps_for PassesOwn.never rfl (pi_enumT rfl T.z_enumerate (pa_cons (pv 1) pa_nil)) (pg_tup rfl (pgs_cons (pg_name (i := 2) scCheckWord.nd rfl (.inl rfl)) (pgs_cons (pg_name (i := 3) scCheckWord.nd rfl (.inl rfl)) pgs_nil)))
        (pss_one (ps_if (pt_not (pt_val (pe_cR (ok_inRange (k := k) T) hr rfl T.m_inRange T.d_inRange.kp (pa_cons (pv 3) (pa_cons pe_int (pa_cons (pe_op op_sub (pe_callB (call_lenOwn (C := T.CF) (ok_fLen (k := 0) T) (hr.mono (by omega)) T.hLen T.hLenf) rfl T.z_len PySem.boot_len (pa_cons (pv 0) pa_nil)) pe_int) pa_nil)))))) pss_never pss_nil)))), ?_⟩
    refine ⟨_, rfl, (by show 2 ≤ sizeLine; decide), fun tp ntp => ?_⟩
    have s1 : Same H (upd H tp (.tup [.ty "list", .ty "tuple"])) := Same.upd ntp
    refine ⟨_, tp, _, _, [.type "list", .type "tuple"], true, rfl, upd_same, .cons (.ty "list") (.cons (.ty "tuple") .nil), .base (.tup (s1 _ _ ht)), ?_, _, rfl, iteF ?_⟩
    · exact kitAny_cons (b := false) (kit_ty (by decide +kernel)) (fun _ => kitAny_cons (b := true) (kit_ty (by decide +kernel)) (fun h => by cases h) (fun _ => rfl)) (fun h => by cases h)
    refine ⟨_, rfl, t, _, rfl, .inr (SqT.of (s1 _ _ ht)), _, _, rfl, rfl, _, rfl, ?_⟩
    have e1 : decide ((1000 : Int) < (((vints ws).length : Nat) : Int)) = false := decide_eq_false (by rw [List.length_map]; omega)
    rw [e1]
    refine iteF ?_
    refine ⟨_, rfl, t, _, rfl, SqT.of (s1 _ _ ht), ?_⟩
    refine for_it (walk_enumT (xs := vints ws)) (fun i σ H' => ∃ y2 y3, σ = [some (.ref f), some (.ref t), y2, y3] ∧ Same H H') ⟨none, none, rfl, s1⟩ (fun i σ H' _ h => ?_) ?_ ?_
    · obtain ⟨_, _, _, h⟩ := h
      exact SqT.of (h _ _ ht)
    · rintro i x σ H1 H2 hi ⟨y2, y3, rfl, s2⟩ ⟨T', a, b, rfl, nT, rfl, ea, eb⟩
      replace ea : some (V.int ((i : Nat) : Int)) = some a := ea
      replace eb : (vints ws)[i]? = some b := eb
      rw [List.getElem?_map] at eb
      obtain ⟨j, ej, rfl⟩ := Option.map_eq_some_iff.mp eb
      have hj : j < gs.length := hv j (List.mem_of_getElem? ej)
      have s3 : Same H (upd H1 T' (.tup [a, V.int (j : Int)])) := s2.upd2 nT
      have hF3 := hF.same s3
      obtain ⟨dx, tt', ms, h1, h2, M⟩ := id hF3
      refine ⟨T', _, rfl, SqT.of upd_same, rfl, _, _, rfl, _, _, rfl, rfl, ?_⟩
      refine ⟨_, rfl, _, rfl, f, dx, _, rfl, h1, f, n, gs, rfl, hF3, gs.length, rfl, by omega, _, _, rfl, rfl, _, _, _, rfl, .int _, _, rfl, ?_⟩
      rw [inR_nat hj]
      exact iteF ⟨_, _, rfl, s3⟩
    · rintro σ H1 ⟨y2, y3, rfl, s2⟩
      exact q H1 s2
theorem scFCall : FnScope ["self", "word", "found", "index"] ["self", "word"] (defScope (inClass (top 33) 4)) := ⟨rfl, rfl, rfl, by decide +kernel, rfl, by decide +kernel, by decide +kernel⟩
theorem ok_fCall (T : TX K mg) : Fn0 P w K mg base (k + 8) T.a_fCall (spFCall T.CF T.CM) := by
  refine T.d_fCall.ok scFCall (fun vs H Q E h => ?_) (fun cdv A outer s H vs Q E hr h => ?_)
  · obtain ⟨f, t, n, gs, ws, rfl, _⟩ := h
    rfl
  · obtain ⟨f, t, n, gs, ws, rfl, hF, ht, hl, hg, g0, hv, hG, h1, hn, q⟩ := h
    refine ⟨_, pss_cons (ps_expr (pe_cR (ok_checkWord (k := 0) T) (hr.mono (by omega)) rfl T.m_checkWord T.d_checkWord.kp (pa_cons (pv 0) (pa_cons (pv 1) pa_nil))))
      (pss_cons (ps_set (i := 2) scFCall.nd rfl (.inl rfl) (pe_cmeth (pe_glob (v := .ref T.CM) rfl T.mgM rfl) T.rdM T.o_cIdent (ok_mIdent (k := 0) T) (hr.mono (by omega)) pass0
          (pa_cons (pe_propR (pe_ix ix_tup (pe_fld (pv 0) rfl) pe_int (fun _ _ => rfl)) T.clM T.o_pSize (ok_mSize (k := 0) T) (hr.mono (by omega))) pa_nil)))
      (pss_cons (ps_for PassesOwn.never rfl (pi_tup (pv 1)) (pg_name (i := 3) scFCall.nd rfl (.inl rfl))
        (pss_one (ps_set (i := 2) scFCall.nd rfl (.inl rfl) (pe_op (op_ownR (C := T.CM) (op := .Mult) (ok_mMul (k := 0) T) (hr.mono (by omega)) T.sfM T.hMul T.hMulf) (pv 2) (pe_ix ix_tup (pe_fld (pv 0) rfl) (pv 3) (fun _ _ => rfl))))))
      (pss_one (ps_ret (pv 2))))), ?_⟩
    refine ⟨_, rfl, _, rfl, f, t, n, gs, ws, rfl, hF, ht, hl, hg, hv, fun H1 s1 => ?_⟩
    obtain ⟨dx, t0, ms, f1, f2, M⟩ := hF.same s1
    have hmx : ∃ m mr, ms = m :: mr ∧ ∃ g, MapAt T.CM H1 m n g := by
      cases M with
      | nil => exact absurd rfl g0
      | cons hm r => exact ⟨_, _, rfl, _, hm⟩
    obtain ⟨m, mr, em, g, dm, d, hm1, hm2⟩ := hmx
    refine ⟨rfl, _, rfl, f, T.CF, dx, _, _, rfl, f1, T.clF, T.nF, ff_maps _, _, _, 0, .ref m, rfl, rfl, SqT.of f2, by rw [em]; exact at_of (j := 0) rfl rfl, m, dm, _, rfl, hm1, m, dm, d, n, rfl, hm1, n, rfl, h1, hn, fun H2 i0 s2 _ hi0 => ?_⟩
    have s12 := s1.trans s2
    refine ⟨_, rfl, t, rfl, ⟨_, SqT.of (s12 _ _ ht)⟩, ?_⟩
    refine for_tup (K := K) (a := t) (xs := vints ws) (fun i σ H' => ∃ y m, σ = [some (.ref f), some (.ref t), some (.ref m), y] ∧ Same H H' ∧ MapAt T.CM H' m n (prodF n gs (ws.take i))) ⟨none, i0, rfl, s12, hi0⟩ (fun i σ H' _ h => ?_) ?_ ?_
    · obtain ⟨_, _, _, h, _⟩ := h
      exact SqT.of (h _ _ ht)
    · rintro i x σ H3 hx ⟨y, m, rfl, s3, hm⟩
      rw [List.getElem?_map] at hx
      obtain ⟨j, ej, rfl⟩ := Option.map_eq_some_iff.mp hx
      have hj : j < gs.length := hv j (List.mem_of_getElem? ej)
      obtain ⟨dx, t0, ms, f1, f2, M⟩ := hF.same s3
      obtain ⟨m2, em2, hm2⟩ := M.get' (List.getElem?_eq_getElem hj)
      obtain ⟨e1, e2, e3, e4⟩ := id hm
      obtain ⟨e5, e6, e7, e8⟩ := id hm2
      refine ⟨_, rfl, _, rfl, f, T.CF, dx, _, _, rfl, f1, T.clF, T.nF, ff_maps _, _, rfl, _, _, (j : Int), .ref m2, rfl, rfl, SqT.of f2, atI_nat (by rw [List.getElem?_map, em2]; rfl), ?_⟩
      have hgood : Good n (prodF n gs (ws.take i)) := prodF_good hG _ (fun z hz => hv z (List.mem_of_mem_take hz)) _ (good_id n)
      refine ⟨m, m2, _, _, _, _, rfl, rfl, e3, e7, m, m2, n, _, _, rfl, hm, hm2, hgood, hG _ (List.getElem_mem hj), h1, hn, fun H4 m3 s4 _ hm3 => ?_⟩
      refine ⟨_, m3, rfl, s3.trans s4, ?_⟩
      have e : prodF n gs (ws.take (i + 1)) = compF (prodF n gs (ws.take i)) gs[j] := by
        unfold prodF
        rw [List.take_add_one, ej, Option.toList_some, List.foldl_append, List.foldl_cons, List.foldl_nil, List.getD_eq_getElem?_getD, List.getElem?_eq_getElem hj]
        rfl
      rw [e]
      exact hm3
    · rintro σ H3 ⟨y, m, rfl, s3, hm⟩
      rw [List.take_of_length_le (by rw [List.length_map]; exact Nat.le_refl _)] at hm
      exact ⟨_, rfl, q H3 m s3 hm⟩
end
end K57
end

section
set_option Elab.async false
set_option linter.all false
set_option maxRecDepth 100000
set_option maxHeartbeats 4000000
namespace K57
open PySem PySem.Spec PyProof.Rows L2 StX ClX
/-! a list against the empty list; data's types -/
section
variable {X : Cx}
theorem plainL_is {h : Heap} {a : Addr} {its : Array Value} (p : PlainL h a its) : h.IsList a its := by
  obtain ⟨o, n, h1, h2, h3, h4⟩ := p
  exact ⟨o, h1, h2, n, h4⟩
def rEqNil (K : PySem.W.Frag) (neg : Bool) : R2 := fun x y H Q => ∃ a b xs, x = .ref a ∧ y = .ref b ∧ SqL K H a xs ∧ SqL K H b [] ∧ Q (.bl (if neg then !xs.isEmpty else xs.isEmpty)) H
theorem op_eqNil (hu : X.A.units < cLine) : OpR X (compareOp .Eq) (rEqNil X.K false) := by
  intro pins s σ H x y v u Q I rx ry h
  obtain ⟨a, b, xs, rfl, rfl, ha, hb, q⟩ := h
  cases rx
  cases ry
  obtain ⟨its, r1, p1, _⟩ := I.list ha
  obtain ⟨jts, r2, p2, _⟩ := I.list hb
  cases r2
  cases xs with
  | nil =>
    cases r1
    exact PySem.SeqAt.eq_listAt (e := fun _ => true) (plainL_is p1) (plainL_is p2) rfl hu (fun j h1 _ => absurd h1 (Nat.not_lt_zero j)) ⟨.bl _, H, I, rfl, q⟩
  | cons x xs =>
    cases r1
    exact PySem.SeqAt.eq_list_lengthsAt (plainL_is p1) (plainL_is p2) rfl hu ⟨.bl _, H, I, rfl, q⟩
theorem op_neNil (hu : X.A.units < cLine) : OpR X (compareOp .NotEq) (rEqNil X.K true) := by
  intro pins s σ H x y v u Q I rx ry h
  obtain ⟨a, b, xs, rfl, rfl, ha, hb, q⟩ := h
  cases rx
  cases ry
  obtain ⟨its, r1, p1, _⟩ := I.list ha
  obtain ⟨jts, r2, p2, _⟩ := I.list hb
  cases r2
  cases xs with
  | nil =>
    cases r1
    exact PySem.SeqAt.RcNeAt.lists (e := fun _ => true) (plainL_is p1) (plainL_is p2) rfl hu (fun j h1 _ => absurd h1 (Nat.not_lt_zero j)) _ _ _ _ ⟨.bl _, H, I, rfl, q⟩
  | cons x xs =>
    cases r1
    exact PySem.SeqAt.RcNeAt.lists_lengths (plainL_is p1) (plainL_is p2) rfl hu _ _ _ _ ⟨.bl _, H, I, rfl, q⟩
end
end K57
end

section
set_option Elab.async false
set_option linter.all false
set_option maxRecDepth 100000
namespace K57
/-! plain laws of the walk: words, products, the line and the ring -/
def lookW (W : Wd) (p : List Nat) : Option (List Nat) := (W.find? fun e => decide (e.1 = p)).map (·.2)
theorem lookW_none {W : Wd} {p : List Nat} (h : ¬ p ∈ keys W) : lookW W p = none := by
  unfold lookW
  rw [List.find?_eq_none.mpr]
  · rfl
  · intro e he hp
    exact h (List.mem_map.mpr ⟨e, he, of_decide_eq_true hp⟩)
theorem lookW_some {W : Wd} {p : List Nat} (h : p ∈ keys W) : ∃ w, lookW W p = some w ∧ (p, w) ∈ W := by
  unfold lookW
  cases e : W.find? fun e => decide (e.1 = p) with
  | none =>
    obtain ⟨x, hx, rfl⟩ := List.mem_map.mp h
    have := List.find?_eq_none.mp e x hx
    exact absurd (decide_eq_true rfl) this
  | some x =>
    have h1 : x.1 = p := of_decide_eq_true (List.find?_some (p := fun e : List Nat × List Nat => decide (e.1 = p)) e)
    have h2 := List.mem_of_find?_eq_some e
    subst h1
    exact ⟨x.2, rfl, h2⟩
theorem lookW_pre {W W' : Wd} {p : List Nat} (h : W <+: W') (hp : p ∈ keys W) : lookW W' p = lookW W p := by
  obtain ⟨r, rfl⟩ := h
  obtain ⟨w, hw, _⟩ := lookW_some hp
  unfold lookW at hw ⊢
  rw [List.find?_append]
  cases e : W.find? fun e => decide (e.1 = p) with
  | none =>
    rw [e] at hw
    cases hw
  | some x => rfl
def walkP (n : Nat) (gs : List Fn) (w : List Nat) : List Nat := w.foldl (fun s i => img n (gs.getD i noF) s) (List.range n)
structure WordOk (n : Nat) (gs : List Fn) (k : Nat) (e : List Nat × List Nat) : Prop where
  len : e.2.length ≤ k
  ix : ∀ i ∈ e.2, i < gs.length
  at_ : e.1 = walkP n gs e.2
theorem WordOk.up {n : Nat} {gs : List Fn} {k : Nat} {e : List Nat × List Nat} (h : WordOk n gs k e) : WordOk n gs (k + 1) e := ⟨Nat.le_succ_of_le h.len, h.ix, h.at_⟩
theorem expTo_words {n : Nat} {gs : List Fn} {k : Nat} {p w : List Nat} {W : Wd} (hp : WordOk n gs k (p, w)) (hW : ∀ e ∈ W, WordOk n gs (k + 1) e) : ∀ i, ∀ e ∈ expTo n gs p w W i, WordOk n gs (k + 1) e
  | 0 => hW
  | i + 1 => by
    intro e he
    unfold expTo at he
    cases hg : gs[i]? with
    | none =>
      rw [hg] at he
      exact expTo_words hp hW i e he
    | some g =>
      rw [hg] at he
      simp only [put1] at he
      split at he
      · exact expTo_words hp hW i e he
      · rcases List.mem_append.mp he with h | h
        · exact expTo_words hp hW i e h
        · rw [List.mem_singleton] at h
          subst h
          refine ⟨?_, ?_, ?_⟩
          · show (w ++ [i]).length ≤ k + 1
            rw [List.length_append, List.length_singleton]
            exact Nat.succ_le_succ hp.len
          · intro j hj
            rcases List.mem_append.mp hj with h | h
            · exact hp.ix j h
            · rw [List.mem_singleton] at h
              subst h
              exact (List.getElem?_eq_some_iff.mp hg).1
          · show img n g p = walkP n gs (w ++ [i])
            unfold walkP
            rw [List.foldl_append, List.foldl_cons, List.foldl_nil, List.getD_eq_getElem?_getD, hg]
            show img n g p = img n g _
            rw [show p = walkP n gs w from hp.at_]
            rfl
theorem bfs_words (n : Nat) (gs : List Fn) : ∀ k, ∀ e ∈ bfs n gs k, WordOk n gs k e
  | 0 => by
    intro e he
    have h : e = (List.range n, []) := List.mem_singleton.mp he
    subst h
    exact ⟨Nat.le_refl _, fun i hi => (by cases hi), rfl⟩
  | k + 1 => by
    intro e he
    unfold bfs at he
    cases h : (bfs n gs k)[k]? with
    | none =>
      rw [h] at he
      exact (bfs_words n gs k e he).up
    | some q =>
      obtain ⟨p, w⟩ := q
      rw [h] at he
      exact expTo_words (bfs_words n gs k _ (List.mem_of_getElem? h)) (fun e he => (bfs_words n gs k e he).up) _ e he
theorem img_comp {n : Nat} {g h : Fn} (G : Good n g) (ps : List Nat) : img n h (img n g ps) = img n (compF g h) ps := by
  refine asc_ext (img_asc _ _ _) (img_asc _ _ _) fun t => ?_
  rw [mem_img, mem_img]
  constructor
  · rintro ⟨ht, q, hq, e⟩
    obtain ⟨_, p, hp, e'⟩ := mem_img.mp hq
    exact ⟨ht, p, hp, by unfold compF; rw [e']; exact e⟩
  · rintro ⟨ht, p, hp, e⟩
    obtain ⟨q, e1, e2⟩ := Option.bind_eq_some_iff.mp e
    exact ⟨ht, q, mem_img.mpr ⟨(G.lt _ _ e1).2, p, hp, e1⟩, e2⟩
theorem img_id (n : Nat) : img n (idF n) (List.range n) = List.range n := by
  refine asc_ext (img_asc _ _ _) List.pairwise_lt_range fun t => ?_
  rw [mem_img, List.mem_range]
  constructor
  · exact fun h => h.1
  · exact fun h => ⟨h, t, List.mem_range.mpr h, if_pos h⟩
theorem getD_good {n : Nat} {gs : List Fn} (hg : ∀ g ∈ gs, Good n g) (i : Nat) : Good n (gs.getD i noF) := by
  rw [List.getD_eq_getElem?_getD]
  cases e : gs[i]? with
  | none => exact good_no n
  | some g => exact hg g (List.mem_of_getElem? e)
theorem walk_fold {n : Nat} {gs : List Fn} (hg : ∀ g ∈ gs, Good n g) : ∀ (w : List Nat) (g0 : Fn), Good n g0 →
    w.foldl (fun s i => img n (gs.getD i noF) s) (img n g0 (List.range n)) = img n (w.foldl (fun g i => compF g (gs.getD i noF)) g0) (List.range n)
  | [], _, _ => rfl
  | i :: w, g0, h => by
    rw [List.foldl_cons, List.foldl_cons, img_comp h]
    exact walk_fold hg w _ (good_comp h (getD_good hg i))
theorem walk_prod {n : Nat} {gs : List Fn} (hg : ∀ g ∈ gs, Good n g) (w : List Nat) : walkP n gs w = img n (prodF n gs w) (List.range n) := by
  have := walk_fold hg w (idF n) (good_id n)
  rw [img_id] at this
  exact this
theorem prodF_good' {n : Nat} {gs : List Fn} (hg : ∀ g ∈ gs, Good n g) : ∀ (w : List Nat) (g0 : Fn), Good n g0 → Good n (w.foldl (fun g i => compF g (gs.getD i noF)) g0)
  | [], _, h => h
  | i :: w, _, h => prodF_good' hg w _ (good_comp h (getD_good hg i))
/-- a word that leads to nothing has the empty product -/
theorem prod_empty {n : Nat} {gs : List Fn} (hg : ∀ g ∈ gs, Good n g) {w : List Nat} (h : walkP n gs w = []) : tab n (prodF n gs w) = tab n noF := by
  have G : Good n (prodF n gs w) := prodF_good' hg w _ (good_id n)
  rw [walk_prod hg] at h
  rw [tab_no]
  refine List.eq_nil_iff_forall_not_mem.mpr fun e he => ?_
  obtain ⟨i, j, hi, hj, _⟩ := mem_tab.mp he
  have : j ∈ img n (prodF n gs w) (List.range n) := mem_img.mpr ⟨(G.lt _ _ hj).2, i, List.mem_range.mpr hi, hj⟩
  rw [h] at this
  cases this
/-! the line and the ring -/
def lineF (n : Nat) : Fn := fun i => if i + 1 < n then some (i + 1) else none
def ringF (n : Nat) : Fn := fun i => if i < n then some ((i + 1) % n) else none
theorem good_line (n : Nat) : Good n (lineF n) := by
  constructor
  · intro i j h
    unfold lineF at h
    split at h
    · cases h
      omega
    · cases h
  · intro i j k h1 h2
    unfold lineF at h1 h2
    split at h1 <;> split at h2
    · have a := Option.some.inj h1
      have b := Option.some.inj h2
      omega
    all_goals simp_all
theorem mod_inj {n i j : Nat} (hi : i < n) (hj : j < n) (h : (i + 1) % n = (j + 1) % n) : i = j := by
  by_cases a : i + 1 = n
  · by_cases b : j + 1 = n
    · omega
    · rw [a, Nat.mod_self, Nat.mod_eq_of_lt (by omega)] at h
      omega
  · by_cases b : j + 1 = n
    · rw [b, Nat.mod_self, Nat.mod_eq_of_lt (by omega)] at h
      omega
    · rw [Nat.mod_eq_of_lt (by omega), Nat.mod_eq_of_lt (by omega)] at h
      omega
theorem good_ring (n : Nat) : Good n (ringF n) := by
  constructor
  · intro i j h
    unfold ringF at h
    split at h
    · cases h
      exact ⟨by assumption, Nat.mod_lt _ (by omega)⟩
    · cases h
  · intro i j k h1 h2
    unfold ringF at h1 h2
    split at h1 <;> split at h2
    · have a := Option.some.inj h1
      have b := Option.some.inj h2
      exact mod_inj (by assumption) (by assumption) (a.trans b.symm)
    all_goals simp_all
theorem range_drop_mem {n i t : Nat} : t ∈ (List.range n).drop i ↔ i ≤ t ∧ t < n := by
  constructor
  · intro h
    obtain ⟨j, hj⟩ := List.mem_iff_getElem?.mp h
    rw [List.getElem?_drop] at hj
    have := List.getElem?_eq_some_iff.mp hj
    obtain ⟨a, b⟩ := this
    rw [List.getElem_range] at b
    rw [List.length_range] at a
    omega
  · rintro ⟨a, b⟩
    refine List.mem_iff_getElem?.mpr ⟨t - i, ?_⟩
    rw [List.getElem?_drop, show i + (t - i) = t by omega]
    exact List.getElem?_range b
theorem img_line (n i : Nat) : img n (lineF n) ((List.range n).drop i) = (List.range n).drop (i + 1) := by
  refine asc_ext (img_asc _ _ _) ((List.pairwise_lt_range).sublist (List.drop_sublist _ _)) fun t => ?_
  rw [mem_img, range_drop_mem]
  constructor
  · rintro ⟨ht, p, hp, e⟩
    have := range_drop_mem.mp hp
    unfold lineF at e
    split at e
    · cases e
      omega
    · cases e
  · rintro ⟨a, b⟩
    refine ⟨b, t - 1, range_drop_mem.mpr ⟨by omega, by omega⟩, ?_⟩
    unfold lineF
    rw [if_pos (by omega), show t - 1 + 1 = t by omega]
theorem img_ring (n : Nat) : img n (ringF n) (List.range n) = List.range n := by
  refine asc_ext (img_asc _ _ _) List.pairwise_lt_range fun t => ?_
  rw [mem_img, List.mem_range]
  constructor
  · exact fun h => h.1
  · intro h
    refine ⟨h, (t + n - 1) % n, List.mem_range.mpr (Nat.mod_lt _ (by omega)), ?_⟩
    unfold ringF
    rw [if_pos (Nat.mod_lt _ (by omega))]
    congr 1
    by_cases a : t = 0
    · subst a
      rw [show (0 + n - 1) % n = n - 1 from (congrArg (· % n) (by omega : 0 + n - 1 = n - 1)).trans (Nat.mod_eq_of_lt (by omega)), show n - 1 + 1 = n by omega, Nat.mod_self]
    · rw [show t + n - 1 = (t - 1) + n by omega, Nat.add_mod_right, Nat.mod_eq_of_lt (show t - 1 < n by omega), show t - 1 + 1 = t by omega, Nat.mod_eq_of_lt h]
def lineE (n i : Nat) : List Nat × List Nat := ((List.range n).drop i, List.replicate i 0)
theorem bfs_line (n : Nat) : ∀ k, k ≤ n → bfs n [lineF n] k = (List.range (k + 1)).map (lineE n)
  | 0, _ => rfl
  | k + 1, h => by
    have ih := bfs_line n k (by omega)
    have e : (bfs n [lineF n] k)[k]? = some (lineE n k) := by
      rw [ih, List.getElem?_map, List.getElem?_range (Nat.lt_succ_self k)]
      rfl
    show (match (bfs n [lineF n] k)[k]? with
      | some (p, w) => expTo n [lineF n] p w (bfs n [lineF n] k) [lineF n].length
      | none => bfs n [lineF n] k) = _
    rw [e]
    show put1 n (bfs n [lineF n] k) ((List.range n).drop k) (List.replicate k 0) 0 (lineF n) = _
    unfold put1
    rw [img_line, if_neg, ih, List.range_succ (n := k + 1), List.map_append]
    · congr 1
      show [((List.range n).drop (k + 1), List.replicate k 0 ++ [0])] = [lineE n (k + 1)]
      unfold lineE
      rw [List.replicate_succ']
    · rw [ih]
      intro m
      obtain ⟨e, he, ee⟩ := List.mem_map.mp m
      obtain ⟨i, hi, rfl⟩ := List.mem_map.mp he
      have hl := congrArg List.length ee
      unfold lineE at hl
      rw [List.length_drop, List.length_drop, List.length_range] at hl
      have := List.mem_range.mp hi
      omega
theorem bfs_line_end (n : Nat) : bfs n [lineF n] (n + 1) = (List.range (n + 1)).map (lineE n) := by
  have ih := bfs_line n n (Nat.le_refl n)
  have e : (bfs n [lineF n] n)[n]? = some (lineE n n) := by
    rw [ih, List.getElem?_map, List.getElem?_range (Nat.lt_succ_self n)]
    rfl
  show (match (bfs n [lineF n] n)[n]? with
    | some (p, w) => expTo n [lineF n] p w (bfs n [lineF n] n) [lineF n].length
    | none => bfs n [lineF n] n) = _
  rw [e]
  show put1 n (bfs n [lineF n] n) ((List.range n).drop n) (List.replicate n 0) 0 (lineF n) = _
  unfold put1
  rw [img_line, if_pos, ih]
  rw [ih]
  refine List.mem_map.mpr ⟨lineE n n, List.mem_map.mpr ⟨n, List.mem_range.mpr (Nat.lt_succ_self n), rfl⟩, ?_⟩
  show (List.range n).drop n = (List.range n).drop (n + 1)
  rw [List.drop_eq_nil_of_le (by rw [List.length_range]; exact Nat.le_refl n), List.drop_eq_nil_of_le (by rw [List.length_range]; exact Nat.le_succ n)]
theorem bfs_line_few (n k : Nat) : (bfs n [lineF n] k).length ≤ n + 1 := by
  by_cases h : k ≤ n
  · rw [bfs_line n k h, List.length_map, List.length_range]
    omega
  · have e := bfs_line_end n
    have hl : (bfs n [lineF n] (n + 1)).length ≤ n + 1 := by
      rw [e, List.length_map, List.length_range]
      exact Nat.le_refl _
    rw [bfs_end hl (show n + 1 ≤ k by omega)]
    exact hl
theorem line_look (n : Nat) : lookW (bfs n [lineF n] (n + 1)) [] = some (List.replicate n 0) := by
  have hm : ([] : List Nat) ∈ keys (bfs n [lineF n] (n + 1)) := by
    rw [bfs_line_end]
    refine List.mem_map.mpr ⟨lineE n n, List.mem_map.mpr ⟨n, List.mem_range.mpr (Nat.lt_succ_self n), rfl⟩, ?_⟩
    exact List.drop_eq_nil_of_le (by rw [List.length_range]; exact Nat.le_refl n)
  obtain ⟨w, e, hw⟩ := lookW_some hm
  rw [e]
  rw [bfs_line_end] at hw
  obtain ⟨i, hi, ei⟩ := List.mem_map.mp hw
  have h1 : (List.range n).drop i = [] := congrArg Prod.fst ei
  have h2 : List.replicate i 0 = w := congrArg Prod.snd ei
  have h3 := congrArg List.length h1
  rw [List.length_drop, List.length_range, List.length_nil] at h3
  have h4 := List.mem_range.mp hi
  rw [← h2, show i = n by omega]
theorem bfs_ring (n : Nat) : ∀ k, bfs n [ringF n, ringF n] k = [(List.range n, [])]
  | 0 => rfl
  | k + 1 => by
    have ih := bfs_ring n k
    show (match (bfs n [ringF n, ringF n] k)[k]? with
      | some (p, w) => expTo n [ringF n, ringF n] p w (bfs n [ringF n, ringF n] k) [ringF n, ringF n].length
      | none => bfs n [ringF n, ringF n] k) = _
    rw [ih]
    cases k with
    | succ k => rfl
    | zero =>
      show put1 n (put1 n [(List.range n, [])] (List.range n) [] 0 (ringF n)) (List.range n) [] 1 (ringF n) = _
      have e : ∀ i, put1 n [(List.range n, [])] (List.range n) [] i (ringF n) = [(List.range n, [])] := by
        intro i
        unfold put1
        rw [img_ring, if_pos (show List.range n ∈ keys [(List.range n, [])] from List.mem_singleton.mpr rfl)]
      rw [e, e]
end K57
end

section
set_option Elab.async false
set_option linter.all false
set_option maxRecDepth 100000
set_option maxHeartbeats 4000000
namespace K57
open PySem PySem.Spec PyProof.Rows L2 StX ClX
/-! places_after, image_of -/
abbrev intsD (p : List Nat) : List PyData := p.map fun (j : Nat) => PyData.int (j : Int)
def tupD (p : List Nat) : PyData := .tuple (intsD p)
def lstD (p : List Nat) : PyData := .list (intsD p)
theorem vints_snoc (a : List Nat) (j : Nat) : vints a ++ [V.int (j : Int)] = vints (a ++ [j]) := (List.map_append (f := fun (j : Nat) => V.int (j : Int)) (l₁ := a) (l₂ := [j])).symm
theorem dpAll_ints {K : PySem.W.Frag} {H : Hp} : ∀ p : List Nat, DpAll K H (vints p) (intsD p)
  | [] => .nil
  | j :: p => .cons (.int (j : Int)) (dpAll_ints p)
theorem ints_lay : ∀ p : List Nat, PyData.canLayAll0 (intsD p) = true
  | [] => rfl
  | j :: p => by
    show (PyData.canLay0 (.int (j : Int)) && PyData.canLayAll0 (intsD p)) = true
    rw [ints_lay p]
    rfl
theorem ints_depth : ∀ p : List Nat, PyData.depthAll (intsD p) ≤ 1
  | [] => by decide
  | j :: p => by
    show max (PyData.depth (.int (j : Int))) (PyData.depthAll (intsD p)) ≤ 1
    exact Nat.max_le.mpr ⟨by simp [PyData.depth], ints_depth p⟩
theorem tupD_shaped (p : List Nat) : SeqAt.shaped (tupD p) = true := by
  have h1 := ints_lay p
  have h2 := ints_depth p
  show (PyData.canLayAll0 (intsD p) && decide (PyData.depthAll (intsD p) + 1 ≤ 64)) = true
  rw [h1, decide_eq_true (by omega)]
  rfl
theorem lstD_shaped (p : List Nat) : SeqAt.shaped (lstD p) = true := by
  have h1 := ints_lay p
  have h2 := ints_depth p
  show (PyData.canLayAll0 (intsD p) && decide (PyData.depthAll (intsD p) + 1 ≤ 64)) = true
  rw [h1, decide_eq_true (by omega)]
  rfl
theorem eqv_tup_nil (p : List Nat) : PyData.eqv (tupD p) (.tuple []) = p.isEmpty := by
  cases p <;> rfl
/-! words and places in the heap -/
def WdAt (H : Hp) (kvs : List (List Key × V)) (W : Wd) : Prop := Paired (fun (kv : List Key × V) (e : List Nat × List Nat) => kv.1 = ikeys e.1 ∧ ∃ q, kv.2 = .ref q ∧ H q = some (.tup (vints e.2))) kvs W
def TupsAt (H : Hp) (bs : List Addr) (ps : List (List Nat)) : Prop := Paired (fun (b : Addr) (p : List Nat) => H b = some (.tup (vints p))) bs ps
def TabsAt (H : Hp) (n : Nat) (ds : List Addr) (gs : List Fn) : Prop := Paired (fun (d : Addr) (g : Fn) => H d = some (.dK (tab n g))) ds gs
/-- tuples and dicts of arrows stay -/
def KeepT (H H' : Hp) : Prop := (∀ b xs, H b = some (.tup xs) → H' b = some (.tup xs)) ∧ ∀ b kvs, H b = some (.dK kvs) → H' b = some (.dK kvs)
theorem KeepT.of {H H' : Hp} (s : Same H H') : KeepT H H' := ⟨fun b _ e => s b _ e, fun b _ e => s b _ e⟩
theorem KeepT.trans {H H1 H2 : Hp} (a : KeepT H H1) (b : KeepT H1 H2) : KeepT H H2 := ⟨fun c _ e => b.1 c _ (a.1 c _ e), fun c _ e => b.2 c _ (a.2 c _ e)⟩
theorem KeepT.lst {H : Hp} {a : Addr} {xs ys : List V} (h : H a = some (.lst xs)) : KeepT H (upd H a (.lst ys)) :=
  ⟨fun b z e => by rw [upd_ne (ne_of e h (by intro q; cases q))]; exact e, fun b z e => by rw [upd_ne (ne_of e h (by intro q; cases q))]; exact e⟩
theorem KeepT.dT {H : Hp} {a : Addr} {xs ys : List (List Key × V)} (h : H a = some (.dT xs)) : KeepT H (upd H a (.dT ys)) :=
  ⟨fun b z e => by rw [upd_ne (ne_of e h (by intro q; cases q))]; exact e, fun b z e => by rw [upd_ne (ne_of e h (by intro q; cases q))]; exact e⟩
theorem KeepT.new {H : Hp} {a : Addr} {o : HO} (h : H a = none) : KeepT H (upd H a o) := .of (Same.upd h)
theorem WdAt.keep {H H' : Hp} (k : KeepT H H') {kvs : List (List Key × V)} {W : Wd} (h : WdAt H kvs W) : WdAt H' kvs W :=
  Paired.mapP h fun _ _ ⟨h1, q, h2, h3⟩ => ⟨h1, q, h2, k.1 _ _ h3⟩
theorem TupsAt.keep {H H' : Hp} (k : KeepT H H') {bs : List Addr} {ps : List (List Nat)} (h : TupsAt H bs ps) : TupsAt H' bs ps := Paired.mapP h fun _ _ h => k.1 _ _ h
theorem TabsAt.keep {H H' : Hp} (k : KeepT H H') {n : Nat} {ds : List Addr} {gs : List Fn} (h : TabsAt H n ds gs) : TabsAt H' n ds gs := Paired.mapP h fun _ _ h => k.2 _ _ h
theorem TabsAt.same {H H' : Hp} (k : Same H H') {n : Nat} {ds : List Addr} {gs : List Fn} (h : TabsAt H n ds gs) : TabsAt H' n ds gs := h.keep (.of k)
theorem TabsAt.get {H : Hp} {n : Nat} : ∀ {ds : List Addr} {gs : List Fn}, TabsAt H n ds gs → ∀ {i : Nat} {d : Addr}, ds[i]? = some d → ∃ g, gs[i]? = some g ∧ H d = some (.dK (tab n g))
  | _, _, .cons h r, 0, _, e => by
    cases e
    exact ⟨_, rfl, h⟩
  | _, _, .cons h r, i + 1, _, e => TabsAt.get r (i := i) e
theorem ikeys_inj {p q : List Nat} (h : ikeys p = ikeys q) : p = q := by
  induction p generalizing q with
  | nil =>
    cases q with
    | nil => rfl
    | cons a b => cases h
  | cons x p ih =>
    cases q with
    | nil => cases h
    | cons a b =>
      obtain ⟨h1, h2⟩ : (Sum.inl (x : Int) : Key) = Sum.inl (a : Int) ∧ ikeys p = ikeys b := List.cons.inj h
      have := Sum.inl.inj h1
      rw [ih h2, show x = a by omega]
theorem WdAt.look {H : Hp} (p : List Nat) : ∀ {kvs : List (List Key × V)} {W : Wd}, WdAt H kvs W → (∀ w, lookW W p = some w → ∃ q, valV kvs (ikeys p) = some (.ref q) ∧ H q = some (.tup (vints w))) ∧ (lookW W p = none → valV kvs (ikeys p) = none)
  | _, _, .nil => ⟨fun w h => (by cases h), fun _ => rfl⟩
  | _, _, .cons (a := kv) (b := e) (l₁ := l1) (l₂ := l2) h r => by
    obtain ⟨h1, q, h2, h3⟩ := h
    have ih := WdAt.look p r
    by_cases c : e.1 = p
    · have e1 : lookW (e :: l2) p = some e.2 := by
        unfold lookW
        rw [List.find?_cons_of_pos (by exact decide_eq_true c)]
        rfl
      rw [e1]
      refine ⟨fun w hw => ?_, fun h => by cases h⟩
      cases hw
      exact ⟨q, by rw [valV_pos (by rw [h1, c]), h2], h3⟩
    · have e1 : lookW (e :: l2) p = lookW l2 p := by
        unfold lookW
        rw [List.find?_cons_of_neg (by exact decide_eq_false c ▸ Bool.false_ne_true)]
      rw [e1, valV_neg (by rw [h1]; exact fun z => c (ikeys_inj z))]
      exact ih
theorem WdAt.isSome {H : Hp} {kvs : List (List Key × V)} {W : Wd} (h : WdAt H kvs W) (p : List Nat) : (valV kvs (ikeys p)).isSome = decide (p ∈ keys W) := by
  by_cases c : p ∈ keys W
  · obtain ⟨w, hw, _⟩ := lookW_some c
    obtain ⟨q, e, _⟩ := (h.look p).1 w hw
    rw [e, decide_eq_true c]
    rfl
  · rw [(h.look p).2 (lookW_none c), decide_eq_false c]
    rfl
theorem WdAt.len {H : Hp} {kvs : List (List Key × V)} {W : Wd} (h : WdAt H kvs W) : kvs.length = W.length := Paired.length h
theorem lookW_mem {W : Wd} (nd : (keys W).Nodup) {p w : List Nat} (h : (p, w) ∈ W) : lookW W p = some w := by
  obtain ⟨w', e, m⟩ := lookW_some (List.mem_map.mpr ⟨_, h, rfl⟩ : p ∈ keys W)
  obtain ⟨i, hi⟩ := List.mem_iff_getElem?.mp h
  obtain ⟨j, hj⟩ := List.mem_iff_getElem?.mp m
  have : i = j := nd_ix nd (x := p) (by unfold keys; rw [List.getElem?_map, hi]; rfl) (by unfold keys; rw [List.getElem?_map, hj]; rfl)
  subst this
  rw [hi] at hj
  cases hj
  exact e
def spPlaces : Sp := fun vs H Q _ => ∃ t d ps n g, vs = [.ref t, .ref d] ∧ H t = some (.tup (vints ps)) ∧ H d = some (.dK (tab n g)) ∧ Good n g ∧ ps.length ≤ 1000 ∧ ∀ H' p, Same H H' → H p = none → H' p = some (.lst (vints (ps.filterMap g))) → Q (.ref p) H'
def spImage : Sp := fun vs H Q _ => ∃ t d ps n g, vs = [.ref t, .ref d] ∧ H t = some (.tup (vints ps)) ∧ H d = some (.dK (tab n g)) ∧ Good n g ∧ ps.length ≤ 1000 ∧ ps.Nodup ∧ ∀ H' p, Same H H' → H p = none → H' p = some (.tup (vints (img n g ps))) → Q (.ref p) H'
theorem perm_nat : ∀ (ns : List Int) (xs : List Nat), ns.Perm (xs.map fun (j : Nat) => (j : Int)) → ∃ l : List Nat, l.Perm xs ∧ ns = l.map fun (j : Nat) => (j : Int) := by
  intro ns xs h
  obtain ⟨l', h1, h2⟩ := perm_lift (fun (j : Nat) => (j : Int)) h xs rfl
  exact ⟨l', h1, h2.symm⟩
section
variable {P : Program} {w : World} {K : PySem.W.Frag} {mg : Str → Option Value} {base : Heap} {k : Nat}
theorem scPlaces : FnScope ["places", "table", "place"] ["places", "table"] (defScope (top 27)) := ⟨rfl, rfl, rfl, by decide +kernel, rfl, by decide +kernel, by decide +kernel⟩
theorem ok_places (T : TX K mg) : Fn0 P w K mg base (k + 1) T.a_placesAfter spPlaces := by
  refine T.d_placesAfter.ok scPlaces (fun vs H Q E h => ?_) (fun cdv A outer s H vs Q E hr h => ?_)
  · obtain ⟨t, d, ps, n, g, rfl, _⟩ := h
    rfl
  · obtain ⟨t, d, ps, n, g, rfl, ht, hd, G, hl, q⟩ := h
    have hu := hu_of hr
    refine ⟨_, pss_one (ps_ret (pe_lc (own := [("place", 2)]) (g := gName 2) rfl scPlaces.nd (pi_tup (pv 0)) (blkOk_by (N := ["places", "table", "place"]) (sc := defScope (top 27)) (by decide +kernel)) (fun s H C cl fp => pg_name (i := 2) scPlaces.nd rfl (.inl rfl))
      (fun s H C cl fp => pts_one (pt_cmp (pc_din hu (pv 2) (pv 1)))) (fun s H C cl fp => pe_dget hu (pv 1) (pv 2) (fun _ _ => rfl)))), ?_⟩
    refine ⟨_, rfl, t, rfl, ⟨_, SqT.of ht⟩, fun D nD => ?_⟩
    refine lc_tup (xs := vints ps) (fun i H' => H' D = some (.lst (vints ((ps.take i).filterMap g))) ∧ SameX D H H') ⟨upd_same, (Same.upd nD).x⟩ (fun i H' _ h => SqT.of (h.2 t _ (ne_of_none ht nD) ht)) ?_ ?_
    · rintro i x H2 hx ⟨hD, sx⟩
      rw [List.getElem?_map] at hx
      obtain ⟨j, ej, rfl⟩ := Option.map_eq_some_iff.mp hx
      have hd2 := sx d _ (ne_of_none hd nD) hd
      have et : (ps.take (i + 1)).filterMap g = (ps.take i).filterMap g ++ (g j).toList := by
        rw [List.take_add_one, ej, List.filterMap_append]
        all_goals rfl
      refine ⟨rfl, _, rfl, _, rfl, d, _, rfl, DGet.k (k := Sum.inl (j : Int)) hd2, _, rfl, ?_⟩
      rw [tab_get G]
      cases hg : g j with
      | none =>
        refine iteF ⟨?_, sx⟩
        rw [hD, et, hg]
        exact congrArg (fun z => some (HO.lst (vints z))) (List.append_nil _).symm
      | some m =>
        refine iteT ⟨_, rfl, _, rfl, d, .int (m : Int), rfl, ?_, _, hD, ?_, upd_same.trans ?_, sx.updx⟩
        · have e := DGet.k (k := Sum.inl (j : Int)) hd2
          rw [tab_get G, hg] at e
          exact e
        · rw [List.length_map]
          refine Nat.lt_of_le_of_lt (List.length_filterMap_le _ _) ?_
          rw [List.length_take]
          exact Nat.lt_of_le_of_lt (Nat.min_le_right _ _) (small1000 hl)
        · rw [et, hg]
          exact congrArg (fun z => some (HO.lst z)) (vints_snoc _ _)
    · rintro H2 ⟨hD, sx⟩
      rw [List.take_of_length_le (by rw [List.length_map]; exact Nat.le_refl _)] at hD
      exact q H2 D (fun b o e => sx b o (ne_of_none e nD) e) nD hD
theorem scImage : FnScope ["places", "table", "place"] ["places", "table"] (defScope (top 37)) := ⟨rfl, rfl, rfl, by decide +kernel, rfl, by decide +kernel, by decide +kernel⟩
theorem ok_image (T : TX K mg) : Fn0 P w K mg base (k + 2) T.a_imageOf spImage := by
  refine T.d_imageOf.ok scImage (fun vs H Q E h => ?_) (fun cdv A outer s H vs Q E hr h => ?_)
  · obtain ⟨t, d, ps, n, g, rfl, _⟩ := h
    rfl
  · obtain ⟨t, d, ps, n, g, rfl, ht, hd, G, hl, nd, q⟩ := h
    refine ⟨_, pss_one (ps_ret (pe_callTy call_tuple_of rfl T.z_tuple boot_tuple (pa_cons (pe_callB cr_sortedI rfl T.z_sorted boot_sorted (pa_cons
      (pe_lc (own := [("place", 2)]) (g := gName 2) rfl scImage.nd (pi_list (pe_cR (ok_places (k := k) T) hr rfl T.m_placesAfter T.d_placesAfter.kp (pa_cons (pv 0) (pa_cons (pv 1) pa_nil)))) (blkOk_by (N := ["places", "table", "place"]) (sc := defScope (top 37)) (by decide +kernel)) (fun s H C cl fp => pg_name (i := 2) scImage.nd rfl (.inl rfl))
      (fun s H C cl fp => pts_nil) (fun s H C cl fp => pe_callTy call_int1 rfl T.z_int boot_int (pa_cons (pv 2) pa_nil))) pa_nil)) pa_nil))), ?_⟩
    refine ⟨_, rfl, _, rfl, t, d, ps, n, g, rfl, ht, hd, G, hl, fun H1 l s1 nl hL => ?_⟩
    have hle : (ps.filterMap g).length ≤ 1000 := Nat.le_trans (List.length_filterMap_le _ _) hl
    refine ⟨l, rfl, ⟨_, SqL.of hL⟩, fun D nD => ?_⟩
    refine lc_list (xs := vints (ps.filterMap g)) (fun i H' => H' D = some (.lst (vints ((ps.filterMap g).take i))) ∧ SameX D H1 H') ⟨upd_same, (Same.upd nD).x⟩ (fun i H' _ h => SqL.of (h.2 l _ (ne_of_none hL nD) hL)) ?_ ?_
    · rintro i x H2 hx ⟨hD, sx⟩
      rw [List.getElem?_map] at hx
      obtain ⟨j, ej, rfl⟩ := Option.map_eq_some_iff.mp hx
      refine ⟨rfl, ?_⟩
      refine iteT (B := True) ⟨_, rfl, .inl ⟨_, rfl, _, hD, ?_, upd_same.trans ?_, sx.updx⟩⟩
      · rw [List.length_map, List.length_take]
        exact Nat.lt_of_le_of_lt (Nat.min_le_right _ _) (small1000 hle)
      · rw [List.take_add_one, ej]
        exact congrArg (fun z => some (HO.lst z)) (vints_snoc _ _)
    · rintro H2 ⟨hD, sx⟩
      rw [List.take_of_length_le (by rw [List.length_map]; exact Nat.le_refl _)] at hD
      have s2 : Same H H2 := s1.trans fun b o e => sx b o (ne_of_none e nD) e
      refine ⟨D, (ps.filterMap g).map fun (j : Nat) => (j : Int), rfl, .inl (.inl (hD.trans ?_)), fun ns p hperm hs np => ?_⟩
      · rw [List.map_map]
        rfl
      · obtain ⟨lo, hlo, rfl⟩ := perm_nat ns _ hperm
        have ei : lo = img n g ps := sorted_img G nd hlo (by
          rw [List.pairwise_map] at hs
          exact hs.imp fun h => by omega)
        refine ⟨p, _, rfl, .inl ⟨SqL.of upd_same, fun l' nl' => ?_⟩⟩
        refine q _ l' ((s2.upd2 np).upd2 nl') ((s2.upd2 np).free nl') (upd_same.trans ?_)
        rw [List.map_map, ei]
        rfl
end
end K57
end

section
set_option Elab.async false
set_option linter.all false
set_option maxRecDepth 100000
set_option maxHeartbeats 4000000
namespace K57
open PySem PySem.Spec PyProof.Rows L2 StX ClX
/-! searched, losing_word, holding_sets -/
def SCore (H H' : Hp) (n : Nat) (gs : List Fn) (ds : List Addr) (tl wd wt : Addr) (W : Wd) (m : Nat) : Prop :=
  Same H H' ∧ H' tl = some (.lst (ds.map V.ref)) ∧ TabsAt H' n ds gs ∧ (∃ kvs, H' wd = some (.dT kvs) ∧ WdAt H' kvs W) ∧ ∃ bs, H' wt = some (.lst (bs.map V.ref)) ∧ TupsAt H' bs ((keys W).drop m)
theorem SCore.same {H H' H2 : Hp} {n : Nat} {gs : List Fn} {ds : List Addr} {tl wd wt : Addr} {W : Wd} {m : Nat} (c : SCore H H' n gs ds tl wd wt W m) (s : Same H' H2) : SCore H H2 n gs ds tl wd wt W m := by
  obtain ⟨c1, c2, c3, ⟨kvs, c4, c5⟩, bs, c6, c7⟩ := c
  exact ⟨c1.trans s, s _ _ c2, c3.same s, ⟨kvs, s _ _ c4, c5.keep (.of s)⟩, bs, s _ _ c6, c7.keep (.of s)⟩
theorem SCore.put {H H' : Hp} {n : Nat} {gs : List Fn} {ds : List Addr} {tl wd wt : Addr} {W : Wd} {m : Nat} (hwd : H wd = none) (hwt : H wt = none) (htt : tl ≠ wt) {kvs : List (List Key × V)} {bs : List Addr} (c1 : Same H H') (c2 : H' tl = some (.lst (ds.map V.ref)))
    (c3 : TabsAt H' n ds gs) (c4 : H' wd = some (.dT kvs)) (c5 : WdAt H' kvs W) (c6 : H' wt = some (.lst (bs.map V.ref))) (c7 : TupsAt H' bs ((keys W).drop m)) {l q : Addr} {p v : List Nat} (hl : H' l = some (.tup (vints p))) (hq : H' q = some (.tup (vints v)))
    (hp : ¬ p ∈ keys W) (hm : m ≤ W.length) :
    SCore H (upd (upd H' wd (.dT (putK kvs (ikeys p) (.ref q)))) wt (.lst (bs.map V.ref ++ [.ref l]))) n gs ds tl wd wt (W ++ [(p, v)]) m := by
  have ntd : wt ≠ wd := ne_of c6 c4 (by intro e; cases e)
  have k1 : KeepT H' (upd H' wd (.dT (putK kvs (ikeys p) (.ref q)))) := .dT c4
  have c6' : (upd H' wd (.dT (putK kvs (ikeys p) (.ref q)))) wt = some (.lst (bs.map V.ref)) := by
    rw [upd_ne ntd]
    exact c6
  have k2 := k1.trans (.lst (ys := bs.map V.ref ++ [.ref l]) c6')
  refine ⟨(c1.set hwd).set hwt, ?_, c3.keep k2, ⟨kvs ++ [(ikeys p, .ref q)], ?_, ?_⟩, bs ++ [l], ?_, ?_⟩
  · rw [upd_ne htt, upd_ne (ne_of c2 c4 (by intro e; cases e))]
    exact c2
  · rw [upd_ne ntd.symm, upd_same, putK_new]
    exact (c5.look p).2 (lookW_none hp)
  · exact Paired.snoc (c5.keep k2) ⟨rfl, q, rfl, k2.1 _ _ hq⟩
  · rw [upd_same, List.map_append]
    rfl
  · have e : (keys (W ++ [(p, v)])).drop m = (keys W).drop m ++ [p] := by
      rw [keys_append, List.drop_append_of_le_length (by unfold keys; rw [List.length_map]; exact hm)]
      rfl
    rw [e]
    exact Paired.snoc (c7.keep k2) (k2.1 _ _ hl)
def SRes (n : Nat) (gs : List Fn) (W : Wd) : Prop := ∃ k, W <+: bfs n gs k ∧ (([] : List Nat) ∈ keys W ∨ (W = bfs n gs k ∧ (bfs n gs k).length ≤ k ∧ ¬ ([] : List Nat) ∈ keys W))
structure Small (n : Nat) (gs : List Fn) : Prop where
  good : ∀ g ∈ gs, Good n g
  ne : gs ≠ []
  few : gs.length ≤ 10
  n1 : 1 ≤ n
  n3 : n ≤ 300
  bd : ∀ k, (bfs n gs k).length ≤ 2000
def spSearched (CF CM : Addr) : Sp := fun vs H Q _ => ∃ f n gs, vs = [.ref f] ∧ FamAt CF CM H f n gs ∧ Small n gs ∧ ∀ H' d kvs W, Same H H' → H d = none → H' d = some (.dT kvs) → WdAt H' kvs W → SRes n gs W → Q (.ref d) H'
theorem expTo_bfs {n : Nat} {gs : List Fn} {k : Nat} {p v : List Nat} (h : (bfs n gs k)[k]? = some (p, v)) : bfs n gs (k + 1) = expTo n gs p v (bfs n gs k) gs.length := by
  show (match (bfs n gs k)[k]? with
    | some (p, w) => expTo n gs p w (bfs n gs k) gs.length
    | none => bfs n gs k) = _
  rw [h]
theorem mapsAt_tabs {C : Addr} {H : Hp} {n : Nat} : ∀ {ms : List Addr} {gs : List Fn}, MapsAt C H n ms gs → ∀ {i : Nat} {m : Addr}, ms[i]? = some m → ∃ g, gs[i]? = some g ∧ MapAt C H m n g := fun h => h.get
section
variable {P : Program} {w : World} {K : PySem.W.Frag} {mg : Str → Option Value} {base : Heap} {k : Nat}
abbrev nmSearched : List Str := ["family", "tables", "full", "words", "waiting", "places", "index", "table", "later", "one"]
theorem scSearched : FnScope nmSearched ["family"] (defScope (top 38)) := ⟨rfl, rfl, rfl, by decide +kernel, rfl, by decide +kernel, by decide +kernel⟩
theorem take_snoc {α : Type} {l : List α} {i : Nat} {x : α} (h : l[i]? = some x) : l.take (i + 1) = l.take i ++ [x] := by
  rw [List.take_add_one, h]
  rfl
theorem ok_searched (T : TX K mg) : Fn0 P w K mg base (k + 5) T.a_searched (spSearched T.CF T.CM) := by
  refine T.d_searched.ok scSearched (fun vs H Q E h => ?_) (fun cdv A outer s H vs Q E hr h => ?_)
  · obtain ⟨f, n, gs, rfl, _⟩ := h
    rfl
  · obtain ⟨f, n, gs, rfl, hF, S, q⟩ := h
    have hu := hu_of hr
    have hu0 := hr.units0
    obtain ⟨tm, gm⟩ := T.g_MOST_SETS
    obtain ⟨dx, t, ms, f1, f2, M⟩ := id hF
    refine ⟨_, pss_cons (ps_setLc (i := 1) (own := [("one", 9)]) (g := gName 9) rfl scSearched.nd rfl rfl (sw_true rfl rfl (by rfl) (by rfl)) (pi_tup (pe_propR (pv 0) T.clF T.o_pMaps (ok_fMaps (k := 0) T) (hr.mono (by omega)))) (blkOk_by (N := nmSearched) (sc := defScope (top 38)) (by decide +kernel))
        (fun s H C cl fp => pg_name (i := 9) scSearched.nd rfl (.inl rfl)) (fun s H C cl fp => pts_nil) (fun s H C cl fp => pe_propR (pv 9) T.clM T.o_pArrows (ok_mArrows (k := 0) T) (hr.mono (by omega))))
      (pss_cons (ps_set (i := 2) scSearched.nd rfl (.inl rfl) (pe_tupRg rfl rfl T.z_tuple (prg_1 rfl T.z_range (pe_propR (pv 0) T.clF T.o_pFSize (ok_fSize (k := 0) T) (hr.mono (by omega))))))
      (pss_cons (ps_set (i := 3) scSearched.nd rfl (.inl rfl) (pe_disp1T hu0 (pv 2) (pe_tup pa_nil)))
      (pss_cons (ps_set (i := 4) scSearched.nd rfl (.inl rfl) (pe_lst (pa_cons (pv 2) pa_nil)))
      (pss_cons (ps_while PassesOwn.never (pt_cmpR (op_neNil hu0) (pv 4) (pe_lst pa_nil) (nomark _))
        (pss_cons (ps_set (i := 5) scSearched.nd rfl (.inl rfl) (pe_bm PySem.F.plainAttrs_list PySem.F.slot_list_pop PySem.F.type_list_pop mt_popAt (pv 4) (pa_cons pe_int pa_nil)))
        (pss_one (ps_for PassesOwn.never rfl (pi_enum rfl T.z_enumerate (pa_cons (pv 1) pa_nil)) (pg_tup rfl (pgs_cons (pg_name (i := 6) scSearched.nd rfl (.inl rfl)) (pgs_cons (pg_name (i := 7) scSearched.nd rfl (.inl rfl)) pgs_nil)))
          (pss_cons (ps_set (i := 8) scSearched.nd rfl (.inl rfl) (pe_cR (ok_image (k := 0) T) (hr.mono (by omega)) rfl T.m_imageOf T.d_imageOf.kp (pa_cons (pv 5) (pa_cons (pv 7) pa_nil))))
          (pss_one (ps_if (pt_cmp (pc_dnotin hu (pv 8) (pv 3)))
            (pss_cons (ps_if (PW.pt (pw_and (pt_cmpR op_eq (pe_callB call_len_dT rfl T.z_len PySem.boot_len (pa_cons (pv 3) pa_nil)) (pe_glob (v := .int 2000) rfl gm ⟨tm, rfl⟩) (nomark _)) (pw_and1 (pt_cmpR (op_neD hr.units) (pv 8) (pe_tup pa_nil) (nomark _))))) pss_never pss_nil)
            (pss_cons (ps_dput hu (pv 3) (pv 8) (pe_tup (pa_star (pe_dget hu (pv 3) (pv 5) (fun _ _ => rfl)) (pa_cons (pv 6) pa_nil))) rfl)
            (pss_cons (ps_expr (pe_bm PySem.F.plainAttrs_list PySem.F.slot_list_append PySem.F.type_list_append mt_append (pv 4) (pa_cons (pv 8) pa_nil)))
            (pss_one (ps_if (pt_cmpR (op_eqD hr.units) (pv 8) (pe_tup pa_nil) (nomark _)) (pss_one (ps_ret (pv 3))) pss_nil)))))
            pss_nil)))))))
      (pss_one (ps_ret (pv 3))))))), ?_⟩
    -- tables
    refine ⟨_, rfl, f, dx, _, rfl, f1, f, dx, t, rfl, f1, t, rfl, ⟨_, SqT.of f2⟩, fun tl ntl => ?_⟩
    refine lc_tup (xs := ms.map V.ref) (fun i H' => ∃ ds, H' tl = some (.lst (ds.map V.ref)) ∧ Same H H' ∧ TabsAt H' n ds (gs.take i)) ⟨[], upd_same, Same.upd ntl, .nil⟩ (fun i H' _ h => ?_) ?_ ?_
    · obtain ⟨_, _, h, _⟩ := h
      exact SqT.of (h _ _ f2)
    · rintro i x H2 hx ⟨ds, hl, s2, ht⟩
      rw [List.getElem?_map] at hx
      obtain ⟨m, em, rfl⟩ := Option.map_eq_some_iff.mp hx
      obtain ⟨g, eg, hm⟩ := M.get em
      have hm2 := hm.same s2
      obtain ⟨dm, dd, hm3, hm4⟩ := id hm2
      refine ⟨rfl, ?_⟩
      refine iteT (B := True) ⟨_, rfl, m, dm, _, rfl, hm3, m, n, g, rfl, hm2, fun p np => ?_⟩
      have hl2 : (upd H2 p (.dK (tab n g))) tl = some (.lst (ds.map V.ref)) := by
        rw [upd_ne (ne_of_none hl np)]
        exact hl
      refine ⟨_, hl2, ?_, ds ++ [p], upd_same.trans ?_, (s2.upd2 np).set ntl, ?_⟩
      · rw [List.length_map, Paired.length ht, List.length_take]
        have := S.few
        exact small1000 (by omega)
      · rw [List.map_append]
        rfl
      · rw [take_snoc eg]
        have k2 : KeepT H2 (upd (upd H2 p (.dK (tab n g))) tl (.lst (ds.map V.ref ++ [.ref p]))) := (KeepT.new np).trans (KeepT.lst hl2)
        refine Paired.snoc (TabsAt.keep k2 ht) ?_
        exact (KeepT.lst (ys := ds.map V.ref ++ [.ref p]) hl2).2 _ _ upd_same
    rintro H1 ⟨ds, hl1, s1, ht1⟩
    rw [List.length_map, M.len, List.take_length] at ht1
    -- full, words, waiting
    have hF1 := hF.same s1
    obtain ⟨dx1, t1, ms1, g1, g2, M1⟩ := id hF1
    have n1 := S.n1
    have n3 := S.n3
    refine ⟨_, rfl, f, dx1, _, rfl, g1, f, n, gs, rfl, hF1, S.ne, _, rfl, ⟨by decide, by decide, by omega, by omega, by omega⟩, fun fu nfu => ?_⟩
    have efull : rgV 0 (n : Int) = vints (List.range n) := by
      unfold rgV
      rw [show ((n : Int) - 0).toNat = n by omega]
      refine List.map_congr_left fun i _ => ?_
      rw [Int.zero_add]
    rw [efull]
    have s2 : Same H1 (upd H1 fu (.tup (vints (List.range n)))) := Same.upd nfu
    intro wd nwd
    have s3 : Same (upd H1 fu (.tup (vints (List.range n)))) (upd (upd H1 fu (.tup (vints (List.range n)))) wd (.dT [])) := Same.upd nwd
    refine ⟨_, rfl, Nat.zero_le _, fun e0 ne0 => ?_⟩
    have s4 := Same.upd (o := .tup []) ne0
    have nwe : wd ≠ e0 := ne_of_none upd_same ne0
    have hfu : (upd H1 fu (.tup (vints (List.range n)))) fu = some (.tup (vints (List.range n))) := upd_same
    have hfu4 := s4 _ _ (s3 _ _ hfu)
    refine ⟨by rw [upd_ne nwe, upd_same], fu, ikeys (List.range n), rfl, by rw [ikeys_kV]; exact hfu4, ?_⟩
    have nHwd : H wd = none := (s1.trans s2).free nwd
    have s5 : Same H (upd (upd (upd (upd H1 fu (.tup (vints (List.range n)))) wd (.dT [])) e0 (.tup [])) wd (.dT [(ikeys (List.range n), .ref e0)])) := (((s1.trans s2).trans s3).trans s4).set nHwd
    refine ⟨_, rfl, by show 1 ≤ sizeLine; decide, fun wt nwt => ?_⟩
    have s6 := Same.upd (o := .lst [.ref fu]) nwt
    have nHwt : H wt = none := s5.free nwt
    have hwt0 : (upd (upd (upd (upd H1 fu (.tup (vints (List.range n)))) wd (.dT [])) e0 (.tup [])) wd (.dT [(ikeys (List.range n), .ref e0)])) wt = none := nwt
    have hwd0 : (upd (upd (upd H1 fu (.tup (vints (List.range n)))) wd (.dT [])) e0 (.tup [])) wd = some (.dT []) := by rw [upd_ne nwe, upd_same]
    have kt : KeepT (upd (upd (upd H1 fu (.tup (vints (List.range n)))) wd (.dT [])) e0 (.tup [])) (upd (upd (upd (upd (upd H1 fu (.tup (vints (List.range n)))) wd (.dT [])) e0 (.tup [])) wd (.dT [(ikeys (List.range n), .ref e0)])) wt (.lst [.ref fu])) :=
      (KeepT.dT hwd0).trans (.of s6)
    have htl5 : (upd (upd (upd (upd H1 fu (.tup (vints (List.range n)))) wd (.dT [])) e0 (.tup [])) wd (.dT [(ikeys (List.range n), .ref e0)])) tl = some (.lst (ds.map V.ref)) := by
      have e := s4 _ _ (s3 _ _ (s2 _ _ hl1))
      rw [upd_ne (ne_of e hwd0 (by intro z; cases z))]
      exact e
    have htt : tl ≠ wt := ne_of_none htl5 nwt
    have core0 : SCore H (upd (upd (upd (upd (upd H1 fu (.tup (vints (List.range n)))) wd (.dT [])) e0 (.tup [])) wd (.dT [(ikeys (List.range n), .ref e0)])) wt (.lst [.ref fu])) n gs ds tl wd wt (bfs n gs 0) 0 := by
      refine ⟨s5.trans s6, s6 _ _ htl5, ?_, ⟨_, s6 _ _ upd_same, ?_⟩, [fu], upd_same, ?_⟩
      · exact (TabsAt.keep (.of (s2.trans (s3.trans s4))) ht1).keep kt
      · exact .cons ⟨rfl, e0, rfl, kt.1 _ _ upd_same⟩ .nil
      · exact .cons (kt.1 _ _ hfu4) .nil
    have hne0 : ¬ ([] : List Nat) ∈ keys (bfs n gs 0) := by
      intro h
      have h2 : ([] : List Nat) = List.range n := List.mem_singleton.mp h
      have h3 := congrArg List.length h2
      rw [List.length_range] at h3
      simp at h3
      omega
    -- the loop
    refine ⟨fun m σ H' => ∃ kk y5 y6 y7 y8 y9, σ = [some (.ref f), some (.ref tl), some (.ref fu), some (.ref wd), some (.ref wt), y5, y6, y7, y8, y9] ∧ SCore H H' n gs ds tl wd wt (bfs n gs kk) kk ∧ ¬ ([] : List Nat) ∈ keys (bfs n gs kk) ∧ m = 2000 - kk ∧ kk ≤ (bfs n gs kk).length,
      ⟨2000, 0, none, none, none, none, none, rfl, core0, hne0, rfl, Nat.zero_le _⟩, ?_⟩
    rintro m σ H2 ⟨kk, y5, y6, y7, y8, y9, rfl, core, hno, rfl, hkk⟩
    refine ⟨_, rfl, Nat.zero_le _, fun pe npe => ?_⟩
    have core' := core.same (Same.upd (o := .lst []) npe)
    obtain ⟨c1, c2, c3, ⟨kvs, c4, c5⟩, bs, c6, c7⟩ := core'
    refine ⟨wt, pe, _, rfl, rfl, SqL.of c6, SqL.of upd_same, _, rfl, ?_⟩
    cases hb : bs with
    | nil =>
      subst hb
      refine iteF ?_
      have hd : (keys (bfs n gs kk)).drop kk = [] := by
        have := Paired.length c7
        exact List.eq_nil_of_length_eq_zero this.symm
      have hlen : (bfs n gs kk).length ≤ kk := by
        have h2 := List.drop_eq_nil_iff.mp hd
        unfold keys at h2
        rwa [List.length_map] at h2
      exact ⟨_, rfl, q _ wd kvs _ c1 nHwd c4 c5 ⟨kk, List.prefix_rfl, .inr ⟨rfl, hlen, hno⟩⟩⟩
    | cons b0 br =>
      subst hb
      refine iteT ?_
      -- the next place
      have hkl : kk < (bfs n gs kk).length := by
        have h1 := Paired.length c7
        rw [List.length_cons, List.length_drop] at h1
        unfold keys at h1
        rw [List.length_map] at h1
        omega
      obtain ⟨⟨p, v⟩, epv⟩ : ∃ e, (bfs n gs kk)[kk]? = some e := ⟨_, List.getElem?_eq_getElem hkl⟩
      have edrop : (keys (bfs n gs kk)).drop kk = p :: (keys (bfs n gs kk)).drop (kk + 1) := by
        have e : (keys (bfs n gs kk))[kk]? = some p := by
          unfold keys
          rw [List.getElem?_map, epv]
          rfl
        obtain ⟨h1, h2⟩ := List.getElem?_eq_some_iff.mp e
        rw [List.drop_eq_getElem_cons h1, h2]
      rw [edrop] at c7
      cases c7 with
      | cons hb0 c7 =>
      have hK := bfs_keys n gs kk
      have hpk : p ∈ keys (bfs n gs kk) := List.mem_map.mpr ⟨_, List.mem_of_getElem? epv, rfl⟩
      have hplen : p.length ≤ 1000 := by
        have h1 := pigeon (asc_nodup (hK.asc p hpk)) (hK.lt p hpk)
        omega
      refine ⟨fun σ' H' => ∃ y5 y6 y7 y8 y9, σ' = [some (.ref f), some (.ref tl), some (.ref fu), some (.ref wd), some (.ref wt), y5, y6, y7, y8, y9] ∧ SCore H H' n gs ds tl wd wt (bfs n gs (kk + 1)) (kk + 1) ∧ ¬ ([] : List Nat) ∈ keys (bfs n gs (kk + 1)), ?_, ?_⟩
      · rintro σ' H' ⟨y5, y6, y7, y8, y9, rfl, co, hn⟩
        have hbd := S.bd kk
        refine ⟨2000 - (kk + 1), by omega, kk + 1, _, _, _, _, _, rfl, co, hn, rfl, ?_⟩
        have := (bfs_step n gs kk).length_le
        omega
      refine ⟨_, rfl, .inl ⟨rfl, _, SqL.of c6⟩, wt, _, 0, 0, .ref b0, rfl, rfl, c6, by decide, by decide, ?_, rfl, ?_⟩
      · show seqIndex? (0 : Int) ((b0 :: br).map V.ref).length = some 0
        unfold seqIndex?
        rw [List.map_cons, List.length_cons]
        simp
      -- the tables
      have hlw : (upd (upd H2 pe (.lst [])) wt (.lst (((b0 :: br).map V.ref).eraseIdx 0))) tl = some (.lst (ds.map V.ref)) := by
        rw [upd_ne htt]
        exact c2
      have kp : KeepT (upd H2 pe (.lst [])) (upd (upd H2 pe (.lst [])) wt (.lst (((b0 :: br).map V.ref).eraseIdx 0))) := .lst c6
      have cstart : SCore H (upd (upd H2 pe (.lst [])) wt (.lst (((b0 :: br).map V.ref).eraseIdx 0))) n gs ds tl wd wt (expTo n gs p v (bfs n gs kk) 0) (kk + 1) := by
        refine ⟨c1.set nHwt, hlw, c3.keep kp, ⟨kvs, ?_, c5.keep kp⟩, br, upd_same, TupsAt.keep kp c7⟩
        rw [upd_ne (ne_of c4 c6 (by intro z; cases z))]
        exact c4
      refine ⟨_, rfl, tl, _, rfl, SqL.of hlw, ?_⟩
      refine for_it (walk_enum (xs := ds.map V.ref)) (fun i σ H' => ∃ y6 y7 y8 y9, σ = [some (.ref f), some (.ref tl), some (.ref fu), some (.ref wd), some (.ref wt), some (.ref b0), y6, y7, y8, y9] ∧ SCore H H' n gs ds tl wd wt (expTo n gs p v (bfs n gs kk) i) (kk + 1) ∧ H' b0 = some (.tup (vints p)) ∧
          ¬ ([] : List Nat) ∈ keys (expTo n gs p v (bfs n gs kk) i)) ⟨_, _, _, _, rfl, cstart, kp.1 _ _ hb0, hno⟩ (fun i σ H' _ h => ?_) ?_ ?_
      · obtain ⟨_, _, _, _, _, ⟨_, h, _⟩, _⟩ := h
        exact SqL.of h
      · rintro i x σ H3 H4 hi ⟨y6, y7, y8, y9, rfl, co, hb3, hn3⟩ ⟨T', a, b, rfl, nT, rfl, ea, eb⟩
        replace ea : some (V.int ((i : Nat) : Int)) = some a := ea
        replace eb : (ds.map V.ref)[i]? = some b := eb
        rw [List.getElem?_map] at eb
        obtain ⟨d, ed, rfl⟩ := Option.map_eq_some_iff.mp eb
        have ea' : V.int (i : Int) = a := Option.some.inj ea
        subst ea'
        have s7 : Same H3 (upd H3 T' (.tup [V.int (i : Int), .ref d])) := Same.upd nT
        obtain ⟨c1, c2, c3, c4c, c6c⟩ := co.same s7
        obtain ⟨g, eg, hd⟩ := TabsAt.get c3 ed
        have G : Good n g := S.good g (List.mem_of_getElem? eg)
        refine ⟨T', _, rfl, SqT.of upd_same, rfl, _, _, rfl, _, _, rfl, rfl, ?_⟩
        refine ⟨_, rfl, _, rfl, b0, d, p, n, g, rfl, s7 _ _ hb3, hd, G, hplen, asc_nodup (hK.asc p hpk), fun H5 l s8 nl hl => ?_⟩
        have co5 := (co.same s7).same s8
        obtain ⟨c1, c2, c3, ⟨kvs, c4, c5⟩, bs, c6, c7⟩ := co5
        have hb5 := s8 _ _ (s7 _ _ hb3)
        have hlk : H5 l = some (.tup ((ikeys (img n g p)).map kV)) := by rw [ikeys_kV]; exact hl
        refine ⟨_, rfl, _, rfl, wd, _, rfl, DGet.t c4 hlk, _, rfl, ?_⟩
        rw [c5.isSome]
        have esucc : expTo n gs p v (bfs n gs kk) (i + 1) = put1 n (expTo n gs p v (bfs n gs kk) i) p v i g := expTo_succ eg
        by_cases hin : img n g p ∈ keys (expTo n gs p v (bfs n gs kk) i)
        · rw [decide_eq_true hin]
          refine iteF ⟨_, _, _, _, rfl, ?_, hb5, ?_⟩
          · rw [esucc]
            unfold put1
            rw [if_pos hin]
            exact ⟨c1, c2, c3, ⟨kvs, c4, c5⟩, bs, c6, c7⟩
          · rw [esucc]
            unfold put1
            rw [if_pos hin]
            exact hn3
        · rw [decide_eq_false hin]
          have eput : put1 n (expTo n gs p v (bfs n gs kk) i) p v i g = expTo n gs p v (bfs n gs kk) i ++ [(img n g p, v ++ [i])] := by
            unfold put1
            rw [if_neg hin]
          have hig : i < gs.length := (List.getElem?_eq_some_iff.mp eg).1
          have hpre : expTo n gs p v (bfs n gs kk) (i + 1) <+: bfs n gs (kk + 1) := by
            rw [expTo_bfs epv]
            exact expTo_pre n gs p v _ hig
          have hlen1 : (expTo n gs p v (bfs n gs kk) i).length + 1 ≤ 2000 := by
            have h1 := hpre.length_le
            rw [esucc, eput, List.length_append, List.length_singleton] at h1
            exact Nat.le_trans h1 (S.bd _)
          refine iteT ?_
          have hkl : kvs.length = (expTo n gs p v (bfs n gs kk) i).length := c5.len
          refine ⟨_, rfl, wd, kvs, rfl, c4, rfl, _, rfl, ?_⟩
          rw [decide_eq_false (show ¬ V.int ((kvs.length : Nat) : Int) = V.int 2000 from fun e => by
            have := V.int.inj e
            omega)]
          refine iteF (iteF ?_)
          -- words[later] = (*words[places], index)
          have hlook : lookW (expTo n gs p v (bfs n gs kk) i) p = some v := by
            rw [lookW_pre (expTo_pre n gs p v (bfs n gs kk) (Nat.zero_le i)) hpk]
            exact lookW_mem hK.nd (List.mem_of_getElem? epv)
          obtain ⟨qv, ev, hqv⟩ := (c5.look p).1 v hlook
          have hbk : H5 b0 = some (.tup ((ikeys p).map kV)) := by rw [ikeys_kV]; exact hb5
          have hvlen : v.length ≤ 2000 := by
            have h1 := (bfs_words n gs kk _ (List.mem_of_getElem? epv)).len
            have h2 := S.bd kk
            have h3 : v.length ≤ kk := h1
            omega
          refine ⟨_, rfl, _, rfl, wd, .ref qv, rfl, ?_, qv, vints v, rfl, .inl (SqT.of hqv), _, rfl, ?_, fun qn nqn => ?_⟩
          · have e := DGet.t (k := ikeys p) c4 hbk
            rw [ev] at e
            exact e
          · rw [List.length_append, List.length_map]
            show v.length + 1 ≤ sizeLine
            exact Nat.le_trans (show v.length + 1 ≤ 2001 by omega) (by decide)
          rw [vints_snoc]
          have s9 : Same H5 (upd H5 qn (.tup (vints (v ++ [i])))) := Same.upd nqn
          have k9 : KeepT H5 (upd H5 qn (.tup (vints (v ++ [i])))) := .of s9
          have c4' := s9 _ _ c4
          have c6' := s9 _ _ c6
          refine ⟨_, rfl, _, rfl, wd, _, rfl, DPut.t (k := ikeys (img n g p)) c4' (s9 _ _ hlk) (by rw [hkl]; exact Nat.lt_of_lt_of_le (show _ < 2001 by omega) (by decide)), ?_⟩
          -- waiting.append(later)
          have c6'' : (upd (upd H5 qn (.tup (vints (v ++ [i])))) wd (.dT (putK kvs (ikeys (img n g p)) (.ref qn)))) wt = some (.lst (bs.map V.ref)) := by
            rw [upd_ne (ne_of c6' c4' (by intro z; cases z))]
            exact c6'
          have hbs : bs.length ≤ 2000 := by
            have h1 := Paired.length c7
            rw [List.length_drop] at h1
            unfold keys at h1
            rw [List.length_map] at h1
            omega
          refine ⟨_, rfl, .inl ⟨rfl, _, SqL.of c6''⟩, _, rfl, wt, _, _, rfl, rfl, c6'', ?_, ?_⟩
          · rw [List.length_map]
            exact Nat.lt_of_le_of_lt hbs (by decide)
          have hmk : kk + 1 ≤ (expTo n gs p v (bfs n gs kk) i).length := by
            have h1 := (expTo_pre n gs p v (bfs n gs kk) (Nat.zero_le i)).length_le
            have h2 : (expTo n gs p v (bfs n gs kk) 0).length = (bfs n gs kk).length := rfl
            have h3 : kk < (bfs n gs kk).length := (List.getElem?_eq_some_iff.mp epv).1
            omega
          have cnew := SCore.put (m := kk + 1) nHwd nHwt htt (c1.trans s9) (s9 _ _ c2) (c3.same s9) c4' (c5.keep k9) c6' (c7.keep k9) (s9 _ _ hl) upd_same hin hmk
          rw [← eput, ← esucc] at cnew
          -- if later == (): return words
          refine ⟨_, rfl, Nat.zero_le _, fun ep nep => ?_⟩
          have cfin := cnew.same (Same.upd (o := .tup []) nep)
          have ktail : KeepT (upd H5 qn (.tup (vints (v ++ [i])))) _ := (KeepT.dT (ys := putK kvs (ikeys (img n g p)) (.ref qn)) c4').trans (.lst (ys := bs.map V.ref ++ [.ref l]) c6'')
          have ktail2 := ktail.trans (KeepT.new (o := .tup []) nep)
          refine ⟨tupD (img n g p), .tuple [], .tup (SqT.of (ktail2.1 _ _ (s9 _ _ hl))) (dpAll_ints _), .tup (SqT.of upd_same) .nil, tupD_shaped _, by decide, _, rfl, ?_⟩
          rw [eqv_tup_nil]
          by_cases hem : img n g p = []
          · rw [show (img n g p).isEmpty = true by rw [hem]; rfl]
            refine iteT ?_
            obtain ⟨z1, z2, z3, ⟨kvf, z4, z5⟩, z6⟩ := cfin
            refine ⟨_, rfl, q _ wd kvf _ z1 nHwd z4 z5 ⟨kk + 1, hpre, .inl ?_⟩⟩
            rw [esucc, eput, keys_append, hem]
            exact List.mem_append.mpr (.inr (List.mem_singleton.mpr rfl))
          · rw [List.isEmpty_eq_false_iff.mpr hem]
            refine iteF ⟨_, _, _, _, rfl, cfin, ktail2.1 _ _ (s9 _ _ hb5), ?_⟩
            rw [esucc, eput, keys_append]
            intro hmem
            rcases List.mem_append.mp hmem with h | h
            · exact hn3 h
            · have h2 : ([] : List Nat) = img n g p := List.mem_singleton.mp h
              exact hem h2.symm
      · rintro σ H3 ⟨y6, y7, y8, y9, rfl, co, hb3, hn3⟩
        have e : (ds.map V.ref).length = gs.length := by
          rw [List.length_map]
          exact Paired.length c3
        rw [e, ← expTo_bfs epv] at co hn3
        exact ⟨_, _, _, _, _, rfl, co, hn3⟩
end
end K57
end

section
set_option Elab.async false
set_option linter.all false
set_option maxRecDepth 100000
set_option maxHeartbeats 4000000
namespace K57
open PySem PySem.Spec PyProof.Rows L2 StX ClX
/-! losing_word, holding_sets -/
def rListOf (K : PySem.W.Frag) : List V → Hp → VK → Prop := fun xs H Q => ∃ p ys, xs = [.ref p] ∧ (SqL K H p ys ∨ SqT K H p ys) ∧ ∀ l, H l = none → Q (.ref l) (upd H l (.lst ys))
theorem call_listOf {X : Cx} : CallR X (.type "list") (rListOf X.K) := call_list_of
def VWord (H : Hp) (v : V) : Option (List Nat) → Prop
  | none => v = .non
  | some w => ∃ q, v = .ref q ∧ H q = some (.tup (vints w))
theorem VWord.same {H H' : Hp} (s : Same H H') {v : V} {o : Option (List Nat)} (h : VWord H v o) : VWord H' v o := by
  cases o with
  | none => exact h
  | some w =>
    obtain ⟨q, h1, h2⟩ := h
    exact ⟨q, h1, s _ _ h2⟩
def LstsAt (H : Hp) (ls : List Addr) (ps : List (List Nat)) : Prop := Paired (fun (b : Addr) (p : List Nat) => H b = some (.lst (vints p))) ls ps
theorem LstsAt.same {H H' : Hp} (s : Same H H') {ls : List Addr} {ps : List (List Nat)} (h : LstsAt H ls ps) : LstsAt H' ls ps := Paired.mapP h fun _ _ h => s _ _ h
theorem paired_left {α β : Type} {F : α → β → Prop} {l : List α} {m : List β} (h : Paired F l m) {a : α} (ha : a ∈ l) : ∃ b, F a b := by
  induction h with
  | nil => cases ha
  | cons h _ ih =>
    rcases List.mem_cons.mp ha with rfl | ha
    · exact ⟨_, h⟩
    · exact ih ha
theorem sres_look {n : Nat} {gs : List Fn} {W : Wd} {k0 : Nat} (h : SRes n gs W) (h0 : (bfs n gs k0).length ≤ k0) : lookW W [] = lookW (bfs n gs k0) [] := by
  obtain ⟨k, hp, h | ⟨h1, h2, h3⟩⟩ := h
  · rw [← lookW_pre hp h]
    by_cases c : k ≤ k0
    · have hk : ([] : List Nat) ∈ keys (bfs n gs k) := by
        obtain ⟨r, e⟩ := hp
        rw [← e, keys_append]
        exact List.mem_append.mpr (.inl h)
      exact (lookW_pre (bfs_pre n gs c) hk).symm
    · rw [bfs_end h0 (show k0 ≤ k by omega)]
  · rw [h1, bfs_uniq h2 h0]
theorem sres_full {n : Nat} {gs : List Fn} {W : Wd} {k0 : Nat} (h : SRes n gs W) (h0 : (bfs n gs k0).length ≤ k0) (hn : lookW (bfs n gs k0) [] = none) : W = bfs n gs k0 := by
  have e := sres_look h h0
  rw [hn] at e
  obtain ⟨k, hp, h | ⟨h1, h2, h3⟩⟩ := h
  · obtain ⟨v, hv, _⟩ := lookW_some h
    rw [e] at hv
    cases hv
  · rw [h1, bfs_uniq h2 h0]
def spLosing (CF CM : Addr) : Sp := fun vs H Q _ => ∃ f n gs k0, vs = [.ref f] ∧ FamAt CF CM H f n gs ∧ Small n gs ∧ (bfs n gs k0).length ≤ k0 ∧ ∀ H' v, Same H H' → VWord H' v (lookW (bfs n gs k0) []) → Q v H'
def VSets (H0 H : Hp) (v : V) (n : Nat) (gs : List Fn) (k0 : Nat) : Prop := (v = .non ∧ (lookW (bfs n gs k0) []).isSome = true) ∨ (lookW (bfs n gs k0) [] = none ∧ ∃ l ls, v = .ref l ∧ H l = some (.lst (ls.map V.ref)) ∧ LstsAt H ls (keys (bfs n gs k0)) ∧ H0 l = none ∧ ∀ a ∈ ls, H0 a = none)
def spHolding (CF CM : Addr) : Sp := fun vs H Q _ => ∃ f n gs k0, vs = [.ref f] ∧ FamAt CF CM H f n gs ∧ Small n gs ∧ (bfs n gs k0).length ≤ k0 ∧ ∀ H' v, Same H H' → VSets H H' v n gs k0 → Q v H'
section
variable {P : Program} {w : World} {K : PySem.W.Frag} {mg : Str → Option Value} {base : Heap} {k : Nat}
theorem scLosing : FnScope ["family"] ["family"] (defScope (top 39)) := ⟨rfl, rfl, rfl, by decide +kernel, rfl, by decide +kernel, by decide +kernel⟩
theorem ok_losing (T : TX K mg) : Fn0 P w K mg base (k + 6) T.a_losingWord (spLosing T.CF T.CM) := by
  refine T.d_losingWord.ok scLosing (fun vs H Q E h => ?_) (fun cdv A outer s H vs Q E hr h => ?_)
  · obtain ⟨f, n, gs, k0, rfl, _⟩ := h
    rfl
  · obtain ⟨f, n, gs, k0, rfl, hF, S, hk, q⟩ := h
    have hu := hu_of hr
    refine ⟨_, pss_cons (ps_expr (pe_cR (ok_checkFam (k := 0) T) (hr.mono (by omega)) rfl T.m_checkFamily T.d_checkFamily.kp (pa_cons (pv 0) pa_nil)))
      (pss_one (ps_ret (pe_dget1 hu (pe_cR (ok_searched (k := k) T) hr rfl T.m_searched T.d_searched.kp (pa_cons (pv 0) pa_nil)) (pe_tup pa_nil) ⟨rfl, rfl, rfl, rfl⟩))), ?_⟩
    refine ⟨_, rfl, f, n, gs, rfl, hF, ?_⟩
    refine ⟨_, rfl, f, n, gs, rfl, hF, S, fun H1 d kvs W s1 nd hd hW hS => ?_⟩
    refine ⟨d, rfl, .inr ⟨kvs, .of hd⟩, Nat.zero_le _, fun e ne => ?_⟩
    have s2 : Same H1 (upd H1 e (.tup [])) := Same.upd ne
    refine ⟨_, DGet.t (k := ikeys []) (s2 _ _ hd) upd_same, ?_⟩
    have hl := (hW.look [])
    rw [← sres_look hS hk] at q
    cases hw : lookW W [] with
    | none =>
      rw [hw] at q
      rw [hl.2 hw]
      exact q _ _ (s1.trans s2) rfl
    | some v =>
      rw [hw] at q
      obtain ⟨qv, e1, e2⟩ := hl.1 v hw
      rw [e1]
      exact q _ _ (s1.trans s2) ⟨qv, rfl, s2 _ _ e2⟩
theorem scHolding : FnScope ["family", "words", "places"] ["family"] (defScope (top 40)) := ⟨rfl, rfl, rfl, by decide +kernel, rfl, by decide +kernel, by decide +kernel⟩
theorem ok_holding (T : TX K mg) : Fn0 P w K mg base (k + 6) T.a_holdingSets (spHolding T.CF T.CM) := by
  refine T.d_holdingSets.ok scHolding (fun vs H Q E h => ?_) (fun cdv A outer s H vs Q E hr h => ?_)
  · obtain ⟨f, n, gs, k0, rfl, _⟩ := h
    rfl
  · obtain ⟨f, n, gs, k0, rfl, hF, S, hk, q⟩ := h
    have hu := hu_of hr
    refine ⟨_, pss_cons (ps_expr (pe_cR (ok_checkFam (k := 0) T) (hr.mono (by omega)) rfl T.m_checkFamily T.d_checkFamily.kp (pa_cons (pv 0) pa_nil)))
      (pss_cons (ps_set (i := 1) scHolding.nd rfl (.inl rfl) (pe_cR (ok_searched (k := k) T) hr rfl T.m_searched T.d_searched.kp (pa_cons (pv 0) pa_nil)))
      (pss_one (ps_ret (pe_ifExp (pt_cmp (pc_din hu (pe_tup pa_nil) (pv 1))) pe_non
        (pe_lock (pe_lc (own := [("places", 2)]) (g := gName 2) (te := tCB (rListOf K) (tCons (tVar 2) tNil)) rfl scHolding.nd (pi_keys (pv 1)) (blkOk_by (N := ["family", "words", "places"]) (sc := defScope (top 40)) (by decide +kernel)) (fun s H C cl fp => pg_name (i := 2) scHolding.nd rfl (.inl rfl))
          (fun s H C cl fp => pts_nil) (fun s H C cl fp => pe_callTy call_listOf rfl T.z_list boot_list (pa_cons (pv 2) pa_nil)))))))), ?_⟩
    refine ⟨_, rfl, f, n, gs, rfl, hF, ?_⟩
    refine ⟨_, rfl, f, n, gs, rfl, hF, S, fun H1 d kvs W s1 nd hd hW hS => ?_⟩
    refine ⟨Nat.zero_le _, fun e ne => ?_⟩
    have s2 : Same H1 (upd H1 e (.tup [])) := Same.upd ne
    have hd2 := s2 _ _ hd
    have hW2 := hW.keep (.of s2)
    refine ⟨_, rfl, d, _, rfl, DGet.t (k := ikeys []) hd2 upd_same, _, rfl, ?_⟩
    have hl := hW.look []
    have hlook := sres_look hS hk
    cases hw : lookW W [] with
    | some v =>
      obtain ⟨qv, e1, e2⟩ := hl.1 v hw
      rw [e1]
      exact iteT (q _ _ (s1.trans s2) (.inl ⟨rfl, by rw [← hlook, hw]; rfl⟩))
    | none =>
      rw [hl.2 hw]
      refine iteF ?_
      have eW : W = bfs n gs k0 := sres_full hS hk (by rw [← hlook, hw])
      have hbd : W.length ≤ 2000 := by
        rw [eW]
        exact S.bd k0
      refine ⟨d, .dT kvs, hd2, trivial, fun od => ?_⟩
      refine ⟨_, rfl, d, od, rfl, .inr ⟨kvs, upd_same, fun D nD => ?_⟩⟩
      have ndD : d ≠ D := ne_of_none upd_same nD
      have hkl := hW.len
      refine lc_it walk_keysT (fun i H' => ∃ ls, H' D = some (.lst (ls.map V.ref)) ∧ Paired (fun (b : Addr) (p : List Nat) => b ≠ D ∧ b ≠ d ∧ H b = none ∧ H' b = some (.lst (vints p))) ls ((keys W).take i) ∧ SameX D (upd (upd H1 e (.tup [])) d (.frz od (.dT kvs))) H')
        ⟨[], upd_same, .nil, (Same.upd nD).x⟩ (fun i H' _ h => ?_) ?_ ?_
      · obtain ⟨_, _, _, h⟩ := h
        exact h d _ ndD upd_same
      · rintro i x H2 H3 hi ⟨ls, hl2, hp, sx⟩ ⟨rfl, kk, vv, q', ek, rfl, hq'⟩
        obtain ⟨⟨p, v⟩, epv, ekk, _⟩ := L2.paired_get hW ek
        have ekey : (keys W)[i]? = some p := by
          unfold keys
          rw [List.getElem?_map, epv]
          rfl
        have ekk : kk = ikeys p := ekk
        rw [ekk, ikeys_kV] at hq'
        refine ⟨rfl, ?_⟩
        refine iteT (B := True) ⟨_, rfl, q', _, rfl, .inr (SqT.of hq'), fun l nl => ?_⟩
        have hlD : l ≠ D := (ne_of_none hl2 nl).symm
        have hl3 : (upd H3 l (.lst (vints p))) D = some (.lst (ls.map V.ref)) := by
          rw [upd_ne hlD.symm]
          exact hl2
        have hld : l ≠ d := (ne_of_none (sx d _ ndD upd_same) nl).symm
        refine ⟨_, hl3, ?_, ls ++ [l], upd_same.trans ?_, ?_, (sx.upd nl).updx⟩
        · rw [List.length_map, Paired.length hp, List.length_take]
          have : (keys W).length = W.length := by
            unfold keys
            rw [List.length_map]
          exact Nat.lt_of_le_of_lt (show min i (keys W).length ≤ 2000 by omega) (by decide)
        · rw [List.map_append]
          rfl
        · rw [take_snoc ekey]
          refine Paired.snoc (Paired.mapP hp fun b p hb => ⟨hb.1, hb.2.1, hb.2.2.1, ?_⟩) ⟨hlD, hld, ?_, ?_⟩
          · rw [upd_ne hb.1, upd_ne (ne_of_none hb.2.2.2 nl)]
            exact hb.2.2.2
          · refine Classical.byContradiction fun c => ?_
            obtain ⟨o, ho⟩ := Option.ne_none_iff_exists'.mp c
            have h2 := (s1.trans s2) _ _ ho
            have h3 : (upd (upd H1 e (.tup [])) d (.frz od (.dT kvs))) l = some o := by
              rw [upd_ne hld]
              exact h2
            have h4 := sx l o hlD h3
            rw [nl] at h4
            cases h4
          · rw [upd_ne hlD, upd_same]
      · rintro H2 ⟨ls, hl2, hp, sx⟩
        have e1 : (keys W).length = kvs.length := by
          unfold keys
          rw [List.length_map, hkl]
        rw [← e1, List.take_length] at hp
        refine ⟨sx d _ ndD upd_same, ?_⟩
        have s3 : Same (upd H1 e (.tup [])) (upd H2 d (.dT kvs)) := by
          intro b u eb
          by_cases c : b = d
          · subst c
            rw [hd2] at eb
            cases eb
            exact upd_same
          · rw [upd_ne c]
            have e2 : (upd (upd H1 e (.tup [])) d (.frz od (.dT kvs))) b = some u := by
              rw [upd_ne c]
              exact eb
            exact sx b _ (ne_of_none e2 nD) e2
        refine q _ _ ((s1.trans s2).trans s3) (.inr ⟨by rw [← hlook, hw], D, ls, rfl, ?_, ?_, ?_, ?_⟩)
        · rw [upd_ne ndD.symm]
          exact hl2
        · rw [← eW]
          exact Paired.mapP hp fun b p hb => by
            rw [upd_ne hb.2.1]
            exact hb.2.2.2
        · have h4 := nD
          rw [upd_ne ndD.symm] at h4
          exact (s1.trans s2).free h4
        · intro a ha
          obtain ⟨p, h⟩ := paired_left hp ha
          exact h.2.2.1
end
end K57
end

section
set_option Elab.async false
set_option linter.all false
set_option maxRecDepth 100000
set_option maxHeartbeats 4000000
namespace K57
open PySem PySem.Spec PyProof.Rows L2 StX ClX
/-! is_set -/
def inD (n : Nat) : PyData → Bool
  | .int i => decide (0 ≤ i) && decide (i ≤ (n : Int) - 1)
  | _ => false
def natsD (n : Nat) : List PyData → Option (List Nat)
  | [] => some []
  | d :: r => match d with
    | .int i => if inD n (.int i) = true then (natsD n r).map (i.toNat :: ·) else none
    | _ => none
theorem natsD_iff (n : Nat) : ∀ ds : List PyData, (natsD n ds).isSome = ds.all (inD n)
  | [] => rfl
  | d :: r => by
    have ih := natsD_iff n r
    rw [List.all_cons]
    cases d <;> try rfl
    rename_i i
    show (if inD n (.int i) = true then (natsD n r).map (i.toNat :: ·) else none).isSome = _
    cases h : inD n (.int i) with
    | true => rw [if_pos rfl, Option.isSome_map, ih, Bool.true_and]
    | false => rfl
theorem natsD_some {n : Nat} : ∀ {ds : List PyData} {p : List Nat}, natsD n ds = some p → ds = intsD p ∧ ∀ j ∈ p, j < n
  | [], p, h => by
    cases h
    exact ⟨rfl, fun j hj => (by cases hj)⟩
  | d :: r, p, h => by
    cases d <;> try (cases h; done)
    rename_i i
    replace h : (if inD n (.int i) = true then (natsD n r).map (i.toNat :: ·) else none) = some p := h
    split at h
    · rename_i hi
      obtain ⟨q, hq, rfl⟩ := Option.map_eq_some_iff.mp h
      obtain ⟨h1, h2⟩ := natsD_some hq
      have hi' := Bool.and_eq_true_iff.mp hi
      have a := of_decide_eq_true hi'.1
      have b := of_decide_eq_true hi'.2
      refine ⟨?_, fun j hj => ?_⟩
      · show PyData.int i :: r = PyData.int ((i.toNat : Nat) : Int) :: intsD q
        rw [← h1, show ((i.toNat : Nat) : Int) = i by omega]
      · rcases List.mem_cons.mp hj with rfl | hj
        · omega
        · exact h2 j hj
    · cases h
def ascB (p : List Nat) : Bool := (p.zip p.tail).all fun ab => decide (ab.1 < ab.2)
theorem ascB_pw : ∀ {p : List Nat}, ascB p = true → p.Pairwise (· < ·)
  | [], _ => .nil
  | [a], _ => List.pairwise_singleton _ _
  | a :: b :: r, h => by
    unfold ascB at h
    rw [List.tail_cons, List.zip_cons_cons, List.all_cons] at h
    obtain ⟨h1, h2⟩ := Bool.and_eq_true_iff.mp h
    have ih : (b :: r).Pairwise (· < ·) := ascB_pw (p := b :: r) (by unfold ascB; exact h2)
    refine List.pairwise_cons.mpr ⟨fun c hc => ?_, ih⟩
    have h3 := of_decide_eq_true h1
    rcases List.mem_cons.mp hc with rfl | hc
    · exact h3
    · have := (List.pairwise_cons.mp ih).1 c hc
      simp only at h3
      omega
theorem pw_ascB : ∀ {p : List Nat}, p.Pairwise (· < ·) → ascB p = true
  | [], _ => rfl
  | [a], _ => rfl
  | a :: b :: r, h => by
    have h1 := List.pairwise_cons.mp h
    have ih := pw_ascB h1.2
    unfold ascB at ih ⊢
    rw [List.tail_cons, List.zip_cons_cons, List.all_cons]
    rw [decide_eq_true (show (a, b).1 < (a, b).2 from h1.1 b List.mem_cons_self), Bool.true_and]
    exact ih
def setOf (n : Nat) : PyData → Option (List Nat)
  | .list ds => match natsD n ds with
    | some p => if (!p.isEmpty && ascB p) = true then some p else none
    | none => none
  | _ => none
theorem setOf_some {n : Nat} {d : PyData} {p : List Nat} (h : setOf n d = some p) : d = lstD p ∧ (∀ j ∈ p, j < n) ∧ p.Pairwise (· < ·) ∧ p ≠ [] := by
  cases d <;> try (cases h; done)
  rename_i ds
  unfold setOf at h
  simp only at h
  cases hn : natsD n ds with
  | none =>
    rw [hn] at h
    cases h
  | some q =>
    rw [hn] at h
    simp only at h
    split at h
    · cases h
      rename_i hc
      obtain ⟨h1, h2⟩ := Bool.and_eq_true_iff.mp hc
      obtain ⟨h3, h4⟩ := natsD_some hn
      refine ⟨by rw [h3]; rfl, h4, ascB_pw h2, ?_⟩
      rintro rfl
      cases h1
    · cases h
/-! data in a growing heap -/
mutual
theorem dp_same {K : PySem.W.Frag} {H H' : Hp} (s : Same H H') : ∀ (d : PyData) (v : V), Dp K H v d → Dp K H' v d
  | .none, _, .non => .non
  | .bool _, _, .bl b => .bl b
  | .int _, _, .int i => .int i
  | .str _, _, .str x => .str x
  | .list ds, _, .lst h r => .lst (s.seq h) (dpAll_same s ds _ r)
  | .tuple ds, _, .tup h r => .tup (s.sqT h) (dpAll_same s ds _ r)
  | .dict _, _, h => nomatch h
theorem dpAll_same {K : PySem.W.Frag} {H H' : Hp} (s : Same H H') : ∀ (ds : List PyData) (vs : List V), DpAll K H vs ds → DpAll K H' vs ds
  | [], _, .nil => .nil
  | d :: ds, _, .cons h r => .cons (dp_same s d _ h) (dpAll_same s ds _ r)
end
theorem dpAll_get {K : PySem.W.Frag} {H : Hp} : ∀ {vs : List V} {ds : List PyData}, DpAll K H vs ds → ∀ {i : Nat} {v : V}, vs[i]? = some v → ∃ d, ds[i]? = some d ∧ Dp K H v d
  | _, _, .cons h r, 0, _, e => by
    cases e
    exact ⟨_, rfl, h⟩
  | _, _, .cons h r, i + 1, _, e => dpAll_get r (i := i) e
theorem dpAll_len {K : PySem.W.Frag} {H : Hp} : ∀ {vs : List V} {ds : List PyData}, DpAll K H vs ds → vs.length = ds.length
  | _, _, .nil => rfl
  | _, _, .cons _ r => congrArg (· + 1) (dpAll_len r)
theorem dpAll_vints {K : PySem.W.Frag} {H : Hp} : ∀ {p : List Nat} {vs : List V}, DpAll K H vs (intsD p) → vs = vints p
  | [], _, .nil => rfl
  | j :: p, _, .cons h r => by
    cases h
    rw [dpAll_vints r]
    rfl
def tyD : PyData → String
  | .none => "NoneType"
  | .bool _ => "bool"
  | .int _ => "int"
  | .str _ => "str"
  | .list _ => "list"
  | .tuple _ => "tuple"
  | .dict _ => "dict"
theorem dp_ty {K : PySem.W.Frag} {H : Hp} {v : V} {d : PyData} (h : Dp K H v d) : TyX K H v (.type (tyD d)) := by
  cases h with
  | non => exact .base .non
  | bl b => exact .base (.bl b)
  | int i => exact .base (.int i)
  | str x => exact .base (.str x)
  | lst h r =>
    rcases h with (h | ⟨o, h⟩) | ⟨o, its, m, h1, h2, _⟩
    · exact .base (.lst h)
    · exact .base (.frz h)
    · exact .kList h1 h2
  | tup h r =>
    rcases h with (h | ⟨o, h⟩) | ⟨o, its, m, h1, h2, _⟩
    · exact .base (.tup h)
    · exact .fTuple h
    · exact .kTuple h1 h2
def isL : PyData → Bool
  | .list _ => true
  | _ => false
theorem kit_list (d : PyData) {K : PySem.W.Frag} : PySem.W.kitOne K (.type (tyD d)) (.type "list") = some (isL d) :=
  match d with
  | .none => kit_ty (show kitB "NoneType" "list" = some false by decide +kernel)
  | .bool _ => kit_ty (show kitB "bool" "list" = some false by decide +kernel)
  | .int _ => kit_ty (show kitB "int" "list" = some false by decide +kernel)
  | .str _ => kit_ty (show kitB "str" "list" = some false by decide +kernel)
  | .list _ => kit_ty (show kitB "list" "list" = some true by decide +kernel)
  | .tuple _ => kit_ty (show kitB "tuple" "list" = some false by decide +kernel)
  | .dict _ => kit_ty (show kitB "dict" "list" = some false by decide +kernel)
theorem inR_inD {K : PySem.W.Frag} {H : Hp} {n : Nat} {v : V} {d : PyData} (h : Dp K H v d) : inR 0 ((n : Int) - 1) v = inD n d := by
  cases h <;> rfl
theorem cut1 (xs : List V) : cutV xs (some 1) none = xs.drop 1 := by
  unfold cutV
  rw [show HT.sIx xs.length 0 (some 1) = min 1 xs.length from HT.sIx_nat xs.length 0 1, HT.sIx_none]
  cases xs with
  | nil => rfl
  | cons x r =>
    rw [show min 1 (x :: r).length = 1 by
      rw [List.length_cons]
      omega]
    show (List.take ((x :: r).length - 1) r) = r
    rw [List.length_cons, Nat.add_sub_cancel]
    exact List.take_length
def spIsSet (K : PySem.W.Frag) : Sp := fun vs H Q _ => ∃ (x : V) (n : Nat) (d : PyData), vs = [x, .int (n : Int)] ∧ Dp K H x d ∧ (∀ ds, d = .list ds → ds.length ≤ 1000) ∧ ∀ H', Same H H' → Q (.bl (setOf n d).isSome) H'
theorem bls_snoc {α : Type} (f : α → Bool) (l : List α) (x : α) : (l.map f).map V.bl ++ [V.bl (f x)] = ((l ++ [x]).map f).map V.bl := by
  rw [List.map_append, List.map_append]
  rfl
section
variable {P : Program} {w : World} {K : PySem.W.Frag} {mg : Str → Option Value} {base : Heap} {k : Nat}
abbrev nmIsSet : List Str := ["value", "size", "place", "one", "other"]
theorem scIsSet : FnScope nmIsSet ["value", "size"] (defScope (top 41)) := ⟨rfl, rfl, rfl, by decide +kernel, rfl, by decide +kernel, by decide +kernel⟩
theorem ok_isSet (T : TX K mg) : Fn0 P w K mg base (k + 3) T.a_isSet (spIsSet K) := by
  refine T.d_isSet.ok scIsSet (fun vs H Q E h => ?_) (fun cdv A outer s H vs Q E hr h => ?_)
  · obtain ⟨x, n, d, rfl, _⟩ := h
    rfl
  · obtain ⟨x, n, d, rfl, hx, hlen, q⟩ := h
    have hu0 := hr.units0
    refine ⟨_, pss_cons (ps_if (PW.pt (pw_or (pt_not (pt_val (pe_callB call_isi rfl T.z_isinstance boot_isinstance (pa_cons (pv 0) (pa_cons (pe_bltn (v := .ty "list") rfl T.z_list boot_list rfl) pa_nil)))))
        (pw_or1 (pt_cmpR (op_eqNil hu0) (pv 0) (pe_lst pa_nil) (nomark _))))) (pss_one (ps_ret pe_bl)) pss_nil)
      (pss_cons (ps_if (pt_not (pt_val (pe_callB (cr_all rfl) rfl T.z_all boot_all (pa_cons (pe_lc (own := [("place", 2)]) (g := gName 2) rfl scIsSet.nd (pi_list (pv 0)) (blkOk_by (N := nmIsSet) (sc := defScope (top 41)) (by decide +kernel))
          (fun s H C cl fp => pg_name (i := 2) scIsSet.nd rfl (.inl rfl)) (fun s H C cl fp => pts_nil) (fun s H C cl fp => pe_cR (ok_inRange (k := k) T) hr rfl T.m_inRange T.d_inRange.kp (pa_cons (pv 2) (pa_cons pe_int (pa_cons (pe_op op_sub (pv 1) pe_int) pa_nil))))) pa_nil)))) (pss_one (ps_ret pe_bl)) pss_nil)
      (pss_one (ps_ret (pe_callB (cr_all rfl) rfl T.z_all boot_all (pa_cons (pe_lc (own := [("one", 3), ("other", 4)]) (g := gTup K 2 (gCons (gName 3) (gCons (gName 4) gNil))) rfl scIsSet.nd (pi_zip rfl T.z_zip (pa_cons (pv 0) (pa_cons (pe_slice sl_list (pv 0) (po_some pe_int) po_none) pa_nil)))
          (blkOk_by (N := nmIsSet) (sc := defScope (top 41)) (by decide +kernel)) (fun s H C cl fp => pg_tup rfl (pgs_cons (pg_name (i := 3) scIsSet.nd rfl (.inl rfl)) (pgs_cons (pg_name (i := 4) scIsSet.nd rfl (.inl rfl)) pgs_nil)))
          (fun s H C cl fp => pts_nil) (fun s H C cl fp => pe_cmpR op_lt (pv 3) (pv 4) (nomark _))) pa_nil))))), ?_⟩
    refine ⟨x, rfl, x, _, _, _, _, rfl, .ty "list", dp_ty hx, kit_list d, _, rfl, ?_⟩
    cases hx with
    | non => exact iteT (iteT (q H (.refl H)))
    | bl b => exact iteT (iteT (q H (.refl H)))
    | int i => exact iteT (iteT (q H (.refl H)))
    | str z => exact iteT (iteT (q H (.refl H)))
    | tup h r => exact iteT (iteT (q H (.refl H)))
    | @lst a xs ds hL hA =>
    refine iteF ?_
    have hlen := hlen ds rfl
    refine ⟨_, rfl, Nat.zero_le _, fun pe npe => ?_⟩
    have s1 : Same H (upd H pe (.lst [])) := Same.upd npe
    refine ⟨a, pe, xs, rfl, rfl, s1.seq hL, SqL.of upd_same, _, rfl, ?_⟩
    cases hxs : xs.isEmpty with
    | true =>
      refine iteT ?_
      have e : xs = [] := List.isEmpty_iff.mp hxs
      subst e
      cases hA
      exact q _ s1
    | false =>
    refine iteF ?_
    -- all in range
    refine ⟨_, rfl, a, rfl, ⟨_, s1.seq hL⟩, fun D nD => ?_⟩
    have hxl := dpAll_len hA
    refine lc_list (K := K) (a := a) (xs := xs) (fun i H' => H' D = some (.lst (((ds.take i).map (inD n)).map V.bl)) ∧ SameX D (upd H pe (.lst [])) H') ⟨upd_same, (Same.upd nD).x⟩ (fun i H' _ h => ?_) ?_ ?_
    · have s2 : Same (upd H pe (.lst [])) H' := fun b o e => h.2 b o (ne_of_none e nD) e
      exact s2.seq (s1.seq hL)
    · rintro i v H2 hv ⟨hD, sx⟩
      obtain ⟨d, ed, hd⟩ := dpAll_get hA hv
      have s2 : Same H H2 := s1.trans fun b o e => sx b o (ne_of_none e nD) e
      have hd2 := dp_same s2 d v hd
      refine ⟨rfl, ?_⟩
      refine iteT (B := True) ⟨_, rfl, _, rfl, _, _, rfl, rfl, _, _, _, rfl, ⟨_, dp_ty hd2⟩, _, hD, ?_, upd_same.trans ?_, sx.updx⟩
      · rw [List.length_map, List.length_map, List.length_take]
        exact small1000 (Nat.le_trans (Nat.min_le_right _ _) hlen)
      · rw [inR_inD hd2, bls_snoc, take_snoc ed]
    rintro H2 ⟨hD, sx⟩
    rw [hxl, List.take_length] at hD
    have s2 : Same H H2 := s1.trans fun b o e => sx b o (ne_of_none e nD) e
    refine ⟨D, ds.map (inD n), rfl, SqL.of hD, _, rfl, ?_⟩
    have eall : (ds.map (inD n)).all id = (natsD n ds).isSome := by
      rw [natsD_iff, List.all_map]
      rfl
    rw [eall]
    cases hn : natsD n ds with
    | none =>
      refine iteT ?_
      have e : (setOf n (.list ds)).isSome = false := by
        unfold setOf
        simp only [hn]
        rfl
      rw [e] at q
      exact q _ s2
    | some p =>
    refine iteF ?_
    obtain ⟨e1, e2⟩ := natsD_some hn
    subst e1
    have e3 := dpAll_vints hA
    subst e3
    have hpl : p.length ≤ 1000 := by rwa [List.length_map] at hlen
    -- ascending
    refine ⟨_, rfl, _, rfl, 1, rfl, a, vints p, rfl, s2.seq hL, fun c nc => ?_⟩
    have s3 : Same H2 (upd H2 c (.lst (cutV (vints p) (some 1) none))) := Same.upd nc
    rw [cut1] at s3 ⊢
    refine ⟨a, c, vints p, (vints p).drop 1, rfl, (s2.trans s3).seq hL, SqL.of upd_same, fun D2 nD2 => ?_⟩
    have ezip : (vints p).drop 1 = vints p.tail := by
      rw [← List.drop_one]
      show List.drop 1 (List.map (fun (j : Nat) => V.int (j : Int)) p) = List.map (fun (j : Nat) => V.int (j : Int)) (List.drop 1 p)
      rw [List.map_drop]
    have hc1 : (upd H2 c (.lst ((vints p).drop 1))) c = some (.lst ((vints p).drop 1)) := upd_same
    refine lc_it (walk_zip (n := p.length - 1) (xs := vints p) (ys := (vints p).drop 1) (by rw [List.length_drop, List.length_map]; omega)) (fun i H' => H' D2 = some (.lst ((((p.zip p.tail).take i).map fun ab => decide (ab.1 < ab.2)).map V.bl)) ∧ SameX D2 (upd H2 c (.lst ((vints p).drop 1))) H')
      ⟨upd_same, (Same.upd nD2).x⟩ (fun i H' _ h => ?_) ?_ ?_
    · have s4 : Same (upd H2 c (.lst ((vints p).drop 1))) H' := fun b o e => h.2 b o (ne_of_none e nD2) e
      exact ⟨((s2.trans s3).trans s4).seq hL, SqL.of (s4 _ _ hc1)⟩
    · rintro i v H3 H4 hi ⟨hD2, sx2⟩ ⟨T', x1, x2, rfl, nT, rfl, ea, eb⟩
      replace ea : (vints p)[i]? = some x1 := ea
      replace eb : ((vints p).drop 1)[i]? = some x2 := eb
      rw [ezip] at eb
      rw [List.getElem?_map] at ea eb
      obtain ⟨j1, f1, rfl⟩ := Option.map_eq_some_iff.mp ea
      obtain ⟨j2, f2, rfl⟩ := Option.map_eq_some_iff.mp eb
      have ez : (p.zip p.tail)[i]? = some (j1, j2) := by
        rw [List.getElem?_zip_eq_some]
        exact ⟨f1, f2⟩
      have hD3 : (upd H3 T' (.tup [V.int (j1 : Int), V.int (j2 : Int)])) D2 = some (.lst ((((p.zip p.tail).take i).map fun ab => decide (ab.1 < ab.2)).map V.bl)) := by
        rw [upd_ne (ne_of_none hD2 nT)]
        exact hD2
      refine ⟨T', _, rfl, SqT.of upd_same, rfl, _, _, rfl, _, _, rfl, rfl, rfl, ?_⟩
      refine iteT (B := True) ⟨_, rfl, _, rfl, _, _, rfl, rfl, _, hD3, ?_, upd_same.trans ?_, (sx2.upd nT).updx⟩
      · rw [List.length_map, List.length_map, List.length_take]
        exact small1000 (by omega)
      · have e : decide ((j1 : Int) < (j2 : Int)) = decide (j1 < j2) := decide_eq_decide.mpr (by omega)
        show some (HO.lst (_ ++ [V.bl (decide ((j1 : Int) < (j2 : Int)))])) = _
        rw [e, take_snoc ez, ← bls_snoc]
    · rintro H3 ⟨hD2, sx2⟩
      have s4 : Same (upd H2 c (.lst ((vints p).drop 1))) H3 := fun b o e => sx2 b o (ne_of_none e nD2) e
      have etake : (p.zip p.tail).take (p.length - 1) = p.zip p.tail := by
        refine List.take_of_length_le ?_
        rw [List.length_zip, List.length_tail]
        omega
      rw [etake] at hD2
      refine ⟨D2, (p.zip p.tail).map fun ab => decide (ab.1 < ab.2), rfl, SqL.of hD2, ?_⟩
      have e4 : ((p.zip p.tail).map fun ab => decide (ab.1 < ab.2)).all id = (setOf n (.list (intsD p))).isSome := by
        unfold setOf
        simp only [hn]
        have e5 : p.isEmpty = false := by
          cases p with
          | nil => cases hxs
          | cons a b => rfl
        rw [List.all_map, e5]
        show ascB p = _
        cases ascB p <;> rfl
      rw [e4]
      exact q _ ((s2.trans s3).trans s4)
end
end K57
end

section
set_option Elab.async false
set_option linter.all false
set_option maxRecDepth 100000
set_option maxHeartbeats 4000000
namespace K57
open PySem PySem.Spec PyProof.Rows L2 StX ClX
/-! is_holding -/
def setsOf (n : Nat) : List PyData → Option (List (List Nat))
  | [] => some []
  | d :: r => match setOf n d with
    | some p => (setsOf n r).map (p :: ·)
    | none => none
theorem setsOf_iff (n : Nat) : ∀ es : List PyData, (setsOf n es).isSome = es.all fun e => (setOf n e).isSome
  | [] => rfl
  | d :: r => by
    rw [List.all_cons, ← setsOf_iff n r]
    show (match setOf n d with
      | some p => (setsOf n r).map (p :: ·)
      | none => none).isSome = _
    cases setOf n d with
    | none => rfl
    | some p =>
      show ((setsOf n r).map (p :: ·)).isSome = _
      rw [Option.isSome_map]
      rfl
theorem setsOf_some {n : Nat} : ∀ {es : List PyData} {vs : List (List Nat)}, setsOf n es = some vs → es = vs.map lstD ∧ ∀ p ∈ vs, (∀ j ∈ p, j < n) ∧ p.Pairwise (· < ·) ∧ p ≠ []
  | [], vs, h => by
    cases h
    exact ⟨rfl, fun p hp => (by cases hp)⟩
  | d :: r, vs, h => by
    replace h : (match setOf n d with
      | some p => (setsOf n r).map (p :: ·)
      | none => none) = some vs := h
    cases hd : setOf n d with
    | none =>
      rw [hd] at h
      cases h
    | some p =>
      rw [hd] at h
      obtain ⟨ps, hps, rfl⟩ := Option.map_eq_some_iff.mp h
      obtain ⟨h1, h2⟩ := setsOf_some hps
      obtain ⟨h3, h4⟩ := setOf_some hd
      refine ⟨by rw [List.map_cons, ← h1, h3], fun q hq => ?_⟩
      rcases List.mem_cons.mp hq with rfl | hq
      · exact h4
      · exact h2 q hq
def isHoldD (n : Nat) (gs : List Fn) : PyData → Bool
  | .list es => match setsOf n es with
    | some vs => decide (List.range n ∈ vs) && vs.all fun p => gs.all fun g => decide (img n g p ∈ vs)
    | none => false
  | _ => false
structure FamOk (n : Nat) (gs : List Fn) : Prop where
  good : ∀ g ∈ gs, Good n g
  ne : gs ≠ []
  few : gs.length ≤ 10
  n1 : 1 ≤ n
  n3 : n ≤ 300
theorem Small.fam {n : Nat} {gs : List Fn} (s : Small n gs) : FamOk n gs := ⟨s.good, s.ne, s.few, s.n1, s.n3⟩
/-- the dict of known sets -/
def knownK (acc : List (List Key × V)) (vs : List (List Nat)) : List (List Key × V) := vs.foldl (fun acc p => putK acc (ikeys p) (.bl true)) acc
theorem knownK_look (p : List Nat) : ∀ (vs : List (List Nat)) (acc : List (List Key × V)), (valV (knownK acc vs) (ikeys p)).isSome = ((valV acc (ikeys p)).isSome || decide (p ∈ vs))
  | [], acc => by
    show (valV acc (ikeys p)).isSome = _
    rw [decide_eq_false (by intro h; cases h), Bool.or_false]
  | q :: vs, acc => by
    show (valV (knownK (putK acc (ikeys q) (.bl true)) vs) (ikeys p)).isSome = _
    rw [knownK_look p vs, valV_put]
    by_cases c : p = q
    · rw [if_pos (by rw [c]), decide_eq_true (show p ∈ q :: vs from by rw [c]; exact List.mem_cons_self)]
      simp
    · rw [if_neg (fun e => c (ikeys_inj e))]
      congr 1
      exact decide_eq_decide.mpr ⟨fun h => List.mem_cons_of_mem _ h, fun h => (List.mem_cons.mp h).resolve_left c⟩
theorem knownK_len : ∀ (vs : List (List Nat)) (acc : List (List Key × V)), (knownK acc vs).length ≤ acc.length + vs.length
  | [], acc => Nat.le_refl _
  | q :: vs, acc => by
    have h1 := knownK_len vs (putK acc (ikeys q) (.bl true))
    have h2 := length_putK acc (ikeys q) (.bl true)
    show (knownK (putK acc (ikeys q) (.bl true)) vs).length ≤ acc.length + (vs.length + 1)
    omega
theorem mem_putK {κ : Type} [DecidableEq κ] {kvs : List (κ × V)} {k : κ} {v : V} {e : κ × V} (h : e ∈ putK kvs k v) : e.1 ∈ kvs.map (·.1) ∨ e.1 = k := by
  unfold putK at h
  split at h
  · obtain ⟨f, hf, rfl⟩ := List.mem_map.mp h
    refine .inl (List.mem_map.mpr ⟨f, hf, ?_⟩)
    by_cases c : f.1 = k
    · rw [if_pos c]
    · rw [if_neg c]
  · rcases List.mem_append.mp h with h | h
    · exact .inl (List.mem_map.mpr ⟨e, h, rfl⟩)
    · rw [List.mem_singleton] at h
      exact .inr (by rw [h])
theorem knownK_keys : ∀ (vs : List (List Nat)) (acc : List (List Key × V)), ∀ e ∈ knownK acc vs, e.1 ∈ acc.map (·.1) ∨ ∃ p ∈ vs, e.1 = ikeys p
  | [], acc => fun e he => .inl (List.mem_map.mpr ⟨e, he, rfl⟩)
  | q :: vs, acc => fun e he => by
    rcases knownK_keys vs (putK acc (ikeys q) (.bl true)) e he with h | ⟨p, hp, h⟩
    · obtain ⟨f, hf, ef⟩ := List.mem_map.mp h
      rcases mem_putK hf with h | h
      · exact .inl (by rw [← ef]; exact h)
      · exact .inr ⟨q, List.mem_cons_self, by rw [← ef, h]⟩
    · exact .inr ⟨p, List.mem_cons_of_mem _ hp, h⟩
theorem knownK_snoc (vs : List (List Nat)) (p : List Nat) : knownK [] (vs ++ [p]) = putK (knownK [] vs) (ikeys p) (.bl true) := by
  unfold knownK
  rw [List.foldl_append]
  rfl
theorem dpAll_lst {K : PySem.W.Frag} {H : Hp} {xs : List V} {vs : List (List Nat)} (h : DpAll K H xs (vs.map lstD)) {i : Nat} {x : V} (e : xs[i]? = some x) : ∃ p a, vs[i]? = some p ∧ x = .ref a ∧ SqL K H a (vints p) := by
  obtain ⟨d, ed, hd⟩ := dpAll_get h e
  rw [List.getElem?_map] at ed
  obtain ⟨p, ep, rfl⟩ := Option.map_eq_some_iff.mp ed
  unfold lstD at hd
  cases hd with
  | lst hL hA =>
    rw [dpAll_vints hA] at hL
    exact ⟨p, _, ep, rfl, hL⟩
def rTupOf (K : PySem.W.Frag) : List V → Hp → VK → Prop := fun xs H Q => ∃ p ys, xs = [.ref p] ∧ ((SqL K H p ys ∧ ∀ l, H l = none → Q (.ref l) (upd H l (.tup ys))) ∨ (SqT K H p ys ∧ Q (.ref p) H))
theorem call_tupOf {X : Cx} : CallR X (.type "tuple") (rTupOf X.K) := call_tuple_of
/-- data that are not too long -/
def ShortD (d : PyData) : Prop := ∀ es, d = .list es → es.length ≤ 1000 ∧ ∀ e ∈ es, ∀ ds, e = .list ds → ds.length ≤ 1000
def spIsHold (CF CM : Addr) (K : PySem.W.Frag) : Sp := fun vs H Q _ => ∃ f x n gs d, vs = [.ref f, x] ∧ FamAt CF CM H f n gs ∧ FamOk n gs ∧ RdD K H x d ∧ ShortD d ∧ ∀ H', Same H H' → Q (.bl (isHoldD n gs d)) H'
section
variable {P : Program} {w : World} {K : PySem.W.Frag} {mg : Str → Option Value} {base : Heap} {k : Nat}
abbrev nmHold : List Str := ["family", "value", "known", "tables", "places", "one", "table"]
theorem scHold : FnScope nmHold ["family", "value"] (defScope (top 42)) := ⟨rfl, rfl, rfl, by decide +kernel, rfl, by decide +kernel, by decide +kernel⟩
theorem ok_isHold (T : TX K mg) : Fn0 P w K mg base (k + 6) T.a_isHolding (spIsHold T.CF T.CM K) := by
  refine T.d_isHolding.ok scHold (fun vs H Q E h => ?_) (fun cdv A outer s H vs Q E hr h => ?_)
  · obtain ⟨f, x, n, gs, d, rfl, _⟩ := h
    rfl
  · obtain ⟨f, x, n, gs, d, rfl, hF, S, hx, hsh, q⟩ := h
    have hu := hu_of hr
    have hu0 := hr.units0
    refine ⟨_, pss_cons (ps_expr (pe_cR (ok_checkFam (k := 0) T) (hr.mono (by omega)) rfl T.m_checkFamily T.d_checkFamily.kp (pa_cons (pv 0) pa_nil)))
      (pss_cons (ps_if (PW.pt (pw_or (pt_not (pt_val (pe_callB call_isi rfl T.z_isinstance boot_isinstance (pa_cons (pv 1) (pa_cons (pe_bltn (v := .ty "list") rfl T.z_list boot_list rfl) pa_nil)))))
          (pw_or1 (pt_not (pt_val (pe_callB (cr_all rfl) rfl T.z_all boot_all (pa_cons (pe_lc (own := [("places", 4)]) (g := gName 4) rfl scHold.nd (pi_list (pv 1)) (blkOk_by (N := nmHold) (sc := defScope (top 42)) (by decide +kernel))
            (fun s H C cl fp => pg_name (i := 4) scHold.nd rfl (.inl rfl)) (fun s H C cl fp => pts_nil)
            (fun s H C cl fp => pe_cR (ok_isSet (k := 0) T) (hr.mono (by omega)) rfl T.m_isSet T.d_isSet.kp (pa_cons (pv 4) (pa_cons (pe_propR (pv 0) T.clF T.o_pFSize (ok_fSize (k := 0) T) (hr.mono (by omega))) pa_nil)))) pa_nil))))))) (pss_one (ps_ret pe_bl)) pss_nil)
      (pss_cons (ps_set (i := 2) scHold.nd rfl (.inr rfl) (pe_dcT (own := [("places", 4)]) (g := gName 4) (tk := tCB (rTupOf K) (tCons (tVar 4) tNil)) hu0 rfl scHold.nd (pi_list (pv 1)) (blkOk_by (N := nmHold) (sc := defScope (top 42)) (by decide +kernel))
            (fun s H C cl fp => pg_name (i := 4) scHold.nd rfl (.inl rfl)) (fun s H C cl fp => pts_nil) (fun s H C cl fp => pe_callTy call_tupOf rfl T.z_tuple boot_tuple (pa_cons (pv 4) pa_nil)) (fun s H C cl fp => pe_bl)))
      (pss_cons (ps_if (pt_cmp (pc_dnotin hu (pe_tupRg rfl rfl T.z_tuple (prg_1 rfl T.z_range (pe_propR (pv 0) T.clF T.o_pFSize (ok_fSize (k := 0) T) (hr.mono (by omega))))) (pv 2))) (pss_one (ps_ret pe_bl)) pss_nil)
      (pss_cons (ps_set (i := 3) scHold.nd rfl (.inr rfl) (pe_lc (own := [("one", 5)]) (g := gName 5) rfl scHold.nd (pi_tup (pe_propR (pv 0) T.clF T.o_pMaps (ok_fMaps (k := 0) T) (hr.mono (by omega)))) (blkOk_by (N := nmHold) (sc := defScope (top 42)) (by decide +kernel))
        (fun s H C cl fp => pg_name (i := 5) scHold.nd rfl (.inl rfl)) (fun s H C cl fp => pts_nil) (fun s H C cl fp => pe_propR (pv 5) T.clM T.o_pArrows (ok_mArrows (k := 0) T) (hr.mono (by omega)))))
      (pss_one (ps_ret (pe_callB (cr_all rfl) rfl T.z_all boot_all (pa_cons (pe_lock (pe_lc2 (own := [("places", 4), ("table", 6)]) (vs1 := [6]) (g := gName 4) (g1 := gName 6) (wi1 := iList K (tVar 3)) rfl scHold.nd (pi_keys (pv 2)) (blkOk_by (N := nmHold) (sc := defScope (top 42)) (by decide +kernel)) (by decide)
          (fun s H C cl fp => pg_name (i := 4) scHold.nd rfl (.inl rfl)) (fun s H C cl fp => pts_nil) (fun s H C cl fp => pi_list (pv 3)) (fun s H C cl fp => pg_name (i := 6) scHold.nd rfl (.inl rfl)) (fun s H C cl fp => pts_nil)
          (fun s H C cl fp => pe_cmp (pc_din hu (pe_cR (ok_image (k := 0) T) (hr.mono (by omega)) rfl T.m_imageOf T.d_imageOf.kp (pa_cons (pv 4) (pa_cons (pv 6) pa_nil))) (pv 2))))) pa_nil)))))))), ?_⟩
    refine ⟨_, rfl, f, n, gs, rfl, hF, ?_⟩
    have tyx : ∃ t b, TyX K H x (.type t) ∧ PySem.W.kitOne K (.type t) (.type "list") = some b ∧ b = isL d := by
      rcases hx with hx | ⟨a, rfl, ha, rfl⟩
      · exact ⟨_, _, dp_ty hx, kit_list d, rfl⟩
      · exact ⟨_, _, .base (.dK ha), kit_list (.dict []), rfl⟩
    obtain ⟨t, b, tx, kt, eb⟩ := tyx
    refine ⟨x, rfl, x, _, _, _, _, rfl, .ty "list", tx, kt, _, rfl, ?_⟩
    rw [eb]
    cases hl : isL d with
    | false =>
      refine iteT ?_
      have e : isHoldD n gs d = false := by
        cases d <;> first | rfl | cases hl
      rw [e] at q
      exact iteT (q H (.refl H))
    | true =>
    refine iteF ?_
    obtain ⟨es, rfl⟩ : ∃ es, d = .list es := by
      cases d <;> first | exact ⟨_, rfl⟩ | cases hl
    have hx : Dp K H x (.list es) := by
      rcases hx with hx | ⟨a, _, _, e⟩
      · exact hx
      · cases e
    obtain ⟨hel, hds⟩ := hsh es rfl
    cases hx with
    | @lst a xs _ hL hA =>
    have hxl := dpAll_len hA
    refine ⟨_, rfl, a, rfl, ⟨_, hL⟩, fun D nD => ?_⟩
    refine lc_list (K := K) (a := a) (xs := xs) (fun i H' => H' D = some (.lst (((es.take i).map fun e => (setOf n e).isSome).map V.bl)) ∧ SameX D H H') ⟨upd_same, (Same.upd nD).x⟩ (fun i H' _ h => ?_) ?_ ?_
    · have s2 : Same H H' := fun b o e => h.2 b o (ne_of_none e nD) e
      exact s2.seq hL
    · rintro i v H2 hv ⟨hD, sx⟩
      obtain ⟨e, ee, he⟩ := dpAll_get hA hv
      have s2 : Same H H2 := fun b o e => sx b o (ne_of_none e nD) e
      have he2 := dp_same s2 e v he
      have hF2 := hF.same s2
      obtain ⟨dx2, t2, ms2, g1, g2, M2⟩ := id hF2
      refine ⟨rfl, ?_⟩
      refine iteT (B := True) ⟨_, rfl, _, rfl, f, dx2, _, rfl, g1, f, n, gs, rfl, hF2, S.ne, v, n, e, rfl, he2, hds e (List.mem_of_getElem? ee), fun H3 s3 => ⟨_, s3 _ _ hD, ?_, upd_same.trans ?_, (sx.trans s3.x).updx⟩⟩
      · rw [List.length_map, List.length_map, List.length_take]
        exact small1000 (Nat.le_trans (Nat.min_le_right _ _) hel)
      · rw [take_snoc ee, ← bls_snoc]
    rintro H1 ⟨hD, sx⟩
    rw [hxl, List.take_length] at hD
    have s1 : Same H H1 := fun b o e => sx b o (ne_of_none e nD) e
    refine ⟨D, es.map fun e => (setOf n e).isSome, rfl, SqL.of hD, _, rfl, ?_⟩
    have eall : (es.map fun e => (setOf n e).isSome).all id = (setsOf n es).isSome := by
      rw [setsOf_iff, List.all_map]
      rfl
    rw [eall]
    cases hn : setsOf n es with
    | none =>
      have e : isHoldD n gs (.list es) = false := by
        unfold isHoldD
        simp only [hn]
      rw [e] at q
      exact iteT (q H1 s1)
    | some vs =>
    refine iteF ?_
    obtain ⟨e1, hvs⟩ := setsOf_some hn
    subst e1
    have hvl : vs.length ≤ 1000 := by rwa [List.length_map] at hel
    have hxl : xs.length = vs.length := by rw [hxl, List.length_map]
    have eH : isHoldD n gs (.list (vs.map lstD)) = (decide (List.range n ∈ vs) && vs.all fun p => gs.all fun g => decide (img n g p ∈ vs)) := by
      show (match setsOf n (vs.map lstD) with
        | some vs => decide (List.range n ∈ vs) && vs.all fun p => gs.all fun g => decide (img n g p ∈ vs)
        | none => false) = _
      rw [hn]
    rw [eH] at q
    have hplen : ∀ p ∈ vs, p.length ≤ 300 := fun p hp => by
      have h1 := pigeon (asc_nodup (hvs p hp).2.1) (hvs p hp).1
      have := S.n3
      omega
    -- known
    refine ⟨_, rfl, a, rfl, ⟨_, s1.seq hL⟩, fun kn nkn => ?_⟩
    refine dcT_list (K := K) (a := a) (xs := xs) (fun i H' => H' kn = some (.dT (knownK [] (vs.take i))) ∧ SameX kn H1 H') ⟨upd_same, (Same.upd nkn).x⟩ (fun i H' _ h => ?_) ?_ ?_
    · have s2 : Same H1 H' := fun b o e => h.2 b o (ne_of_none e nkn) e
      exact (s1.trans s2).seq hL
    · rintro i v H2 hv ⟨hD, sx⟩
      have s2 : Same H1 H2 := fun b o e => sx b o (ne_of_none e nkn) e
      obtain ⟨p, a', ep, rfl, hp⟩ := dpAll_lst hA hv
      refine ⟨rfl, ?_⟩
      refine iteT (B := True) ⟨_, rfl, a', vints p, rfl, .inl ⟨(s1.trans s2).seq hp, fun l nl => ?_⟩⟩
      have hD3 : (upd H2 l (.tup (vints p))) kn = some (.dT (knownK [] (vs.take i))) := by
        rw [upd_ne (ne_of_none hD nl)]
        exact hD
      refine ⟨_, l, ikeys p, rfl, hD3, by rw [ikeys_kV, upd_same], ?_, upd_same.trans ?_, (sx.upd nl).updx⟩
      · have h1 := knownK_len (vs.take i) []
        rw [List.length_nil, List.length_take] at h1
        exact small1000 (by omega)
      · rw [take_snoc ep, knownK_snoc]
    rintro H2 ⟨hkn, sx2⟩
    rw [hxl, List.take_length] at hkn
    have s2 : Same H1 H2 := fun b o e => sx2 b o (ne_of_none e nkn) e
    have sH2 := s1.trans s2
    -- the full set
    have hF2 := hF.same sH2
    obtain ⟨dx2, t2, ms2, g1, g2, M2⟩ := id hF2
    have n1 := S.n1
    have n3 := S.n3
    have efull : rgV 0 (n : Int) = vints (List.range n) := by
      unfold rgV
      rw [show ((n : Int) - 0).toNat = n by omega]
      refine List.map_congr_left fun i _ => ?_
      rw [Int.zero_add]
    refine ⟨_, rfl, f, dx2, _, rfl, g1, f, n, gs, rfl, hF2, S.ne, _, rfl, ⟨by decide, by decide, by omega, by omega, by omega⟩, fun fu nfu => ?_⟩
    rw [efull]
    have s3 : Same H2 (upd H2 fu (.tup (vints (List.range n)))) := Same.upd nfu
    refine ⟨_, rfl, kn, _, rfl, DGet.t (k := ikeys (List.range n)) (s3 _ _ hkn) (by rw [ikeys_kV, upd_same]), _, rfl, ?_⟩
    rw [knownK_look]
    show if (!(false || decide (List.range n ∈ vs))) = true then _ else _
    rw [Bool.false_or]
    by_cases hfull : List.range n ∈ vs
    · rw [decide_eq_true hfull] at q ⊢
      refine iteF ?_
      rw [Bool.true_and] at q
      have sH3 := sH2.trans s3
      have hkn3 := s3 _ _ hkn
      -- tables
      have hF3 := hF.same sH3
      obtain ⟨dx3, t3, ms3, f1, f2, M⟩ := id hF3
      refine ⟨_, rfl, f, dx3, _, rfl, f1, f, dx3, t3, rfl, f1, t3, rfl, ⟨_, SqT.of f2⟩, fun tl ntl => ?_⟩
      refine lc_tup (xs := ms3.map V.ref) (fun i H' => ∃ ds, H' tl = some (.lst (ds.map V.ref)) ∧ Same (upd H2 fu (.tup (vints (List.range n)))) H' ∧ TabsAt H' n ds (gs.take i)) ⟨[], upd_same, Same.upd ntl, .nil⟩ (fun i H' _ h => ?_) ?_ ?_
      · obtain ⟨_, _, h, _⟩ := h
        exact SqT.of (h _ _ f2)
      · rintro i x H4 hx ⟨ds, hl, s4, ht⟩
        rw [List.getElem?_map] at hx
        obtain ⟨m, em, rfl⟩ := Option.map_eq_some_iff.mp hx
        obtain ⟨g, eg, hm⟩ := M.get em
        have hm2 := hm.same s4
        obtain ⟨dm, dd, hm3, hm4⟩ := id hm2
        refine ⟨rfl, ?_⟩
        refine iteT (B := True) ⟨_, rfl, m, dm, _, rfl, hm3, m, n, g, rfl, hm2, fun p np => ?_⟩
        have hl2 : (upd H4 p (.dK (tab n g))) tl = some (.lst (ds.map V.ref)) := by
          rw [upd_ne (ne_of_none hl np)]
          exact hl
        refine ⟨_, hl2, ?_, ds ++ [p], upd_same.trans ?_, (s4.upd2 np).set ntl, ?_⟩
        · rw [List.length_map, Paired.length ht, List.length_take]
          have := S.few
          exact small1000 (by omega)
        · rw [List.map_append]
          rfl
        · rw [take_snoc eg]
          have k2 : KeepT H4 (upd (upd H4 p (.dK (tab n g))) tl (.lst (ds.map V.ref ++ [.ref p]))) := (KeepT.new np).trans (KeepT.lst hl2)
          refine Paired.snoc (TabsAt.keep k2 ht) ?_
          exact (KeepT.lst (ys := ds.map V.ref ++ [.ref p]) hl2).2 _ _ upd_same
      rintro H4 ⟨ds, hl4, s4, ht4⟩
      rw [List.length_map, M.len, List.take_length] at ht4
      have hkn4 := s4 _ _ hkn3
      -- all images
      refine ⟨kn, .dT (knownK [] vs), hkn4, trivial, fun od => ?_⟩
      have sl : SameX kn H4 (upd H4 kn (.frz od (.dT (knownK [] vs)))) := SameX.lock
      have hlk : (upd H4 kn (.frz od (.dT (knownK [] vs)))) kn = some (.frz od (.dT (knownK [] vs))) := upd_same
      have hne : tl ≠ kn := ne_of hl4 hkn4 (by intro z; cases z)
      have hll : (upd H4 kn (.frz od (.dT (knownK [] vs)))) tl = some (.lst (ds.map V.ref)) := by
        rw [upd_ne hne]
        exact hl4
      have htl : TabsAt (upd H4 kn (.frz od (.dT (knownK [] vs)))) n ds gs := Paired.mapP ht4 fun d g hd => by
        rw [upd_ne (ne_of hd hkn4 (by intro z; cases z))]
        exact hd
      generalize hHk : upd H4 kn (.frz od (.dT (knownK [] vs))) = Hk at sl hlk hll htl ⊢
      refine ⟨_, rfl, kn, od, rfl, .inr ⟨_, hlk, fun D2 nD2 => ?_⟩⟩
      refine lc2_out walk_keysT (fun i H' => ∃ bs : List Bool, H' D2 = some (.lst (bs.map V.bl)) ∧ SameX D2 Hk H' ∧ bs.length ≤ i * 10 ∧ (bs.all id = true ↔ ∀ j, j < i → ∀ p, ((knownK [] vs)[j]?).map (·.1) = some (ikeys p) → ∀ g ∈ gs, img n g p ∈ vs))
        ⟨[], upd_same, (Same.upd nD2).x, Nat.zero_le _, ⟨fun _ j hj => absurd hj (Nat.not_lt_zero j), fun _ => rfl⟩⟩ (fun i H' _ h => ?_) ?_ ?_
      · obtain ⟨_, _, h, _⟩ := h
        exact h kn _ (ne_of_none hlk nD2) hlk
      · rintro i x H5 H6 hi ⟨bs, hb, sx5, hbl, hbq⟩ ⟨rfl, kk, vv, q', ek, rfl, hq'⟩
        have s5 : Same Hk H6 := fun b o e => sx5 b o (ne_of_none e nD2) e
        have hkm : (kk, vv) ∈ knownK [] vs := List.mem_of_getElem? ek
        obtain ⟨p, hp, epk⟩ : ∃ p ∈ vs, kk = ikeys p := by
          rcases knownK_keys vs [] _ hkm with h | h
          · cases h
          · exact h
        subst epk
        rw [ikeys_kV] at hq'
        refine ⟨rfl, ?_⟩
        refine iteT (B := True) ⟨_, rfl, tl, rfl, ⟨_, SqL.of (s5 _ _ hll)⟩, ?_⟩
        refine lc2_in (walk_list (xs := ds.map V.ref)) (fun j H' => ∃ bs2 : List Bool, H' D2 = some (.lst (bs2.map V.bl)) ∧ SameX D2 Hk H' ∧ Same (fun b => if b = D2 then none else H6 b) H' ∧ bs2.length ≤ i * 10 + j ∧ (bs2.all id = true ↔ (bs.all id = true ∧ ∀ g ∈ gs.take j, img n g p ∈ vs)))
          ⟨bs, hb, sx5, ?_, by omega, ⟨fun h => ⟨h, fun g hg => by cases hg⟩, fun h => h.1⟩⟩ (fun j H' _ h => ?_) ?_ ?_
        · intro b o e
          by_cases c : b = D2
          · simp only [if_pos c] at e
            cases e
          · simp only [if_neg c] at e
            exact e
        · obtain ⟨_, _, h, _⟩ := h
          have s6 : Same Hk H' := fun b o e => h b o (ne_of_none e nD2) e
          exact SqL.of (s6 _ _ hll)
        · rintro j y H7 H8 hj ⟨bs2, hb2, sx7, sq, hbl2, hbq2⟩ ⟨rfl, ey⟩
          rw [List.getElem?_map] at ey
          obtain ⟨d, ed, rfl⟩ := Option.map_eq_some_iff.mp ey
          have s7 : Same Hk H8 := fun b o e => sx7 b o (ne_of_none e nD2) e
          obtain ⟨g, eg, hd⟩ := TabsAt.get (htl.same s7) ed
          have nqD : q' ≠ D2 := ne_of hq' hb (by intro z; cases z)
          have hq7 : H8 q' = some (.tup (vints p)) := sq _ _ (by simp only [if_neg nqD]; exact hq')
          have hpv := hvs p hp
          refine ⟨rfl, ?_⟩
          refine iteT (B := True) ⟨_, rfl, _, rfl, q', d, p, n, g, rfl, hq7, hd, S.good g (List.mem_of_getElem? eg), ?_, asc_nodup hpv.2.1, fun H9 l s9 nl hl => ?_⟩
          · have := hplen p hp
            omega
          have hk9 := s9 _ _ (s7 _ _ hlk)
          refine ⟨_, rfl, kn, _, rfl, .inr ⟨_, ikeys (img n g p), l, .inr ⟨od, hk9⟩, rfl, by rw [ikeys_kV]; exact hl, rfl⟩, ?_⟩
          rw [knownK_look]
          refine ⟨_, s9 _ _ hb2, ?_, bs2 ++ [decide (img n g p ∈ vs)], upd_same.trans ?_, (sx7.trans s9.x).updx, ?_, ?_, ?_⟩
          · rw [List.length_map]
            have h1 := knownK_len vs []
            rw [List.length_nil] at h1
            have h2 : j < gs.length := (List.getElem?_eq_some_iff.mp eg).1
            have h3 := S.few
            exact Nat.lt_of_le_of_lt (show bs2.length ≤ 20000 by omega) (by decide)
          · rw [List.map_append]
            rfl
          · intro b o e
            by_cases c : b = D2
            · simp only [if_pos c] at e
              cases e
            · have e2 := s9 _ _ (sq b o e)
              rw [upd_ne c]
              exact e2
          · rw [List.length_append, List.length_singleton]
            omega
          · rw [take_snoc eg, List.all_append, Bool.and_eq_true_iff, hbq2]
            constructor
            · rintro ⟨⟨h1, h2⟩, h3⟩
              refine ⟨h1, fun g' hg' => ?_⟩
              rcases List.mem_append.mp hg' with h | h
              · exact h2 g' h
              · rw [List.mem_singleton] at h
                subst h
                simp only [List.all_cons, List.all_nil, Bool.and_true, id] at h3
                exact of_decide_eq_true h3
            · rintro ⟨h1, h2⟩
              refine ⟨⟨h1, fun g' hg' => h2 g' (List.mem_append.mpr (.inl hg'))⟩, ?_⟩
              simp only [List.all_cons, List.all_nil, Bool.and_true, id]
              exact decide_eq_true (h2 g (List.mem_append.mpr (.inr (List.mem_singleton.mpr rfl))))
        · rintro H7 ⟨bs2, hb2, sx7, sq, hbl2, hbq2⟩
          have eds : (ds.map V.ref).length = gs.length := by
            rw [List.length_map]
            exact Paired.length ht4
          rw [eds, List.take_length] at hbq2
          rw [eds] at hbl2
          refine ⟨bs2, hb2, sx7, ?_, ?_⟩
          · have := S.few
            omega
          · rw [hbq2, hbq]
            constructor
            · rintro ⟨h1, h2⟩ j hj p' hp' g hg
              by_cases c : j < i
              · exact h1 j c p' hp' g hg
              · have ej : j = i := by omega
                subst ej
                rw [ek] at hp'
                have e2 : ikeys p = ikeys p' := Option.some.inj hp'
                rw [← ikeys_inj e2]
                exact h2 g hg
            · intro h
              exact ⟨fun j hj p' hp' g hg => h j (by omega) p' hp' g hg, fun g hg => h i (Nat.lt_succ_self i) p (by rw [ek]; rfl) g hg⟩
      · rintro H5 ⟨bs, hb, sx5, hbl, hbq⟩
        have s5 : Same Hk H5 := fun b o e => sx5 b o (ne_of_none e nD2) e
        have nkD : D2 ≠ kn := (ne_of_none hlk nD2).symm
        refine ⟨s5 _ _ hlk, D2, bs, rfl, SqL.of (by rw [upd_ne nkD]; exact hb), ?_⟩
        have efin : bs.all id = vs.all fun p => gs.all fun g => decide (img n g p ∈ vs) := by
          apply Bool.eq_iff_iff.mpr
          rw [hbq, List.all_eq_true]
          constructor
          · intro h p hp
            rw [List.all_eq_true]
            intro g hg
            have h1 : (valV (knownK [] vs) (ikeys p)).isSome = true := by
              rw [knownK_look, decide_eq_true hp]
              rfl
            obtain ⟨v, hv⟩ := Option.isSome_iff_exists.mp h1
            obtain ⟨j, hj⟩ := List.mem_iff_getElem?.mp (valV_in hv)
            rw [List.getElem?_map] at hj
            have hjl : j < (knownK [] vs).length := by
              cases c : (knownK [] vs)[j]? with
              | none =>
                rw [c] at hj
                cases hj
              | some z => exact (List.getElem?_eq_some_iff.mp c).1
            exact decide_eq_true (h j hjl p hj g hg)
          · intro h j hj p hp g hg
            obtain ⟨z, hz, ez⟩ := Option.map_eq_some_iff.mp hp
            have hpm : p ∈ vs := by
              rcases knownK_keys vs [] z (List.mem_of_getElem? hz) with h' | ⟨p', hp', e⟩
              · cases h'
              · have e2 : ikeys p = ikeys p' := ez.symm.trans e
                rw [ikeys_inj e2]
                exact hp'
            have h2 := h p hpm
            rw [List.all_eq_true] at h2
            exact of_decide_eq_true (h2 g hg)
        rw [efin]
        refine q _ ?_
        intro b u ebu
        have e4 := s4 _ _ (sH3 _ _ ebu)
        by_cases c : b = kn
        · subst c
          rw [hkn4] at e4
          cases e4
          exact upd_same
        · rw [upd_ne c]
          refine s5 _ _ ?_
          rw [← hHk, upd_ne c]
          exact e4
    · rw [decide_eq_false hfull] at q ⊢
      exact iteT (q _ (sH2.trans s3))
end
end K57
end

section
set_option Elab.async false
set_option linter.all false
set_option maxRecDepth 100000
set_option maxHeartbeats 4000000
namespace K57
open PySem PySem.Spec PyProof.Rows L2 StX ClX
/-! _law_image, _law_search -/
/-- a list or a tuple is walked -/
def iSeq (K : PySem.W.Frag) (tl : TE) : TI := fun σ H R => tl σ H fun x H1 => ∃ a xs, x = .ref a ∧ (SqL K H1 a xs ∨ SqT K H1 a xs) ∧ ∀ J, Walk J xs.length (Same H1) (YAt xs) → R J H1
theorem pi_seq {X : Cx} {tg l : Expr} {tl : TE} (hl : PE X l tl) : PI X tg l (iSeq X.K tl) := by
  refine ⟨fun pins s σ H R I h => ?_⟩
  refine thn (hl.run pins s σ H _ I h) fun v s1 ⟨x, H1, I1, r1, q1⟩ => ?_
  obtain ⟨a, xs, e, hq | hq, q⟩ := q1
  · subst e
    have q := q _ (walk_list.mono (fun H' s => s.seq hq) (fun _ _ _ _ _ _ y => y))
    cases r1
    obtain ⟨its, rv, p, hz⟩ := I1.list hq
    refine wpAny_pyIter_list p.isList ?_
    refine ⟨s1.heap.objs.size, [s1.heap.objs.size], _, _, H1, rfl, I1.kept (t' := s1.toks) fun b o e => Heap.get?_push_of_some _ e, turn_list a _, ⟨_, Heap.get?_push_size _ rfl, rfl, rfl⟩, fun b hb => ?_, q⟩
    have e : b = s1.heap.objs.size := by simpa using hb
    subst e
    exact I1.fpOk (Nat.le_refl _) (I1.hok.fresh (Nat.le_refl _))
  · subst e
    have q := q _ (walk_tup.mono (fun H' s => s.sqT hq) (fun _ _ _ _ _ _ y => y))
    cases r1
    obtain ⟨its, rv, p, hz⟩ := I1.tuple hq
    refine wpAny_pyIter_tuple (show s1.heap.IsTuple a its.toArray from p) ?_
    refine ⟨s1.heap.objs.size, [s1.heap.objs.size], _, _, H1, rfl, I1.kept (t' := s1.toks) fun b o e => Heap.get?_push_of_some _ e, turn_tuple a _, ⟨_, Heap.get?_push_size _ rfl, rfl, rfl⟩, fun b hb => ?_, q⟩
    have e : b = s1.heap.objs.size := by simpa using hb
    subst e
    exact I1.fpOk (Nat.le_refl _) (I1.hok.fresh (Nat.le_refl _))
def spLImage (K : PySem.W.Frag) : Sp := fun vs H Q _ => ∃ t d ps n g, vs = [.ref t, .ref d, .int ((n : Nat) : Int)] ∧ (SqL K H t (vints ps) ∨ SqT K H t (vints ps)) ∧ H d = some (.dK (tab n g)) ∧ Good n g ∧ ps.length ≤ 1000 ∧ n ≤ 300 ∧
  ∀ H' p, Same H H' → H p = none → H' p = some (.tup (vints (img n g ps))) → Q (.ref p) H'
abbrev trueK (l : List Nat) : List (Key × V) := l.map fun (j : Nat) => ((Sum.inl (j : Int) : Key), V.bl true)
theorem merge_look (t : Nat) : ∀ (l : List Nat) (acc : List (Key × V)), (valV (mergeK acc (trueK l)) (Sum.inl (t : Int))).isSome = ((valV acc (Sum.inl (t : Int))).isSome || decide (t ∈ l))
  | [], acc => by
    show (valV acc _).isSome = _
    rw [decide_eq_false (by intro h; cases h), Bool.or_false]
  | j :: l, acc => by
    show (valV (mergeK (putK acc (Sum.inl (j : Int)) (.bl true)) (trueK l)) (Sum.inl (t : Int))).isSome = _
    rw [merge_look t l, valV_put]
    by_cases c : t = j
    · rw [if_pos (by rw [c]), decide_eq_true (show t ∈ j :: l from by rw [c]; exact List.mem_cons_self)]
      simp
    · rw [if_neg (fun e => c (by have := Sum.inl.inj e; omega))]
      congr 1
      exact decide_eq_decide.mpr ⟨fun h => List.mem_cons_of_mem _ h, fun h => (List.mem_cons.mp h).resolve_left c⟩
section
variable {P : Program} {w : World} {K : PySem.W.Frag} {mg : Str → Option Value} {base : Heap} {k : Nat}
abbrev nmLImage : List Str := ["_law_places", "_law_table", "_law_size", "_law_some", "_law_place", "_law_target"]
theorem scLImage : FnScope nmLImage ["_law_places", "_law_table", "_law_size"] (defScope (top 48)) := ⟨rfl, rfl, rfl, by decide +kernel, rfl, by decide +kernel, by decide +kernel⟩
theorem ok_lImage (T : TX K mg) : Fn0 P w K mg base (k + 1) T.a_lImage (spLImage K) := by
  refine T.d_lImage.ok scLImage (fun vs H Q E h => ?_) (fun cdv A outer s H vs Q E hr h => ?_)
  · obtain ⟨t, d, ps, n, g, rfl, _⟩ := h
    rfl
  · obtain ⟨t, d, ps, n, g, rfl, ht, hd, G, hpl, hn, q⟩ := h
    have hu := hu_of hr
    refine ⟨_, pss_cons (ps_set (i := 3) scLImage.nd rfl (.inr rfl) (pe_callTy (call_dictP rfl) rfl T.z_dict boot_dict (pa_cons
        (pe_lc (own := [("_law_place", 4)]) (g := gName 4) rfl scLImage.nd (pi_seq (pv 0)) (blkOk_by (N := nmLImage) (sc := defScope (top 48)) (by decide +kernel)) (fun s H C cl fp => pg_name (i := 4) scLImage.nd rfl (.inl rfl))
          (fun s H C cl fp => pts_one (pt_cmp (pc_din hu (pv 4) (pv 1)))) (fun s H C cl fp => pe_tup (pa_cons (pe_dget hu (pv 1) (pv 4) (fun _ _ => rfl)) (pa_cons pe_bl pa_nil)))) pa_nil)))
      (pss_one (ps_ret (pe_callTy call_tuple_of rfl T.z_tuple boot_tuple (pa_cons
        (pe_lc (own := [("_law_target", 5)]) (g := gName 5) rfl scLImage.nd (pi_range1 rfl T.z_range (pa_cons (pv 2) pa_nil)) (blkOk_by (N := nmLImage) (sc := defScope (top 48)) (by decide +kernel)) (fun s H C cl fp => pg_name (i := 5) scLImage.nd rfl (.inl rfl))
          (fun s H C cl fp => pts_one (pt_cmp (pc_din hu (pv 5) (pv 3)))) (fun s H C cl fp => pv 5)) pa_nil)))), ?_⟩
    refine ⟨_, rfl, t, vints ps, rfl, ht, fun J wJ => ?_⟩
    intro D nD
    refine lc_it wJ (fun i H' => ∃ as : List Addr, H' D = some (.lst (as.map V.ref)) ∧ Paired (fun p kv => H' p = some (.tup [kV kv.1, kv.2])) as (trueK ((ps.take i).filterMap g)) ∧ SameX D H H')
      ⟨[], upd_same, .nil, (Same.upd nD).x⟩ (fun i H' _ h => ?_) ?_ ?_
    · obtain ⟨_, _, _, h⟩ := h
      exact fun b o e => h b o (ne_of_none e nD) e
    · rintro i x H2 H3 hi ⟨as, hD, hp, sx⟩ ⟨rfl, hx⟩
      rw [List.getElem?_map] at hx
      obtain ⟨j, ej, rfl⟩ := Option.map_eq_some_iff.mp hx
      have hd2 := sx d _ (ne_of_none hd nD) hd
      have et : (ps.take (i + 1)).filterMap g = (ps.take i).filterMap g ++ (g j).toList := by
        rw [take_snoc ej, List.filterMap_append]
        all_goals rfl
      refine ⟨rfl, _, rfl, _, rfl, d, _, rfl, DGet.k (k := Sum.inl (j : Int)) hd2, _, rfl, ?_⟩
      rw [tab_get G]
      cases hg : g j with
      | none =>
        refine iteF ⟨as, hD, ?_, sx⟩
        rw [et, hg, Option.toList_none, List.append_nil]
        exact hp
      | some m =>
        refine iteT ⟨_, rfl, _, rfl, d, .int (m : Int), rfl, ?_, (by show 2 ≤ sizeLine; decide), fun p np => ?_⟩
        · have e := DGet.k (k := Sum.inl (j : Int)) hd2
          rw [tab_get G, hg] at e
          exact e
        have hD2 : (upd H3 p (.tup [V.int (m : Int), V.bl true])) D = some (.lst (as.map V.ref)) := by
          rw [upd_ne (ne_of_none hD np)]
          exact hD
        have k2 : KeepT H3 (upd (upd H3 p (.tup [V.int (m : Int), V.bl true])) D (.lst (as.map V.ref ++ [.ref p]))) := (KeepT.new np).trans (KeepT.lst hD2)
        refine ⟨_, hD2, ?_, as ++ [p], upd_same.trans ?_, ?_, (sx.upd np).updx⟩
        · rw [List.length_map, Paired.length hp, List.length_map]
          refine Nat.lt_of_le_of_lt (List.length_filterMap_le _ _) ?_
          rw [List.length_take]
          exact Nat.lt_of_le_of_lt (Nat.min_le_right _ _) (small1000 hpl)
        · rw [List.map_append]
          rfl
        · rw [et, hg, Option.toList_some]
          show Paired _ (as ++ [p]) (List.map (fun (j : Nat) => ((Sum.inl (j : Int) : Key), V.bl true)) ((ps.take i).filterMap g ++ [m]))
          rw [List.map_append]
          exact Paired.snoc (Paired.mapP hp fun _ _ h => k2.1 _ _ h) ((KeepT.lst (ys := as.map V.ref ++ [.ref p]) hD2).1 _ _ upd_same)
    rintro H2 ⟨as, hD, hp, sx⟩
    rw [List.take_of_length_le (by rw [List.length_map]; exact Nat.le_refl _)] at hp
    have s2 : Same H H2 := fun b o e => sx b o (ne_of_none e nD) e
    refine ⟨D, as, trueK (ps.filterMap g), rfl, SqL.of hD, Paired.mapP hp fun _ _ h => SqT.of h, fun md nmd => ?_⟩
    have s3 : Same H2 (upd H2 md (.dK (mergeK [] (trueK (ps.filterMap g))))) := Same.upd nmd
    refine ⟨_, rfl, n, rfl, by omega, by omega, fun D2 nD2 => ?_⟩
    have hmd : (upd H2 md (.dK (mergeK [] (trueK (ps.filterMap g))))) md = some (.dK (mergeK [] (trueK (ps.filterMap g)))) := upd_same
    refine lc_it walk_range0 (fun i H' => H' D2 = some (.lst (vints ((List.range i).filter fun t => decide (t ∈ ps.filterMap g)))) ∧ SameX D2 (upd H2 md (.dK (mergeK [] (trueK (ps.filterMap g))))) H')
      ⟨upd_same, (Same.upd nD2).x⟩ (fun _ _ _ _ => trivial) ?_ ?_
    · rintro i x H4 H5 hi ⟨hD2, sx2⟩ ⟨rfl, rfl⟩
      have hm2 := sx2 md _ (ne_of_none hmd nD2) hmd
      refine ⟨rfl, _, rfl, _, rfl, md, _, rfl, DGet.k (k := Sum.inl (i : Int)) hm2, _, rfl, ?_⟩
      rw [merge_look]
      show if (false || decide (i ∈ ps.filterMap g)) = true then _ else _
      rw [Bool.false_or]
      have er : (List.range (i + 1)).filter (fun t => decide (t ∈ ps.filterMap g)) = (List.range i).filter (fun t => decide (t ∈ ps.filterMap g)) ++ (if decide (i ∈ ps.filterMap g) = true then [i] else []) := by
        rw [List.range_succ, List.filter_append]
        congr 1
        show List.filter _ [i] = _
        rw [List.filter_cons, List.filter_nil]
      cases hc : decide (i ∈ ps.filterMap g) with
      | false =>
        refine iteF ⟨?_, sx2⟩
        rw [er, hc, hD2]
        exact congrArg (fun z => some (HO.lst (vints z))) (List.append_nil _).symm
      | true =>
        refine iteT ⟨_, rfl, _, hD2, ?_, upd_same.trans ?_, sx2.updx⟩
        · rw [List.length_map]
          refine Nat.lt_of_le_of_lt (List.length_filter_le _ _) ?_
          rw [List.length_range]
          have hi' : i < n := hi
          exact small1000 (by omega)
        · rw [er, hc]
          exact congrArg (fun z => some (HO.lst z)) (vints_snoc _ _)
    · rintro H4 ⟨hD2, sx2⟩
      have s4 : Same (upd H2 md (.dK (mergeK [] (trueK (ps.filterMap g))))) H4 := fun b o e => sx2 b o (ne_of_none e nD2) e
      have efin : (List.range (n : Int).toNat).filter (fun t => decide (t ∈ ps.filterMap g)) = img n g ps := by
        unfold img
        refine List.filter_congr fun t _ => ?_
        apply Bool.eq_iff_iff.mpr
        rw [decide_eq_true_iff, List.mem_filterMap, List.any_eq_true]
        constructor
        · rintro ⟨p, hp, e⟩
          exact ⟨p, hp, by rw [e]; exact beq_self_eq_true _⟩
        · rintro ⟨p, hp, e⟩
          exact ⟨p, hp, eq_of_beq e⟩
      rw [efin] at hD2
      refine ⟨D2, _, rfl, .inl ⟨SqL.of hD2, fun l nl => ?_⟩⟩
      exact q _ l (((s2.trans s3).trans s4).upd2 nl) (((s2.trans s3).trans s4).free nl) upd_same
end
end K57
end

section
set_option Elab.async false
set_option linter.all false
set_option maxRecDepth 100000
set_option maxHeartbeats 4000000
namespace K57
open PySem PySem.Spec PyProof.Rows L2 StX ClX
/-! _law_search -/
def spLSearch : Sp := fun vs H Q _ => ∃ tl n gs ds, vs = [.ref tl, .int ((n : Nat) : Int)] ∧ H tl = some (.lst (ds.map V.ref)) ∧ TabsAt H n ds gs ∧ Small n gs ∧
  ∀ H' d kvs k0, Same H H' → H d = none → H' d = some (.dT kvs) → (bfs n gs k0).length ≤ k0 → WdAt H' kvs (bfs n gs k0) → Q (.ref d) H'
section
variable {P : Program} {w : World} {K : PySem.W.Frag} {mg : Str → Option Value} {base : Heap} {k : Nat}
abbrev nmLSearch : List Str := ["_law_tables", "_law_size", "_law_full", "_law_found", "_law_last", "_law_later", "_law_places", "_law_index", "_law_table", "_law_more"]
theorem scLSearch : FnScope nmLSearch ["_law_tables", "_law_size"] (defScope (top 49)) := ⟨rfl, rfl, rfl, by decide +kernel, rfl, by decide +kernel, by decide +kernel⟩
theorem ok_lSearch (T : TX K mg) : Fn0 P w K mg base (k + 2) T.a_lSearch spLSearch := by
  refine T.d_lSearch.ok scLSearch (fun vs H Q E h => ?_) (fun cdv A outer s H vs Q E hr h => ?_)
  · obtain ⟨tl, n, gs, ds, rfl, _⟩ := h
    rfl
  · obtain ⟨tl, n, gs, ds, rfl, htl, hds, S, q⟩ := h
    have hu := hu_of hr
    have hu0 := hr.units0
    have hu64 := hr.units
    have hu2 := Nat.lt_of_le_of_lt (Nat.add_le_add_left (show 2 ≤ 64 by decide) _) hu64
    refine ⟨_, pss_cons (ps_set (i := 2) scLSearch.nd rfl (.inl rfl) (pe_tupRg rfl rfl T.z_tuple (prg_1 rfl T.z_range (pv 1))))
      (pss_cons (ps_par (i := 3) (j := 4) rfl scLSearch.nd rfl rfl (by decide) rfl rfl (pa_cons (pe_callTy (call_dict1T rfl hu2) rfl T.z_dict boot_dict (pa_cons (pe_lst (pa_cons (pe_tup (pa_cons (pv 2) (pa_cons (pe_tup pa_nil) pa_nil))) pa_nil)) pa_nil)) (pa_cons (pe_lst (pa_cons (pv 2) pa_nil)) pa_nil)) rfl)
      (pss_cons (ps_while PassesOwn.never (pt_cmpR (op_neNil hu0) (pv 4) (pe_lst pa_nil) (nomark _))
        (pss_cons (ps_set (i := 5) scLSearch.nd rfl (.inl rfl) (pe_lst pa_nil))
        (pss_cons (ps_for PassesOwn.never rfl (pi_list (pv 4)) (pg_name (i := 6) scLSearch.nd rfl (.inl rfl))
          (pss_one (ps_for PassesOwn.never rfl (pi_enum rfl T.z_enumerate (pa_cons (pv 0) pa_nil)) (pg_tup rfl (pgs_cons (pg_name (i := 7) scLSearch.nd rfl (.inl rfl)) (pgs_cons (pg_name (i := 8) scLSearch.nd rfl (.inl rfl)) pgs_nil)))
            (pss_cons (ps_set (i := 9) scLSearch.nd rfl (.inl rfl) (pe_cR (ok_lImage (k := 0) T) (hr.mono (by omega)) rfl T.m_lImage T.d_lImage.kp (pa_cons (pv 6) (pa_cons (pv 8) (pa_cons (pv 1) pa_nil)))))
            (pss_one (ps_if (pt_cmp (pc_dnotin hu (pv 9) (pv 3)))
              (pss_cons (ps_dput hu (pv 3) (pv 9) (pe_op op_catA (pe_dget hu (pv 3) (pv 6) (fun _ _ => rfl)) (pe_tup (pa_cons (pv 7) pa_nil))) rfl)
              (pss_one (ps_expr (pe_bm PySem.F.plainAttrs_list PySem.F.slot_list_append PySem.F.type_list_append mt_append (pv 5) (pa_cons (pv 9) pa_nil)))))
              pss_nil))))))
        (pss_one (ps_set (i := 4) scLSearch.nd rfl (.inl rfl) (pv 5))))))
      (pss_one (ps_ret (pv 3))))), ?_⟩
    have n1 := S.n1
    have n3 := S.n3
    have efull : rgV 0 (n : Int) = vints (List.range n) := by
      unfold rgV
      rw [show ((n : Int) - 0).toNat = n by omega]
      refine List.map_congr_left fun i _ => ?_
      rw [Int.zero_add]
    refine ⟨_, rfl, _, rfl, ⟨by decide, by decide, by omega, by omega, by omega⟩, fun fu nfu => ?_⟩
    rw [efull]
    have s1 : Same H (upd H fu (.tup (vints (List.range n)))) := Same.upd nfu
    have hfu1 : (upd H fu (.tup (vints (List.range n)))) fu = some (.tup (vints (List.range n))) := upd_same
    generalize upd H fu (.tup (vints (List.range n))) = H1 at s1 hfu1 ⊢
    refine ⟨_, rfl, Nat.zero_le _, fun e0 ne0 => ?_⟩
    have s2 : Same H1 (upd H1 e0 (.tup [])) := Same.upd ne0
    have he0 : (upd H1 e0 (.tup [])) e0 = some (.tup (vints [])) := upd_same
    have hfu2 := s2 _ _ hfu1
    replace s2 := s1.trans s2
    generalize upd H1 e0 (.tup []) = H2 at s2 he0 hfu2 ⊢
    refine ⟨by show 2 ≤ sizeLine; decide, fun pr npr => ?_⟩
    have s3 : Same H2 (upd H2 pr (.tup [.ref fu, .ref e0])) := Same.upd npr
    have hpr : (upd H2 pr (.tup [.ref fu, .ref e0])) pr = some (.tup [.ref fu, .ref e0]) := upd_same
    have hfu3 := s3 _ _ hfu2
    have he3 := s3 _ _ he0
    replace s3 := s2.trans s3
    generalize upd H2 pr (.tup [.ref fu, .ref e0]) = H3 at s3 hpr hfu3 he3 ⊢
    refine ⟨by show 1 ≤ sizeLine; decide, fun li nli => ?_⟩
    have s4 : Same H3 (upd H3 li (.lst [.ref pr])) := Same.upd nli
    have hli : (upd H3 li (.lst [.ref pr])) li = some (.lst [.ref pr]) := upd_same
    have hfu4 := s4 _ _ hfu3
    have he4 := s4 _ _ he3
    have hpr4 := s4 _ _ hpr
    replace s4 := s3.trans s4
    generalize upd H3 li (.lst [.ref pr]) = H4 at s4 hli hfu4 he4 hpr4 ⊢
    refine ⟨li, pr, fu, ikeys (List.range n), .ref e0, rfl, SqL.of hli, SqT.of hpr4, by rw [ikeys_kV]; exact hfu4, fun wd nwd => ?_⟩
    have s5 : Same H4 (upd H4 wd (.dT [(ikeys (List.range n), .ref e0)])) := Same.upd nwd
    have hwd : (upd H4 wd (.dT [(ikeys (List.range n), .ref e0)])) wd = some (.dT [(ikeys (List.range n), .ref e0)]) := upd_same
    have hfu5 := s5 _ _ hfu4
    have he5 := s5 _ _ he4
    have nHwd : H wd = none := s4.free nwd
    replace s5 := s4.trans s5
    generalize upd H4 wd (.dT [(ikeys (List.range n), .ref e0)]) = H5 at s5 hwd hfu5 he5 ⊢
    refine ⟨_, rfl, by show 1 ≤ sizeLine; decide, fun la0 nla0 => ?_⟩
    have s6 : Same H5 (upd H5 la0 (.lst [.ref fu])) := Same.upd nla0
    have hla0 : (upd H5 la0 (.lst [.ref fu])) la0 = some (.lst [.ref fu]) := upd_same
    have hfu6 := s6 _ _ hfu5
    have he6 := s6 _ _ he5
    have hwd6 := s6 _ _ hwd
    have nHla : H la0 = none := s5.free nla0
    replace s6 := s5.trans s6
    generalize upd H5 la0 (.lst [.ref fu]) = H6 at s6 hla0 hfu6 he6 hwd6 ⊢
    refine ⟨_, _, rfl, ?_⟩
    have core0 : SCore H H6 n gs ds tl wd la0 (bfs n gs 0) 0 := by
      refine ⟨s6, s6 _ _ htl, hds.same s6, ⟨_, hwd6, .cons ⟨rfl, e0, rfl, he6⟩ .nil⟩, [fu], hla0, .cons hfu6 .nil⟩
    refine ⟨fun m σ H' => ∃ kk la y5 y6 y7 y8 y9, σ = [some (.ref tl), some (.int (n : Int)), some (.ref fu), some (.ref wd), some (.ref la), y5, y6, y7, y8, y9] ∧ SCore H H' n gs ds tl wd la (bfs n gs kk) kk ∧ m = 2000 - kk ∧ kk ≤ (bfs n gs kk).length,
      ⟨2000, 0, la0, none, none, none, none, none, rfl, core0, rfl, Nat.zero_le _⟩, ?_⟩
    rintro m σ H7 ⟨kk, la, y5, y6, y7, y8, y9, rfl, core, rfl, hkk⟩
    refine ⟨_, rfl, Nat.zero_le _, fun pe npe => ?_⟩
    have core' := core.same (Same.upd (o := .lst []) npe)
    have hpe : (upd H7 pe (.lst [])) pe = some (.lst []) := upd_same
    generalize upd H7 pe (.lst []) = H8 at core' hpe ⊢
    obtain ⟨c1, c2, c3, ⟨kvs, c4, c5⟩, bs, c6, c7⟩ := id core'
    refine ⟨la, pe, _, rfl, rfl, SqL.of c6, SqL.of hpe, _, rfl, ?_⟩
    cases hbe : (bs.map V.ref).isEmpty with
    | true =>
      refine iteF ?_
      have hb : bs = [] := List.map_eq_nil_iff.mp (List.isEmpty_iff.mp hbe)
      subst hb
      have hd : (keys (bfs n gs kk)).drop kk = [] := List.eq_nil_of_length_eq_zero (Paired.length c7).symm
      have hlen : (bfs n gs kk).length ≤ kk := by
        have h2 := List.drop_eq_nil_iff.mp hd
        unfold keys at h2
        rwa [List.length_map] at h2
      exact ⟨_, rfl, q _ wd kvs kk c1 nHwd c4 hlen c5⟩
    | false =>
      refine iteT ?_
      have hbl : bs.length = (bfs n gs kk).length - kk := by
        rw [Paired.length c7, List.length_drop]
        unfold keys
        rw [List.length_map]
      have hb0 : 0 < bs.length := by
        cases bs with
        | nil => cases hbe
        | cons a b => exact Nat.succ_pos _
      have hmax := S.bd kk
      refine ⟨fun σ' H' => ∃ la y5 y6 y7 y8 y9, σ' = [some (.ref tl), some (.int (n : Int)), some (.ref fu), some (.ref wd), some (.ref la), y5, y6, y7, y8, y9] ∧ SCore H H' n gs ds tl wd la (bfs n gs (kk + bs.length)) (kk + bs.length), ?_, ?_⟩
      · rintro σ' H' ⟨la', y5, y6, y7, y8, y9, rfl, co⟩
        refine ⟨2000 - (kk + bs.length), by omega, kk + bs.length, _, _, _, _, _, _, rfl, co, rfl, ?_⟩
        have := (bfs_pre n gs (show kk ≤ kk + bs.length by omega)).length_le
        omega
      -- a layer
      refine ⟨Nat.zero_le _, fun lt nlt => ?_⟩
      have s9 : Same H8 (upd H8 lt (.lst [])) := Same.upd nlt
      have hlt : (upd H8 lt (.lst [])) lt = some (.lst []) := upd_same
      have nHlt : H lt = none := c1.free nlt
      have hla9 := s9 _ _ c6
      have htt : tl ≠ lt := ne_of_none c2 nlt
      have hll : la ≠ lt := ne_of_none c6 nlt
      have core9 : SCore H (upd H8 lt (.lst [])) n gs ds tl wd lt (bfs n gs kk) (kk + bs.length) := by
        refine ⟨c1.trans s9, s9 _ _ c2, c3.same s9, ⟨kvs, s9 _ _ c4, c5.keep (.of s9)⟩, [], hlt, ?_⟩
        rw [List.drop_eq_nil_of_le (by unfold keys; rw [List.length_map]; omega)]
        exact .nil
      have hbs9 := TupsAt.keep (.of s9) c7
      generalize upd H8 lt (.lst []) = H9 at core9 hla9 hbs9 ⊢
      refine ⟨_, rfl, la, rfl, ⟨_, SqL.of hla9⟩, ?_⟩
      refine for_list (K := K) (a := la) (xs := bs.map V.ref) (fun i σ H' => ∃ y6 y7 y8 y9, σ = [some (.ref tl), some (.int (n : Int)), some (.ref fu), some (.ref wd), some (.ref la), some (.ref lt), y6, y7, y8, y9] ∧ SCore H H' n gs ds tl wd lt (bfs n gs (kk + i)) (kk + bs.length) ∧
          H' la = some (.lst (bs.map V.ref)) ∧ TupsAt H' bs ((keys (bfs n gs kk)).drop kk)) ⟨_, _, _, _, rfl, core9, hla9, hbs9⟩ (fun i σ H' _ h => ?_) ?_ ?_
      · obtain ⟨_, _, _, _, _, _, h, _⟩ := h
        exact SqL.of h
      · rintro i x σ Ha hx ⟨y6, y7, y8, y9, rfl, coa, hlaa, hbsa⟩
        rw [List.getElem?_map] at hx
        obtain ⟨b0, eb0, rfl⟩ := Option.map_eq_some_iff.mp hx
        have hib : i < bs.length := (List.getElem?_eq_some_iff.mp eb0).1
        obtain ⟨p, ep, hb0t⟩ := L2.paired_get hbsa eb0
        have hki : kk + i < (bfs n gs kk).length := by omega
        obtain ⟨⟨p', v⟩, epv0⟩ : ∃ e, (bfs n gs kk)[kk + i]? = some e := ⟨_, List.getElem?_eq_getElem hki⟩
        have epp : p' = p := by
          rw [List.getElem?_drop] at ep
          unfold keys at ep
          rw [List.getElem?_map, epv0] at ep
          exact Option.some.inj ep
        subst epp
        have hpre0 := bfs_pre n gs (show kk ≤ kk + i by omega)
        have epv : (bfs n gs (kk + i))[kk + i]? = some (p', v) := by
          obtain ⟨r, e⟩ := hpre0
          rw [← e, List.getElem?_append_left hki]
          exact epv0
        have hK := bfs_keys n gs (kk + i)
        have hpk : p' ∈ keys (bfs n gs (kk + i)) := List.mem_map.mpr ⟨_, List.mem_of_getElem? epv, rfl⟩
        have hplen : p'.length ≤ 1000 := by
          have h1 := pigeon (asc_nodup (hK.asc p' hpk)) (hK.lt p' hpk)
          omega
        refine ⟨_, rfl, tl, _, rfl, SqL.of coa.2.1, ?_⟩
        refine for_it (walk_enum (xs := ds.map V.ref)) (fun j σ H' => ∃ y7 y8 y9, σ = [some (.ref tl), some (.int (n : Int)), some (.ref fu), some (.ref wd), some (.ref la), some (.ref lt), some (.ref b0), y7, y8, y9] ∧ SCore H H' n gs ds tl wd lt (expTo n gs p' v (bfs n gs (kk + i)) j) (kk + bs.length) ∧
            H' la = some (.lst (bs.map V.ref)) ∧ TupsAt H' bs ((keys (bfs n gs kk)).drop kk) ∧ H' b0 = some (.tup (vints p'))) ⟨_, _, _, rfl, coa, hlaa, hbsa, hb0t⟩ (fun j σ H' _ h => ?_) ?_ ?_
        · obtain ⟨_, _, _, _, ⟨_, h, _⟩, _⟩ := h
          exact SqL.of h
        · rintro j x σ Hb Hc hj ⟨y7, y8, y9, rfl, co, hlab, hbsb, hbb⟩ ⟨T', a, b, rfl, nT, rfl, ea, eb⟩
          replace ea : some (V.int ((j : Nat) : Int)) = some a := ea
          replace eb : (ds.map V.ref)[j]? = some b := eb
          rw [List.getElem?_map] at eb
          obtain ⟨d, ed, rfl⟩ := Option.map_eq_some_iff.mp eb
          have ea' : V.int (j : Int) = a := Option.some.inj ea
          subst ea'
          have s10 : Same Hb (upd Hb T' (.tup [V.int (j : Int), .ref d])) := Same.upd nT
          obtain ⟨c1, c2, c3, c4c, c6c⟩ := co.same s10
          obtain ⟨g, eg, hd⟩ := TabsAt.get c3 ed
          have G : Good n g := S.good g (List.mem_of_getElem? eg)
          refine ⟨T', _, rfl, SqT.of upd_same, rfl, _, _, rfl, _, _, rfl, rfl, ?_⟩
          refine ⟨_, rfl, _, rfl, _, rfl, b0, d, p', n, g, rfl, .inr (SqT.of (s10 _ _ hbb)), hd, G, hplen, n3, fun Hd l s11 nl hl => ?_⟩
          have sbd : Same Hb Hd := s10.trans s11
          have co5 := co.same sbd
          obtain ⟨c1, c2, c3, ⟨kvs, c4, c5⟩, bs2, c6, c7⟩ := co5
          have hb5 := sbd _ _ hbb
          have hla5 := sbd _ _ hlab
          have hbs5 := TupsAt.keep (.of sbd) hbsb
          have hlk : Hd l = some (.tup ((ikeys (img n g p')).map kV)) := by rw [ikeys_kV]; exact hl
          refine ⟨_, rfl, _, rfl, wd, _, rfl, DGet.t c4 hlk, _, rfl, ?_⟩
          rw [c5.isSome]
          have esucc : expTo n gs p' v (bfs n gs (kk + i)) (j + 1) = put1 n (expTo n gs p' v (bfs n gs (kk + i)) j) p' v j g := expTo_succ eg
          by_cases hin : img n g p' ∈ keys (expTo n gs p' v (bfs n gs (kk + i)) j)
          · rw [decide_eq_true hin]
            refine iteF ⟨_, _, _, rfl, ?_, hla5, hbs5, hb5⟩
            rw [esucc]
            unfold put1
            rw [if_pos hin]
            exact ⟨c1, c2, c3, ⟨kvs, c4, c5⟩, bs2, c6, c7⟩
          · rw [decide_eq_false hin]
            have eput : put1 n (expTo n gs p' v (bfs n gs (kk + i)) j) p' v j g = expTo n gs p' v (bfs n gs (kk + i)) j ++ [(img n g p', v ++ [j])] := by
              unfold put1
              rw [if_neg hin]
            have hjg : j < gs.length := (List.getElem?_eq_some_iff.mp eg).1
            have hpre : expTo n gs p' v (bfs n gs (kk + i)) (j + 1) <+: bfs n gs (kk + i + 1) := by
              rw [expTo_bfs epv]
              exact expTo_pre n gs p' v _ hjg
            have hlen1 : (expTo n gs p' v (bfs n gs (kk + i)) j).length + 1 ≤ 2000 := by
              have h1 := hpre.length_le
              rw [esucc, eput, List.length_append, List.length_singleton] at h1
              exact Nat.le_trans h1 (S.bd _)
            refine iteT ?_
            have hkl : kvs.length = (expTo n gs p' v (bfs n gs (kk + i)) j).length := c5.len
            have hlook : lookW (expTo n gs p' v (bfs n gs (kk + i)) j) p' = some v := by
              rw [lookW_pre (expTo_pre n gs p' v (bfs n gs (kk + i)) (Nat.zero_le j)) hpk]
              exact lookW_mem hK.nd (List.mem_of_getElem? epv)
            obtain ⟨qv, ev, hqv⟩ := (c5.look p').1 v hlook
            have hbk : Hd b0 = some (.tup ((ikeys p').map kV)) := by rw [ikeys_kV]; exact hb5
            have hvlen : v.length ≤ 2000 := by
              have h1 := (bfs_words n gs kk _ (List.mem_of_getElem? epv0)).len
              have h3 : v.length ≤ kk := h1
              omega
            -- the step, given the new word's tuple
            have step : ∀ (He : Hp) (qn : Addr), Same Hd He → He qn = some (.tup (vints (v ++ [j]))) →
                SCore H (upd (upd He wd (.dT (putK kvs (ikeys (img n g p')) (.ref qn)))) lt (.lst (bs2.map V.ref ++ [.ref l]))) n gs ds tl wd lt (expTo n gs p' v (bfs n gs (kk + i)) (j + 1)) (kk + bs.length) ∧
                KeepT He (upd (upd He wd (.dT (putK kvs (ikeys (img n g p')) (.ref qn)))) lt (.lst (bs2.map V.ref ++ [.ref l]))) ∧ (upd He wd (.dT (putK kvs (ikeys (img n g p')) (.ref qn)))) lt = some (.lst (bs2.map V.ref)) ∧
                (upd (upd He wd (.dT (putK kvs (ikeys (img n g p')) (.ref qn)))) lt (.lst (bs2.map V.ref ++ [.ref l]))) la = some (.lst (bs.map V.ref)) := by
              intro He qn se hqn
              have c4' := se _ _ c4
              have c6' := se _ _ c6
              have hmk : kk + bs.length ≤ (expTo n gs p' v (bfs n gs (kk + i)) j).length := by
                have h1 := (expTo_pre n gs p' v (bfs n gs (kk + i)) (Nat.zero_le j)).length_le
                have h2 : (expTo n gs p' v (bfs n gs (kk + i)) 0).length = (bfs n gs (kk + i)).length := rfl
                have h3 := hpre0.length_le
                omega
              have cnew := SCore.put (m := kk + bs.length) nHwd nHlt htt (c1.trans se) (se _ _ c2) (c3.same se) c4' (c5.keep (.of se)) c6' (c7.keep (.of se)) (se _ _ hl) hqn hin hmk
              rw [← eput, ← esucc] at cnew
              have c6'' : (upd He wd (.dT (putK kvs (ikeys (img n g p')) (.ref qn)))) lt = some (.lst (bs2.map V.ref)) := by
                rw [upd_ne (ne_of c6' c4' (by intro z; cases z))]
                exact c6'
              refine ⟨cnew, (KeepT.dT c4').trans (.lst c6''), c6'', ?_⟩
              have hlae := se _ _ hla5
              rw [upd_ne hll, upd_ne (ne_of hlae c4' (by intro z; cases z))]
              exact hlae
            have hbs : bs2.length ≤ 2000 := by
              have h1 := Paired.length c7
              rw [List.length_drop] at h1
              unfold keys at h1
              rw [List.length_map] at h1
              omega
            -- found[more] = found[places] + (index,)
            have cont : ∀ (He : Hp) (qn : Addr), Same Hd He → He qn = some (.tup (vints (v ++ [j]))) → ∃ a H4, V.ref wd = .ref a ∧ DPut He a (.ref l) (.ref qn) H4 ∧ a = wd ∧ H4 = upd He wd (.dT (putK kvs (ikeys (img n g p')) (.ref qn))) := by
              intro He qn se hqn
              exact ⟨wd, _, rfl, DPut.t (k := ikeys (img n g p')) (se _ _ c4) (se _ _ hlk) (by rw [hkl]; exact Nat.lt_of_lt_of_le (show _ < 2001 by omega) (by decide)), rfl, rfl⟩
            refine ⟨_, rfl, _, rfl, wd, .ref qv, rfl, ?_, _, rfl, by show 1 ≤ sizeLine; decide, fun bn nbn => ?_⟩
            · have e := DGet.t (k := ikeys p') c4 hbk
              rw [ev] at e
              exact e
            have s12 : Same Hd (upd Hd bn (.tup [V.int (j : Int)])) := Same.upd nbn
            refine ⟨qv, bn, vints v, [V.int (j : Int)], rfl, rfl, SqT.of (s12 _ _ hqv), SqT.of upd_same, ?_, ?_, ?_, ?_⟩
            · rw [List.length_map]
              show v.length + 1 ≤ sizeLine
              exact Nat.le_trans (show v.length + 1 ≤ 2001 by omega) (by decide)
            · intro hv0
              have hv1 : v = [] := List.map_eq_nil_iff.mp hv0
              subst hv1
              obtain ⟨st1, st2, st3, st4⟩ := step _ bn s12 upd_same
              obtain ⟨a, H4, ea, hput, rfl, rfl⟩ := cont _ bn s12 upd_same
              refine ⟨_, rfl, _, rfl, a, _, rfl, hput, ?_⟩
              refine ⟨_, rfl, .inl ⟨rfl, _, SqL.of st3⟩, _, rfl, lt, _, _, rfl, rfl, st3, ?_, _, _, _, rfl, st1, st4, TupsAt.keep st2 (TupsAt.keep (.of s12) hbs5), st2.1 _ _ (s12 _ _ hb5)⟩
              rw [List.length_map]
              exact Nat.lt_of_le_of_lt hbs (by decide)
            · intro _ h
              cases h
            · intro _ _ qn nqn
              rw [vints_snoc]
              have s13 := s12.upd2 (o := .tup (vints (v ++ [j]))) nqn
              obtain ⟨st1, st2, st3, st4⟩ := step _ qn s13 upd_same
              obtain ⟨a, H4, ea, hput, rfl, rfl⟩ := cont _ qn s13 upd_same
              refine ⟨_, rfl, _, rfl, a, _, rfl, hput, ?_⟩
              refine ⟨_, rfl, .inl ⟨rfl, _, SqL.of st3⟩, _, rfl, lt, _, _, rfl, rfl, st3, ?_, _, _, _, rfl, st1, st4, TupsAt.keep st2 (TupsAt.keep (.of s13) hbs5), st2.1 _ _ (s13 _ _ hb5)⟩
              rw [List.length_map]
              exact Nat.lt_of_le_of_lt hbs (by decide)
        · rintro σ Hb ⟨y7, y8, y9, rfl, co, hlab, hbsb, hbb⟩
          have e : (ds.map V.ref).length = gs.length := by
            rw [List.length_map]
            exact Paired.length hds
          rw [e, ← expTo_bfs epv] at co
          exact ⟨_, _, _, _, rfl, co, hlab, hbsb⟩
      · rintro σ Ha ⟨y6, y7, y8, y9, rfl, coa, hlaa, hbsa⟩
        rw [List.length_map] at coa
        exact ⟨_, rfl, _, _, _, _, _, _, rfl, coa⟩
end
end K57
end

section
set_option Elab.async false
set_option linter.all false
set_option maxRecDepth 100000
set_option maxHeartbeats 4000000
namespace K57
open PySem PySem.Spec PyProof.Rows L2 StX ClX
/-! _law_is_list, _law_is -/
theorem eqv_ints : ∀ p q : List Nat, PyData.eqvAll (intsD p) (intsD q) = decide (p = q)
  | [], [] => rfl
  | [], _ :: _ => rfl
  | _ :: _, [] => rfl
  | a :: p, b :: q => by
    show ((a : Int) == (b : Int) && PyData.eqvAll (intsD p) (intsD q)) = _
    rw [eqv_ints p q]
    by_cases c : a = b
    · subst c
      rw [beq_self_eq_true, Bool.true_and]
      exact decide_eq_decide.mpr ⟨fun h => by rw [h], fun h => (List.cons.inj h).2⟩
    · rw [show ((a : Int) == (b : Int)) = false from beq_eq_false_iff_ne.mpr (by omega), Bool.false_and]
      exact (decide_eq_false fun h => c (List.cons.inj h).1).symm
theorem eqv_lstD (p q : List Nat) : PyData.eqv (lstD p) (lstD q) = decide (p = q) := eqv_ints p q
theorem any_lstD (p : List Nat) : ∀ vs : List (List Nat), ((vs.map lstD).any fun z => PyData.eqv z (lstD p)) = decide (p ∈ vs)
  | [] => (decide_eq_false (by intro h; cases h)).symm
  | q :: vs => by
    rw [List.map_cons, List.any_cons, any_lstD p vs, eqv_lstD]
    by_cases c : q = p
    · rw [decide_eq_true c, Bool.true_or, decide_eq_true (show p ∈ q :: vs by rw [c]; exact List.mem_cons_self)]
    · rw [decide_eq_false c, Bool.false_or]
      exact decide_eq_decide.mpr ⟨fun h => List.mem_cons_of_mem _ h, fun h => (List.mem_cons.mp h).resolve_left fun e => c e.symm⟩
theorem lsts_lay : ∀ vs : List (List Nat), PyData.canLayAll0 (vs.map lstD) = true
  | [] => rfl
  | p :: vs => by
    show (PyData.canLayAll0 (intsD p) && PyData.canLayAll0 (vs.map lstD)) = true
    rw [lsts_lay vs, ints_lay p]
    rfl
theorem lsts_depth : ∀ vs : List (List Nat), PyData.depthAll (vs.map lstD) ≤ 2
  | [] => by decide
  | p :: vs => by
    show max (PyData.depthAll (intsD p) + 1) (PyData.depthAll (vs.map lstD)) ≤ 2
    have := ints_depth p
    exact Nat.max_le.mpr ⟨by omega, lsts_depth vs⟩
theorem lsts_shaped (vs : List (List Nat)) : SeqAt.shaped (.list (vs.map lstD)) = true := by
  have h1 := lsts_lay vs
  have h2 := lsts_depth vs
  show (PyData.canLayAll0 (vs.map lstD) && decide (PyData.depthAll (vs.map lstD) + 1 ≤ 64)) = true
  rw [h1, decide_eq_true (by omega)]
  rfl
abbrev rLeI : R2 := rI0 fun i j => .bl (decide (i ≤ j))
abbrev rLtI : R2 := rI0 fun i j => .bl (decide (i < j))
abbrev rGeI : R2 := rI0 fun i j => .bl (decide (j ≤ i))
abbrev rSubI : R2 := rI0 fun i j => .int (i - j)
def ttBad (K : PySem.W.Frag) : TT := tOr (tNot (tB (tCB (rIsi K) (tCons (tVar 2) (tCons (tC (.ty "int")) tNil))))) (tOr (tB (tCB (rIsi K) (tCons (tVar 2) (tCons (tC (.ty "bool")) tNil)))) (tNot (tTest (tChain rLeI rLtI (tC (.int 0)) (tVar 2) (tVar 1)))))
def ttDown (K : PySem.W.Frag) : TT := tTest (tOp rGeI (tOp (rIxL K) (tVar 0) (tOp rSubI (tVar 3) (tC (.int 1)))) (tOp (rIxL K) (tVar 0) (tVar 3)))
theorem ttBad_run {K : PySem.W.Frag} {σ : L2.St} {H : Hp} {x : V} {d : PyData} {n : Nat} {Q : Bool → Hp → Prop} (h2 : σ[2]? = some (some x)) (h1 : σ[1]? = some (some (.int (n : Int)))) (hd : Dp K H x d) (q : Q (!inD n d) H) : ttBad K σ H Q := by
  refine ⟨x, h2, x, _, _, _, _, rfl, .ty "int", dp_ty hd, kint (dp_ty hd), _, rfl, ?_⟩
  cases hd with
  | non => exact iteT q
  | str z => exact iteT q
  | lst _ _ => exact iteT q
  | tup _ _ => exact iteT q
  | bl b =>
    refine iteF ⟨_, h2, _, _, _, _, _, rfl, .ty "bool", .base (.bl b), kbool (H := H) (.base (.bl b)), _, rfl, iteT q⟩
  | int i =>
    refine iteF ⟨_, h2, _, _, _, _, _, rfl, .ty "bool", .base (.int i), kbool (H := H) (.base (.int i)), _, rfl, iteF ?_⟩
    refine ⟨_, h2, 0, i, rfl, rfl, _, rfl, ?_⟩
    have e : inD n (.int i) = (decide (0 ≤ i) && decide (i < (n : Int))) := by
      show (decide (0 ≤ i) && decide (i ≤ (n : Int) - 1)) = _
      congr 1
      exact decide_eq_decide.mpr (by omega)
    rw [e] at q
    cases hc : decide ((0 : Int) ≤ i) with
    | true =>
      rw [hc, Bool.true_and] at q
      exact iteT ⟨_, h1, i, n, rfl, rfl, _, rfl, q⟩
    | false =>
      rw [hc, Bool.false_and] at q
      exact iteF ⟨_, rfl, q⟩
section
variable {P : Program} {w : World} {K : PySem.W.Frag} {mg : Str → Option Value} {base : Heap} {k : Nat}
abbrev nmLIsList : List Str := ["_law_value", "_law_size", "_law_one", "_law_at"]
theorem scLIsList : FnScope nmLIsList ["_law_value", "_law_size"] (defScope (top 50)) := ⟨rfl, rfl, rfl, by decide +kernel, rfl, by decide +kernel, by decide +kernel⟩
theorem ok_lIsList (T : TX K mg) : Fn0 P w K mg base (k + 1) T.a_lIsList (spIsSet K) := by
  refine T.d_lIsList.ok scLIsList (fun vs H Q E h => ?_) (fun cdv A outer s H vs Q E hr h => ?_)
  · obtain ⟨x, n, d, rfl, _⟩ := h
    rfl
  · obtain ⟨x, n, d, rfl, hx, hlen, q⟩ := h
    have hu0 := hr.units0
    refine ⟨_, pss_cons (ps_if (PW.pt (pw_or (pt_not (pt_val (pe_callB call_isi rfl T.z_isinstance boot_isinstance (pa_cons (pv 0) (pa_cons (pe_bltn (v := .ty "list") rfl T.z_list boot_list rfl) pa_nil)))))
        (pw_or1 (pt_cmpR (op_eqNil hu0) (pv 0) (pe_lst pa_nil) (nomark _))))) (pss_one (ps_ret pe_bl)) pss_nil)
      (pss_cons (ps_if (pt_cmpR (op_neNil hu0) (pe_lc (own := [("_law_one", 2)]) (g := gName 2) (tt := ttBad K) rfl scLIsList.nd (pi_list (pv 0)) (blkOk_by (N := nmLIsList) (sc := defScope (top 50)) (by decide +kernel)) (fun s H C cl fp => pg_name (i := 2) scLIsList.nd rfl (.inl rfl))
          (fun s H C cl fp => pts_one (PW.pt (pw_or (pt_not (pt_val (pe_callB call_isi rfl T.z_isinstance boot_isinstance (pa_cons (pv 2) (pa_cons (pe_bltn (v := .ty "int") rfl T.z_int boot_int rfl) pa_nil)))))
            (pw_or (pt_val (pe_callB call_isi rfl T.z_isinstance boot_isinstance (pa_cons (pv 2) (pa_cons (pe_bltn (v := .ty "bool") rfl T.z_bool boot_bool rfl) pa_nil))))
            (pw_or1 (pt_not (pt_chain op_le op_lt pe_int (pv 2) (pv 1)))))))) (fun s H C cl fp => pv 2)) (pe_lst pa_nil) (nomark _)) (pss_one (ps_ret pe_bl)) pss_nil)
      (pss_one (ps_ret (pe_cmpR (op_eqNil hu0) (pe_lc (own := [("_law_at", 3)]) (g := gName 3) (tt := ttDown K) rfl scLIsList.nd (pi_range2 rfl T.z_range (pa_cons pe_int (pa_cons (pe_callB call_len_seq rfl T.z_len PySem.boot_len (pa_cons (pv 0) pa_nil)) pa_nil)))
          (blkOk_by (N := nmLIsList) (sc := defScope (top 50)) (by decide +kernel)) (fun s H C cl fp => pg_name (i := 3) scLIsList.nd rfl (.inl rfl))
          (fun s H C cl fp => pts_one (pt_cmpR op_ge (pe_ix ix_list (pv 0) (pe_op op_sub (pv 3) pe_int) (fun _ _ => rfl)) (pe_ix ix_list (pv 0) (pv 3) (fun _ _ => rfl)) (nomark _))) (fun s H C cl fp => pv 3)) (pe_lst pa_nil) (nomark _))))), ?_⟩
    refine ⟨x, rfl, x, _, _, _, _, rfl, .ty "list", dp_ty hx, kit_list d, _, rfl, ?_⟩
    cases hx with
    | non => exact iteT (iteT (q H (.refl H)))
    | bl b => exact iteT (iteT (q H (.refl H)))
    | int i => exact iteT (iteT (q H (.refl H)))
    | str z => exact iteT (iteT (q H (.refl H)))
    | tup h r => exact iteT (iteT (q H (.refl H)))
    | @lst a xs ds hL hA =>
    refine iteF ?_
    have hlen := hlen ds rfl
    have hxl := dpAll_len hA
    refine ⟨_, rfl, Nat.zero_le _, fun pe npe => ?_⟩
    have s1 : Same H (upd H pe (.lst [])) := Same.upd npe
    refine ⟨a, pe, xs, rfl, rfl, s1.seq hL, SqL.of upd_same, _, rfl, ?_⟩
    cases hxs : xs.isEmpty with
    | true =>
      refine iteT ?_
      have e : xs = [] := List.isEmpty_iff.mp hxs
      subst e
      cases hA
      exact q _ s1
    | false =>
    refine iteF ?_
    refine ⟨_, rfl, a, rfl, ⟨_, s1.seq hL⟩, fun D nD => ?_⟩
    refine lc_list (K := K) (a := a) (xs := xs) (fun i H' => ∃ acc, H' D = some (.lst acc) ∧ acc.length ≤ i ∧ acc.isEmpty = (ds.take i).all (inD n) ∧ SameX D (upd H pe (.lst [])) H') ⟨[], upd_same, Nat.le_refl _, rfl, (Same.upd nD).x⟩ (fun i H' _ h => ?_) ?_ ?_
    · obtain ⟨_, _, _, _, h⟩ := h
      have s2 : Same (upd H pe (.lst [])) H' := fun b o e => h b o (ne_of_none e nD) e
      exact s2.seq (s1.seq hL)
    · rintro i v H2 hv ⟨acc, hD, hal, hae, sx⟩
      obtain ⟨d, ed, hd⟩ := dpAll_get hA hv
      have hi : i < xs.length := (List.getElem?_eq_some_iff.mp hv).1
      have s2 : Same H H2 := s1.trans fun b o e => sx b o (ne_of_none e nD) e
      have hd2 := dp_same s2 d v hd
      refine ⟨rfl, ttBad_run (x := v) (n := n) rfl rfl hd2 ?_⟩
      have et : (ds.take (i + 1)).all (inD n) = ((ds.take i).all (inD n) && inD n d) := by
        rw [take_snoc ed, List.all_append]
        simp
      cases hc : inD n d with
      | true =>
        refine iteF ⟨acc, hD, by omega, ?_, sx⟩
        rw [et, hc, Bool.and_true]
        exact hae
      | false =>
        refine iteT ⟨v, rfl, acc, hD, small1000 (by omega), acc ++ [v], upd_same, ?_, ?_, sx.updx⟩
        · rw [List.length_append, List.length_singleton]
          omega
        · rw [et, hc, Bool.and_false]
          cases acc <;> rfl
    rintro H2 ⟨acc, hD, hal, hae, sx⟩
    rw [hxl, List.take_length] at hae
    have s2 : Same H H2 := s1.trans fun b o e => sx b o (ne_of_none e nD) e
    refine ⟨Nat.zero_le _, fun pe2 npe2 => ?_⟩
    have s3 : Same H2 (upd H2 pe2 (.lst [])) := Same.upd npe2
    refine ⟨D, pe2, acc, rfl, rfl, SqL.of (s3 _ _ hD), SqL.of upd_same, _, rfl, ?_⟩
    show if (!acc.isEmpty) = true then _ else _
    rw [hae, ← natsD_iff]
    cases hn : natsD n ds with
    | none =>
      refine iteT ?_
      have e : (setOf n (.list ds)).isSome = false := by
        unfold setOf
        simp only [hn]
        rfl
      rw [e] at q
      exact q _ (s2.trans s3)
    | some p =>
    refine iteF ?_
    obtain ⟨e1, e2⟩ := natsD_some hn
    subst e1
    have e3 := dpAll_vints hA
    subst e3
    have hpl : p.length ≤ 1000 := by rwa [List.length_map] at hlen
    have sH := s2.trans s3
    refine ⟨_, rfl, a, vints p, rfl, .inl (sH.seq hL), 1, ((vints p).length : Nat), rfl, ⟨by decide, by decide, by omega, by rw [List.length_map]; omega⟩, fun D2 nD2 => ?_⟩
    have ern : ((((vints p).length : Nat) : Int) - 1).toNat = p.length - 1 := by
      rw [List.length_map]
      omega
    rw [ern]
    refine lc_it walk_range (fun i H' => ∃ acc, H' D2 = some (.lst acc) ∧ acc.length ≤ i ∧ acc.isEmpty = ((p.zip p.tail).take i).all (fun ab => decide (ab.1 < ab.2)) ∧ SameX D2 (upd H2 pe2 (.lst [])) H')
      ⟨[], upd_same, Nat.le_refl _, rfl, (Same.upd nD2).x⟩ (fun _ _ _ _ => trivial) ?_ ?_
    · rintro i x H3 H4 hi ⟨acc, hD2, hal, hae, sx2⟩ ⟨rfl, rfl⟩
      have s4 : Same (upd H2 pe2 (.lst [])) H4 := fun b o e => sx2 b o (ne_of_none e nD2) e
      have hS := (sH.trans s4).seq hL
      have h1 : i < p.length := by omega
      have h2 : i < p.tail.length := by rw [List.length_tail]; omega
      have f1 : p[i]? = some p[i] := List.getElem?_eq_getElem h1
      have f2 : p.tail[i]? = some p.tail[i] := List.getElem?_eq_getElem h2
      have f3 : p[i + 1]? = some p.tail[i] := by rw [← f2, List.getElem?_tail]
      have ez : (p.zip p.tail)[i]? = some (p[i], p.tail[i]) := by
        rw [List.getElem?_zip_eq_some]
        exact ⟨f1, f2⟩
      refine ⟨rfl, ?_⟩
      refine ⟨_, rfl, _, rfl, _, 1, rfl, rfl, a, vints p, ((i : Nat) : Int), V.int (p[i] : Int), rfl, ?_, hS, atI_nat (by rw [List.getElem?_map, f1]; rfl), _, rfl, _, rfl, a, vints p, ((i + 1 : Nat) : Int), V.int (p.tail[i] : Int), rfl, ?_, hS, atI_nat (by rw [List.getElem?_map, f3]; rfl), _, _, rfl, rfl, _, rfl, ?_⟩
      · show V.int (1 + (i : Int) - 1) = V.int (i : Int)
        congr 1
        omega
      · show V.int (1 + (i : Int)) = V.int ((i + 1 : Nat) : Int)
        congr 1
        omega
      have et : ((p.zip p.tail).take (i + 1)).all (fun ab => decide (ab.1 < ab.2)) = (((p.zip p.tail).take i).all (fun ab => decide (ab.1 < ab.2)) && decide (p[i] < p.tail[i])) := by
        rw [take_snoc ez, List.all_append]
        simp
      by_cases hc : p[i] < p.tail[i]
      · rw [decide_eq_false (show ¬ ((p.tail[i] : Nat) : Int) ≤ ((p[i] : Nat) : Int) by omega)]
        refine iteF ⟨acc, hD2, by omega, ?_, sx2⟩
        rw [et, decide_eq_true hc, Bool.and_true]
        exact hae
      · rw [decide_eq_true (show ((p.tail[i] : Nat) : Int) ≤ ((p[i] : Nat) : Int) by omega)]
        refine iteT ⟨_, rfl, acc, hD2, small1000 (by omega), acc ++ [_], upd_same, ?_, ?_, sx2.updx⟩
        · rw [List.length_append, List.length_singleton]
          omega
        · rw [et, decide_eq_false hc, Bool.and_false]
          cases acc <;> rfl
    · rintro H3 ⟨acc, hD2, hal, hae, sx2⟩
      have s4 : Same (upd H2 pe2 (.lst [])) H3 := fun b o e => sx2 b o (ne_of_none e nD2) e
      have etake : (p.zip p.tail).take (p.length - 1) = p.zip p.tail := by
        refine List.take_of_length_le ?_
        rw [List.length_zip, List.length_tail]
        omega
      rw [etake] at hae
      refine ⟨Nat.zero_le _, fun pe3 npe3 => ?_⟩
      have s5 : Same H3 (upd H3 pe3 (.lst [])) := Same.upd npe3
      refine ⟨D2, pe3, acc, rfl, rfl, SqL.of (s5 _ _ hD2), SqL.of upd_same, ?_⟩
      show Q (.bl acc.isEmpty) _
      have e4 : acc.isEmpty = (setOf n (.list (intsD p))).isSome := by
        rw [hae]
        unfold setOf
        simp only [hn]
        have e5 : p.isEmpty = false := by
          cases p with
          | nil => cases hxs
          | cons a b => rfl
        rw [e5]
        show ascB p = _
        cases ascB p <;> rfl
      rw [e4]
      exact q _ ((sH.trans s4).trans s5)
def spLIs (K : PySem.W.Frag) : Sp := fun vs H Q _ => ∃ tl n gs ds x d, vs = [.ref tl, .int ((n : Nat) : Int), x] ∧ H tl = some (.lst (ds.map V.ref)) ∧ TabsAt H n ds gs ∧ FamOk n gs ∧ RdD K H x d ∧ ShortD d ∧ ∀ H', Same H H' → Q (.bl (isHoldD n gs d)) H'
def ttOut (K : PySem.W.Frag) : TT := tTest (tOp (rNotInD K) (tCB (rListOf K) (tCons (tC0 (spLImage K) (tCons (tVar 3) (tCons (tVar 5) (tCons (tVar 1) tNil)))) tNil)) (tVar 2))
abbrev nmLIs : List Str := ["_law_tables", "_law_size", "_law_value", "_law_places", "_law_one", "_law_table"]
theorem scLIs : FnScope nmLIs ["_law_tables", "_law_size", "_law_value"] (defScope (top 51)) := ⟨rfl, rfl, rfl, by decide +kernel, rfl, by decide +kernel, by decide +kernel⟩
theorem ok_lIs (T : TX K mg) : Fn0 P w K mg base (k + 2) T.a_lIs (spLIs K) := by
  refine T.d_lIs.ok scLIs (fun vs H Q E h => ?_) (fun cdv A outer s H vs Q E hr h => ?_)
  · obtain ⟨tl, n, gs, ds, x, d, rfl, _⟩ := h
    rfl
  · obtain ⟨tl, n, gs, ds, x, d, rfl, htl, hds, S, hx, hsh, q⟩ := h
    have hu0 := hr.units0
    have hu65 : (A.deeper (envOfC "_law_is" (defScope (top 51)) s.heap.objs.size T.a_lIs cdv)).units + 65 < cLine := by
      have := hr.un
      omega
    refine ⟨_, pss_cons (ps_if (PW.pt (pw_or (pt_not (pt_val (pe_callB call_isi rfl T.z_isinstance boot_isinstance (pa_cons (pv 2) (pa_cons (pe_bltn (v := .ty "list") rfl T.z_list boot_list rfl) pa_nil)))))
        (pw_or1 (pt_cmpR (op_neNil hu0) (pe_lc (own := [("_law_one", 4)]) (g := gName 4) (tt := tNot (tB (tC0 (spIsSet K) (tCons (tVar 4) (tCons (tVar 1) tNil))))) rfl scLIs.nd (pi_list (pv 2)) (blkOk_by (N := nmLIs) (sc := defScope (top 51)) (by decide +kernel)) (fun s H C cl fp => pg_name (i := 4) scLIs.nd rfl (.inl rfl))
          (fun s H C cl fp => pts_one (pt_not (pt_val (pe_cR (ok_lIsList (k := 0) T) (hr.mono (by omega)) rfl T.m_lIsList T.d_lIsList.kp (pa_cons (pv 4) (pa_cons (pv 1) pa_nil)))))) (fun s H C cl fp => pv 4)) (pe_lst pa_nil) (nomark _))))) (pss_one (ps_ret pe_bl)) pss_nil)
      (pss_cons (ps_if (pt_cmpR (op_notInD hu65) (pe_listRg rfl rfl T.z_list (prg_1 rfl T.z_range (pv 1))) (pv 2) (by with_unfolding_all rfl)) (pss_one (ps_ret pe_bl)) pss_nil)
      (pss_cons (ps_for PassesOwn.never rfl (pi_list (pv 2)) (pg_name (i := 3) scLIs.nd rfl (.inr rfl))
        (pss_one (ps_if (pt_cmpR (op_neNil hu0) (pe_lc (own := [("_law_table", 5)]) (g := gName 5) (tt := ttOut K) rfl scLIs.nd (pi_list (pv 0)) (blkOk_by (N := nmLIs) (sc := defScope (top 51)) (by decide +kernel)) (fun s H C cl fp => pg_name (i := 5) scLIs.nd rfl (.inl rfl))
          (fun s H C cl fp => pts_one (pt_cmpR (op_notInD hu65) (pe_callTy call_listOf rfl T.z_list boot_list (pa_cons (pe_cR (ok_lImage (k := 0) T) (hr.mono (by omega)) rfl T.m_lImage T.d_lImage.kp (pa_cons (pv 3) (pa_cons (pv 5) (pa_cons (pv 1) pa_nil)))) pa_nil)) (pv 2) (by with_unfolding_all rfl))) (fun s H C cl fp => pv 5))
            (pe_lst pa_nil) (nomark _)) (pss_one (ps_ret pe_bl)) pss_nil)))
      (pss_one (ps_ret pe_bl)))), ?_⟩
    have tyx : ∃ t b, TyX K H x (.type t) ∧ PySem.W.kitOne K (.type t) (.type "list") = some b ∧ b = isL d := by
      rcases hx with hx | ⟨a, rfl, ha, rfl⟩
      · exact ⟨_, _, dp_ty hx, kit_list d, rfl⟩
      · exact ⟨_, _, .base (.dK ha), kit_list (.dict []), rfl⟩
    obtain ⟨t, b, tx, kt, eb⟩ := tyx
    refine ⟨x, rfl, x, _, _, _, _, rfl, .ty "list", tx, kt, _, rfl, ?_⟩
    rw [eb]
    cases hl : isL d with
    | false =>
      refine iteT ?_
      have e : isHoldD n gs d = false := by
        cases d <;> first | rfl | cases hl
      rw [e] at q
      exact iteT (q H (.refl H))
    | true =>
    refine iteF ?_
    obtain ⟨es, rfl⟩ : ∃ es, d = .list es := by
      cases d <;> first | exact ⟨_, rfl⟩ | cases hl
    have hx : Dp K H x (.list es) := by
      rcases hx with hx | ⟨a, _, _, e⟩
      · exact hx
      · cases e
    obtain ⟨hel, hds'⟩ := hsh es rfl
    cases hx with
    | @lst a xs _ hL hA =>
    have hxl := dpAll_len hA
    refine ⟨_, rfl, a, rfl, ⟨_, hL⟩, fun D nD => ?_⟩
    refine lc_list (K := K) (a := a) (xs := xs) (fun i H' => ∃ acc, H' D = some (.lst acc) ∧ acc.length ≤ i ∧ acc.isEmpty = (es.take i).all (fun e => (setOf n e).isSome) ∧ SameX D H H') ⟨[], upd_same, Nat.le_refl _, rfl, (Same.upd nD).x⟩ (fun i H' _ h => ?_) ?_ ?_
    · obtain ⟨_, _, _, _, h⟩ := h
      have s2 : Same H H' := fun b o e => h b o (ne_of_none e nD) e
      exact s2.seq hL
    · rintro i v H2 hv ⟨acc, hD, hal, hae, sx⟩
      obtain ⟨e, ee, he⟩ := dpAll_get hA hv
      have hi : i < xs.length := (List.getElem?_eq_some_iff.mp hv).1
      have s2 : Same H H2 := fun b o e => sx b o (ne_of_none e nD) e
      have he2 := dp_same s2 e v he
      have et : (es.take (i + 1)).all (fun e => (setOf n e).isSome) = ((es.take i).all (fun e => (setOf n e).isSome) && (setOf n e).isSome) := by
        rw [take_snoc ee, List.all_append]
        simp
      refine ⟨rfl, _, rfl, _, rfl, v, n, e, rfl, he2, hds' e (List.mem_of_getElem? ee), fun H3 s3 => ⟨_, rfl, ?_⟩⟩
      cases hc : (setOf n e).isSome with
      | true =>
        refine iteF ⟨acc, s3 _ _ hD, by omega, ?_, sx.trans s3.x⟩
        rw [et, hc, Bool.and_true]
        exact hae
      | false =>
        refine iteT ⟨v, rfl, acc, s3 _ _ hD, small1000 (by omega), acc ++ [v], upd_same, ?_, ?_, (sx.trans s3.x).updx⟩
        · rw [List.length_append, List.length_singleton]
          omega
        · rw [et, hc, Bool.and_false]
          cases acc <;> rfl
    rintro H1 ⟨acc, hD, hal, hae, sx⟩
    rw [hxl, List.take_length, ← setsOf_iff] at hae
    have s1 : Same H H1 := fun b o e => sx b o (ne_of_none e nD) e
    refine ⟨Nat.zero_le _, fun pe npe => ?_⟩
    have s2 : Same H1 (upd H1 pe (.lst [])) := Same.upd npe
    refine ⟨D, pe, acc, rfl, rfl, SqL.of (s2 _ _ hD), SqL.of upd_same, _, rfl, ?_⟩
    show if (!acc.isEmpty) = true then _ else _
    rw [hae]
    cases hn : setsOf n es with
    | none =>
      have e : isHoldD n gs (.list es) = false := by
        unfold isHoldD
        simp only [hn]
      rw [e] at q
      exact iteT (q _ (s1.trans s2))
    | some vs =>
    refine iteF ?_
    obtain ⟨e1, hvs⟩ := setsOf_some hn
    subst e1
    have hvl : vs.length ≤ 1000 := by rwa [List.length_map] at hel
    have hxl : xs.length = vs.length := by rw [hxl, List.length_map]
    have eH : isHoldD n gs (.list (vs.map lstD)) = (decide (List.range n ∈ vs) && vs.all fun p => gs.all fun g => decide (img n g p ∈ vs)) := by
      show (match setsOf n (vs.map lstD) with
        | some vs => decide (List.range n ∈ vs) && vs.all fun p => gs.all fun g => decide (img n g p ∈ vs)
        | none => false) = _
      rw [hn]
    rw [eH] at q
    have hplen : ∀ p ∈ vs, p.length ≤ 300 := fun p hp => by
      have h1 := pigeon (asc_nodup (hvs p hp).2.1) (hvs p hp).1
      have := S.n3
      omega
    have n1 := S.n1
    have n3 := S.n3
    have sH := s1.trans s2
    generalize upd H1 pe (.lst []) = H2 at sH ⊢
    have efull : rgV 0 (n : Int) = vints (List.range n) := by
      unfold rgV
      rw [show ((n : Int) - 0).toNat = n by omega]
      refine List.map_congr_left fun i _ => ?_
      rw [Int.zero_add]
    have dval : ∀ {H' : Hp}, Same H H' → Dp K H' (.ref a) (.list (vs.map lstD)) := fun s => dp_same s _ _ (.lst hL hA)
    refine ⟨_, rfl, _, rfl, ⟨by decide, by decide, by omega, by omega, by omega⟩, fun fu nfu => ?_⟩
    rw [efull]
    have s3 : Same H2 (upd H2 fu (.lst (vints (List.range n)))) := Same.upd nfu
    have hfu : (upd H2 fu (.lst (vints (List.range n)))) fu = some (.lst (vints (List.range n))) := upd_same
    replace sH := sH.trans s3
    generalize upd H2 fu (.lst (vints (List.range n))) = H3 at sH hfu ⊢
    refine ⟨_, rfl, lstD (List.range n), vs.map lstD, .lst (SqL.of hfu) (dpAll_ints _), dval sH, lstD_shaped _, lsts_shaped _, _, rfl, ?_⟩
    rw [any_lstD]
    by_cases hfull : List.range n ∈ vs
    · rw [decide_eq_true hfull] at q ⊢
      rw [Bool.true_and] at q
      refine iteF ?_
      refine ⟨_, rfl, a, rfl, ⟨_, sH.seq hL⟩, ?_⟩
      refine for_list (K := K) (a := a) (xs := xs) (fun i σ H' => ∃ y, σ = [some (.ref tl), some (.int (n : Int)), some (.ref a), y, none, none] ∧ Same H H' ∧ ∀ p ∈ vs.take i, ∀ g ∈ gs, img n g p ∈ vs) ⟨_, rfl, sH, fun p hp => by cases hp⟩ (fun i σ H' _ h => ?_) ?_ ?_
      · obtain ⟨_, _, h, _⟩ := h
        exact h.seq hL
      · rintro i v σ H4 hv ⟨y, rfl, s4, hall⟩
        obtain ⟨p, a', ep, rfl, hp⟩ := dpAll_lst hA hv
        have hpm : p ∈ vs := List.mem_of_getElem? ep
        refine ⟨_, rfl, tl, rfl, ⟨_, SqL.of (s4 _ _ htl)⟩, fun D2 nD2 => ?_⟩
        refine lc_list (K := K) (a := tl) (xs := ds.map V.ref) (fun j H' => ∃ acc, H' D2 = some (.lst acc) ∧ acc.length ≤ j ∧ (acc.isEmpty = true ↔ ∀ g ∈ gs.take j, img n g p ∈ vs) ∧ SameX D2 H4 H') ⟨[], upd_same, Nat.le_refl _, ⟨fun _ g hg => (by cases hg), fun _ => rfl⟩, (Same.upd nD2).x⟩ (fun j H' _ h => ?_) ?_ ?_
        · obtain ⟨_, _, _, _, h⟩ := h
          have s5 : Same H4 H' := fun b o e => h b o (ne_of_none e nD2) e
          exact SqL.of (s5 _ _ (s4 _ _ htl))
        · rintro j z H5 hz ⟨acc, hD2, hal, hae, sx2⟩
          rw [List.getElem?_map] at hz
          obtain ⟨d, ed, rfl⟩ := Option.map_eq_some_iff.mp hz
          have s5 : Same H H5 := s4.trans fun b o e => sx2 b o (ne_of_none e nD2) e
          obtain ⟨g, eg, hd⟩ := TabsAt.get (hds.same s5) ed
          have hjg : j < gs.length := (List.getElem?_eq_some_iff.mp eg).1
          have hfew := S.few
          refine ⟨rfl, ?_⟩
          have h300 := hplen p hpm
          refine ⟨_, rfl, _, rfl, _, rfl, a', d, p, n, g, rfl, .inl (s5.seq hp), hd, S.good g (List.mem_of_getElem? eg), by omega, n3, fun H6 l s6 nl hl => ?_⟩
          refine ⟨l, _, rfl, .inr (SqT.of hl), fun l2 nl2 => ?_⟩
          have s7 := s6.upd2 (o := .lst (vints (img n g p))) nl2
          have s7H := s5.trans s7
          refine ⟨_, rfl, lstD (img n g p), vs.map lstD, .lst (SqL.of upd_same) (dpAll_ints _), dval s7H, lstD_shaped _, lsts_shaped _, _, rfl, ?_⟩
          rw [any_lstD]
          have et : (∀ g' ∈ gs.take (j + 1), img n g' p ∈ vs) ↔ (∀ g' ∈ gs.take j, img n g' p ∈ vs) ∧ img n g p ∈ vs := by
            rw [take_snoc eg]
            constructor
            · exact fun h => ⟨fun g' hg' => h g' (List.mem_append.mpr (.inl hg')), h g (List.mem_append.mpr (.inr (List.mem_singleton.mpr rfl)))⟩
            · rintro ⟨h1, h2⟩ g' hg'
              rcases List.mem_append.mp hg' with h | h
              · exact h1 g' h
              · rw [List.mem_singleton] at h
                rw [h]
                exact h2
          by_cases hc : img n g p ∈ vs
          · rw [decide_eq_true hc]
            refine iteF ⟨acc, s7 _ _ hD2, by omega, ?_, sx2.trans s7.x⟩
            rw [et, hae]
            exact ⟨fun h => ⟨h, hc⟩, fun h => h.1⟩
          · rw [decide_eq_false hc]
            refine iteT ⟨_, rfl, acc, s7 _ _ hD2, small1000 (by omega), acc ++ [_], upd_same, ?_, ?_, (sx2.trans s7.x).updx⟩
            · rw [List.length_append, List.length_singleton]
              omega
            · rw [et]
              constructor
              · intro h
                cases acc <;> cases h
              · exact fun h => absurd h.2 hc
        rintro H5 ⟨acc, hD2, hal, hae, sx2⟩
        have eds : (ds.map V.ref).length = gs.length := by
          rw [List.length_map]
          exact Paired.length hds
        rw [eds, List.take_length] at hae
        have s5 : Same H4 H5 := fun b o e => sx2 b o (ne_of_none e nD2) e
        refine ⟨Nat.zero_le _, fun pe2 npe2 => ?_⟩
        have s6 : Same H5 (upd H5 pe2 (.lst [])) := Same.upd npe2
        refine ⟨D2, pe2, acc, rfl, rfl, SqL.of (s6 _ _ hD2), SqL.of upd_same, _, rfl, ?_⟩
        show if (!acc.isEmpty) = true then _ else _
        cases hem : acc.isEmpty with
        | true =>
          refine iteF ⟨_, rfl, (s4.trans s5).trans s6, fun p' hp' g hg => ?_⟩
          rw [take_snoc ep] at hp'
          rcases List.mem_append.mp hp' with h | h
          · exact hall p' h g hg
          · rw [List.mem_singleton] at h
            rw [h]
            exact hae.mp hem g hg
        | false =>
          refine iteT ?_
          have e : (vs.all fun p => gs.all fun g => decide (img n g p ∈ vs)) = false := by
            apply Bool.eq_false_iff.mpr
            intro h
            rw [List.all_eq_true] at h
            have h1 := h p hpm
            rw [List.all_eq_true] at h1
            have h2 := hae.mpr fun g hg => of_decide_eq_true (h1 g hg)
            rw [hem] at h2
            cases h2
          rw [e] at q
          exact q _ ((s4.trans s5).trans s6)
      · rintro σ H4 ⟨y, rfl, s4, hall⟩
        rw [hxl, List.take_length] at hall
        have e : (vs.all fun p => gs.all fun g => decide (img n g p ∈ vs)) = true := by
          rw [List.all_eq_true]
          intro p hp
          rw [List.all_eq_true]
          exact fun g hg => decide_eq_true (hall p hp g hg)
        rw [e] at q
        exact q _ s4
    · rw [decide_eq_false hfull] at q ⊢
      exact iteT (q _ sH)
end
end K57
end

section
set_option Elab.async false
set_option linter.all false
set_option maxRecDepth 100000
set_option maxHeartbeats 4000000
namespace K57
open PySem PySem.Spec PyProof.Rows L2 StX ClX
/-! _law_hand, _law_draw, _law_arrows, _law_family -/
def PoolAt (H : Hp) (pool : Addr) : Prop := ∃ c s : Nat, H pool = some (.lst [.int (c : Int), .int (s : Int)]) ∧ s < 2147483647
def spHand (K : PySem.W.Frag) : Sp := fun vs H Q _ => ∃ (a : Addr) (ns : List Int) (k : Nat), vs = [.ref a, .int (k : Int)] ∧ SqL K H a (ns.map V.int) ∧ ns.length ≤ 1000 ∧ k ≤ 1000 ∧ ∀ H' p, Same H H' → H p = none → PoolAt H' p → Q (.ref p) H'
def spDraw : Sp := fun vs H Q _ => ∃ pool m, vs = [.ref pool, .int ((m : Nat) : Int)] ∧ PoolAt H pool ∧ 1 ≤ m ∧ m ≤ 2000 ∧ ∀ H' (j : Nat), SameX pool H H' → PoolAt H' pool → j < m → Q (.int (j : Int)) H'
theorem sIx_max (n d k : Nat) : HT.sIx n d (some ((k : Int) + 1)) = min (k + 1) n := by
  rw [show ((k : Int) + 1) = ((k + 1 : Nat) : Int) by omega]
  exact HT.sIx_nat n d (k + 1)
theorem seqIx_nat {k n : Nat} (h : k < n) : seqIndex? (k : Int) n = some k := (ixN_seq (by
  unfold ixN
  rw [if_pos (by omega), if_pos (by omega)]
  rfl)).1
section
variable {P : Program} {w : World} {K : PySem.W.Frag} {mg : Str → Option Value} {base : Heap} {k : Nat}
abbrev nmHand : List Str := ["_law_script", "_law_k", "_law_cell", "_law_seed"]
theorem scHand : FnScope nmHand ["_law_script", "_law_k"] (defScope (top 44)) := ⟨rfl, rfl, rfl, by decide +kernel, rfl, by decide +kernel, by decide +kernel⟩
theorem ok_hand (T : TX K mg) : Fn0 P w K mg base (k + 1) T.a_lHand (spHand K) := by
  refine T.d_lHand.ok scHand (fun vs H Q E h => ?_) (fun cdv A outer s H vs Q E hr h => ?_)
  · obtain ⟨a, ns, k, rfl, _⟩ := h
    rfl
  · obtain ⟨a, ns, k, rfl, hS, hl, hk, q⟩ := h
    refine ⟨_, pss_cons (ps_set (i := 2) scHand.nd rfl (.inl rfl) (pe_ix ix_list (pe_op op_cat (pe_slice sl_list (pv 0) (po_some (pv 1)) (po_some (pe_op op_add (pv 1) pe_int))) (pe_lst (pa_cons pe_int pa_nil))) pe_int (fun _ _ => rfl)))
      (pss_cons (ps_set (i := 3) scHand.nd rfl (.inl rfl) (pe_op op_mod (pe_op op_mul (pe_op op_add (pe_op op_add (pe_op op_mod (pv 2) pe_int) (pe_op op_mul pe_int (pv 1))) pe_int) pe_int) pe_int))
      (pss_one (ps_ret (pe_lst (pa_cons (pe_op op_mul (pe_callTy call_int1 rfl T.z_int boot_int (pa_cons (pe_cmpR op_ge (pv 2) (pe_op op_pow pe_int pe_int) (nomark _)) pa_nil)) (pv 2)) (pa_cons (pv 3) pa_nil)))))), ?_⟩
    refine ⟨_, rfl, _, rfl, _, rfl, _, rfl, _, _, rfl, rfl, _, rfl, a, ns.map V.int, rfl, hS, fun p np => ?_⟩
    have s1 : Same H (upd H p (.lst (cutV (ns.map V.int) (some (k : Int)) (some ((k : Int) + 1))))) := Same.upd np
    refine ⟨by show 1 ≤ sizeLine; decide, fun z nz => ?_⟩
    have hp := Same.upd (o := .lst [V.int 0]) nz p _ upd_same
    have hcl := cutV_length (ns.map V.int) (some (k : Int)) (some ((k : Int) + 1))
    have hml : (ns.map V.int).length ≤ 1000 := by rwa [List.length_map]
    refine ⟨p, z, _, [V.int 0], rfl, rfl, hp, upd_same, ?_, fun c nc => ?_⟩
    · show (cutV (ns.map V.int) (some (k : Int)) (some ((k : Int) + 1))).length + 1 ≤ sizeLine
      exact small1000 (by omega)
    obtain ⟨x, hx⟩ : ∃ x : Int, (cutV (ns.map V.int) (some (k : Int)) (some ((k : Int) + 1)) ++ [V.int 0])[0]? = some (.int x) := by
      cases e : cutV (ns.map V.int) (some (k : Int)) (some ((k : Int) + 1)) with
      | nil => exact ⟨0, rfl⟩
      | cons v r =>
        have hm : v ∈ ns.map V.int := by
          have h1 : v ∈ cutV (ns.map V.int) (some (k : Int)) (some ((k : Int) + 1)) := by rw [e]; exact List.mem_cons_self
          unfold cutV at h1
          exact List.mem_of_mem_drop (List.mem_of_mem_take h1)
        obtain ⟨x, _, rfl⟩ := List.mem_map.mp hm
        exact ⟨x, rfl⟩
    have s2 := (s1.upd2 (o := .lst [V.int 0]) nz).upd2 (o := .lst (cutV (ns.map V.int) (some (k : Int)) (some ((k : Int) + 1)) ++ [V.int 0])) nc
    refine ⟨c, _, 0, .int x, rfl, rfl, SqL.of upd_same, at_of (j := 0) rfl hx, ?_⟩
    have m1 := Int.emod_nonneg x (show (2147483647 : Int) ≠ 0 by decide)
    have m2 := Int.emod_lt_of_pos x (show (0 : Int) < 2147483647 by decide)
    refine ⟨_, rfl, _, _, rfl, rfl, (show (0 : Int) < 2147483647 by decide), _, rfl, _, _, rfl, rfl, .inl ⟨by decide, by decide⟩, _, _, rfl, rfl, _, _, rfl, rfl, _, _, rfl, rfl, .inl ⟨by omega, by omega⟩, _, _, rfl, rfl, (show (0 : Int) < 2147483629 by decide), ?_⟩
    have m3 := Int.emod_nonneg ((x % 2147483647 + 7919 * (k : Int) + 1) * 48271) (show (2147483629 : Int) ≠ 0 by decide)
    have m4 := Int.emod_lt_of_pos ((x % 2147483647 + 7919 * (k : Int) + 1) * 48271) (show (0 : Int) < 2147483629 by decide)
    refine ⟨_, rfl, 10, 18, rfl, rfl, ⟨by decide, by decide, by decide⟩, x, _, rfl, rfl, .inr ⟨_, rfl, ?_⟩⟩
    refine ⟨_, rfl, _, x, rfl, rfl, .inl ⟨?_, ?_⟩, ?_⟩
    · split <;> decide
    · split <;> decide
    refine ⟨_, rfl, by show 2 ≤ sizeLine; decide, fun p2 np2 => ?_⟩
    obtain ⟨cc, ec⟩ : ∃ cc : Nat, (if decide ((10 : Int) ^ (18 : Int).toNat ≤ x) = true then (1 : Int) else 0) * x = (cc : Int) := by
      by_cases h : (10 : Int) ^ (18 : Int).toNat ≤ x
      · have h0 : (0 : Int) ≤ x := Int.le_trans (by decide) h
        rw [decide_eq_true h, if_pos rfl, Int.one_mul]
        exact ⟨x.toNat, by omega⟩
      · rw [decide_eq_false h, if_neg (by decide), Int.zero_mul]
        exact ⟨0, rfl⟩
    refine q _ p2 (s2.upd2 np2) (s2.free np2) ⟨cc, ((x % 2147483647 + 7919 * (k : Int) + 1) * 48271 % 2147483629).toNat, ?_, by omega⟩
    rw [upd_same]
    congr 1
    rw [← ec, show ((((x % 2147483647 + 7919 * (k : Int) + 1) * 48271 % 2147483629).toNat : Nat) : Int) = (x % 2147483647 + 7919 * (k : Int) + 1) * 48271 % 2147483629 by omega]
abbrev nmDraw : List Str := ["_law_pool", "_law_size", "_law_found"]
theorem scDraw : FnScope nmDraw ["_law_pool", "_law_size"] (defScope (top 45)) := ⟨rfl, rfl, rfl, by decide +kernel, rfl, by decide +kernel, by decide +kernel⟩
theorem ok_draw (T : TX K mg) : Fn0 P w K mg base (k + 1) T.a_lDraw spDraw := by
  refine T.d_lDraw.ok scDraw (fun vs H Q E h => ?_) (fun cdv A outer s H vs Q E hr h => ?_)
  · obtain ⟨pool, m, rfl, _⟩ := h
    rfl
  · obtain ⟨pool, m, rfl, ⟨c, sd, hp, hsd⟩, h1, h2, q⟩ := h
    refine ⟨_, pss_cons (ps_if (pt_cmpR op_gt (pe_ix ix_list (pv 0) pe_int (fun _ _ => rfl)) pe_int (nomark _))
        (pss_cons (ps_set (i := 2) scDraw.nd rfl (.inl rfl) (pe_op op_mod (pe_ix ix_list (pv 0) pe_int (fun _ _ => rfl)) (pv 1)))
        (pss_cons (ps_asg (pe_op op_fdiv (pe_ix ix_list (pv 0) pe_int (fun _ _ => rfl)) (pv 1)) (pg_sub (pv 0) pe_int set_list))
        (pss_one (ps_ret (pv 2))))) pss_nil)
      (pss_cons (ps_asg (pe_op op_mod (pe_op op_add (pe_op op_mul (pe_ix ix_list (pv 0) pe_int (fun _ _ => rfl)) pe_int) pe_int) pe_int) (pg_sub (pv 0) pe_int set_list))
      (pss_one (ps_ret (pe_op op_mod (pe_op op_fdiv (pe_op op_mod (pe_op op_mul (pe_ix ix_list (pv 0) pe_int (fun _ _ => rfl)) (pe_ix ix_list (pv 0) pe_int (fun _ _ => rfl))) pe_int) pe_int) (pv 1))))), ?_⟩
    refine ⟨_, rfl, pool, _, 0, .int (c : Int), rfl, rfl, SqL.of hp, at_of (j := 0) rfl rfl, _, _, rfl, rfl, _, rfl, ?_⟩
    have hm0 : (0 : Int) < (m : Int) := by omega
    by_cases hc : (0 : Int) < (c : Int)
    · rw [decide_eq_true hc]
      refine iteT ?_
      refine ⟨_, rfl, pool, _, 0, .int (c : Int), rfl, rfl, SqL.of hp, at_of (j := 0) rfl rfl, _, rfl, _, _, rfl, rfl, hm0, ?_⟩
      refine ⟨_, rfl, pool, _, 0, .int (c : Int), rfl, rfl, SqL.of hp, at_of (j := 0) rfl rfl, _, rfl, _, _, rfl, rfl, ⟨hm0, by omega⟩, ?_⟩
      refine ⟨_, rfl, pool, _, 0, 0, rfl, rfl, hp, rfl, ?_⟩
      have m1 := Int.emod_nonneg (c : Int) (show (m : Int) ≠ 0 by omega)
      have m2 := Int.emod_lt_of_pos (c : Int) hm0
      have e1 : (c : Int) % (m : Int) = ((c % m : Nat) : Int) := rfl
      have e2 : (c : Int) / (m : Int) = ((c / m : Nat) : Int) := rfl
      refine ⟨_, rfl, ?_⟩
      exact q _ (c % m) (Same.x (Same.refl H)).updx ⟨c / m, sd, upd_same, hsd⟩ (Nat.mod_lt _ (by omega))
    · rw [decide_eq_false hc]
      refine iteF ?_
      refine ⟨_, rfl, pool, _, 1, .int (sd : Int), rfl, rfl, SqL.of hp, at_of (j := 1) rfl rfl, _, _, rfl, rfl, .inl ⟨by omega, by omega⟩, _, _, rfl, rfl, _, _, rfl, rfl, (show (0 : Int) < 2147483647 by decide), ?_⟩
      refine ⟨_, rfl, pool, _, 1, 1, rfl, rfl, hp, rfl, ?_⟩
      have e1 : (((sd : Int) * 48271 + 11) % 2147483647) = (((sd * 48271 + 11) % 2147483647 : Nat) : Int) := by omega
      have hlt : (sd * 48271 + 11) % 2147483647 < 2147483647 := Nat.mod_lt _ (by decide)
      have hp2 : (upd H pool (.lst ([V.int (c : Int), V.int (sd : Int)].set 1 (V.int (((sd : Int) * 48271 + 11) % 2147483647))))) pool = some (.lst [V.int (c : Int), V.int (((sd * 48271 + 11) % 2147483647 : Nat) : Int)]) := by
        rw [e1]
        exact upd_same
      generalize (sd * 48271 + 11) % 2147483647 = s2 at hlt hp2
      refine ⟨_, rfl, pool, _, 1, .int (s2 : Int), rfl, rfl, SqL.of hp2, at_of (j := 1) rfl rfl, _, rfl, pool, _, 1, .int (s2 : Int), rfl, rfl, SqL.of hp2, at_of (j := 1) rfl rfl, _, _, rfl, rfl, .inl ⟨by omega, by omega⟩, _, _, rfl, rfl, (show (0 : Int) < 2147483629 by decide), _, _, rfl, rfl, ⟨by decide, by decide⟩, _, rfl, _, _, rfl, rfl, hm0, ?_⟩
      have e2 : (s2 : Int) * (s2 : Int) % 2147483629 / 64 % (m : Int) = ((s2 * s2 % 2147483629 / 64 % m : Nat) : Int) := by
        simp only [Int.natCast_emod, Int.natCast_ediv, Int.natCast_mul]
        rfl
      have qq := q (upd H pool (.lst ([V.int (c : Int), V.int (sd : Int)].set 1 (V.int (((sd : Int) * 48271 + 11) % 2147483647))))) (s2 * s2 % 2147483629 / 64 % m)
      rw [← e2] at qq
      exact qq (Same.x (Same.refl H)).updx ⟨c, s2, hp2, hlt⟩ (Nat.mod_lt _ (by omega))
end
end K57
end

section
set_option Elab.async false
set_option linter.all false
set_option maxRecDepth 100000
set_option maxHeartbeats 4000000
namespace K57
open PySem PySem.Spec PyProof.Rows L2 StX ClX
/-! _law_arrows, _law_family -/
structure Part (n i : Nat) (g : Fn) (l : List Nat) : Prop where
  lt : ∀ a b, g a = some b → a < i ∧ b < n
  inj : ∀ a b c, g a = some c → g b = some c → a = b
  nd : l.Nodup
  ln : ∀ t ∈ l, t < n
  dis : ∀ a b, g a = some b → ¬ b ∈ l
  len : n ≤ l.length + i
def addF (g : Fn) (i j : Nat) : Fn := fun a => if a = i then some j else g a
theorem Part.skip {n i : Nat} {g : Fn} {l : List Nat} (p : Part n i g l) : Part n (i + 1) g l := ⟨fun a b h => ⟨Nat.lt_succ_of_lt (p.lt a b h).1, (p.lt a b h).2⟩, p.inj, p.nd, p.ln, p.dis, by have := p.len; omega⟩
theorem Part.tab_skip {n i : Nat} {g : Fn} {l : List Nat} (p : Part n i g l) : tab (i + 1) g = tab i g := by
  rw [tab_succ]
  cases h : g i with
  | none => simp
  | some j => exact absurd (p.lt i j h).1 (Nat.lt_irrefl i)
theorem Part.take {n i k j : Nat} {g : Fn} {l : List Nat} (p : Part n i g l) (hj : l[k]? = some j) : Part n (i + 1) (addF g i j) (l.eraseIdx k) := by
  have hjm := List.mem_of_getElem? hj
  have hnin : ¬ j ∈ l.eraseIdx k := by
    intro h
    obtain ⟨m, hm, hne⟩ := List.mem_eraseIdx_iff_getElem?.mp h
    exact hm (nd_ix p.nd hne hj)
  constructor
  · intro a b h
    unfold addF at h
    split at h
    · cases h
      rename_i e
      exact ⟨by omega, p.ln j hjm⟩
    · exact ⟨Nat.lt_succ_of_lt (p.lt a b h).1, (p.lt a b h).2⟩
  · intro a b c h1 h2
    unfold addF at h1 h2
    split at h1 <;> split at h2
    · omega
    · cases h1
      exact absurd hjm (p.dis _ _ h2)
    · cases h2
      exact absurd hjm (p.dis _ _ h1)
    · exact p.inj _ _ _ h1 h2
  · exact p.nd.sublist (List.eraseIdx_sublist _ _)
  · exact fun t ht => p.ln t ((List.eraseIdx_sublist _ _).subset ht)
  · intro a b h
    unfold addF at h
    split at h
    · cases h
      exact hnin
    · exact fun hm => p.dis a b h ((List.eraseIdx_sublist _ _).subset hm)
  · have h1 := p.len
    have h2 : k < l.length := (List.getElem?_eq_some_iff.mp hj).1
    rw [List.length_eraseIdx_of_lt h2]
    omega
theorem tab_congr {g h : Fn} : ∀ {n : Nat}, (∀ i, i < n → g i = h i) → tab n g = tab n h
  | 0, _ => rfl
  | n + 1, e => by
    rw [tab_succ, tab_succ, tab_congr (n := n) fun i hi => e i (by omega), e n (Nat.lt_succ_self n)]
theorem tab_add (g : Fn) (i j : Nat) : tab (i + 1) (addF g i j) = tab i g ++ [((Sum.inl (i : Int) : Key), V.int (j : Int))] := by
  rw [tab_succ, tab_congr (g := addF g i j) (h := g) (n := i) fun a ha => if_neg (by omega), show addF g i j i = some j from if_pos rfl]
  rfl
def spArrows : Sp := fun vs H Q _ => ∃ pool n, vs = [.ref pool, .int ((n : Nat) : Int)] ∧ PoolAt H pool ∧ 1 ≤ n ∧ n ≤ 300 ∧ ∀ H' d g, SameX pool H H' → PoolAt H' pool → H d = none → d ≠ pool → H' d = some (.dK (tab n g)) → Good n g → Q (.ref d) H'
def spLFam (CF CM : Addr) : Sp := fun vs H Q _ => ∃ l ms n gs, vs = [.ref l] ∧ H l = some (.lst (ms.map V.ref)) ∧ MapsAt CM H n ms gs ∧ ms ≠ [] ∧ ms.length ≤ 10 ∧ ∀ H' m, Same H H' → FamAt CF CM H' m n gs → Q (.ref m) H'
theorem vints_erase : ∀ (l : List Nat) (k : Nat), (vints l).eraseIdx k = vints (l.eraseIdx k)
  | [], _ => rfl
  | _ :: _, 0 => rfl
  | a :: l, k + 1 => congrArg (V.int (a : Int) :: ·) (vints_erase l k)
section
variable {P : Program} {w : World} {K : PySem.W.Frag} {mg : Str → Option Value} {base : Heap} {k : Nat}
abbrev nmArrows : List Str := ["_law_pool", "_law_size", "_law_left", "_law_found", "_law_rare", "_law_source"]
theorem scArrows : FnScope nmArrows ["_law_pool", "_law_size"] (defScope (top 46)) := ⟨rfl, rfl, rfl, by decide +kernel, rfl, by decide +kernel, by decide +kernel⟩
theorem ok_arrows (T : TX K mg) : Fn0 P w K mg base (k + 2) T.a_lArrows spArrows := by
  refine T.d_lArrows.ok scArrows (fun vs H Q E h => ?_) (fun cdv A outer s H vs Q E hr h => ?_)
  · obtain ⟨pool, n, rfl, _⟩ := h
    rfl
  · obtain ⟨pool, n, rfl, hp, h1, hn, q⟩ := h
    have hu := hu_of hr
    have hr1 : Room 1 _ := hr.mono (by omega)
    refine ⟨_, pss_cons (ps_par3 (i := 2) (j := 3) (l := 4) rfl scArrows.nd rfl rfl rfl (by decide) (by decide) (by decide) rfl rfl rfl
        (pa_cons (pe_listRg rfl rfl T.z_list (prg_1 rfl T.z_range (pv 1))) (pa_cons pe_dnewK (pa_cons (pe_op op_add pe_int (pe_cR (ok_draw (k := 0) T) hr1 rfl T.m_lDraw T.d_lDraw.kp (pa_cons (pv 0) (pa_cons pe_int pa_nil)))) pa_nil))) rfl)
      (pss_cons (ps_for PassesOwn.never rfl (pi_range1 rfl T.z_range (pa_cons (pv 1) pa_nil)) (pg_name (i := 5) scArrows.nd rfl (.inl rfl))
        (pss_one (ps_if (PW.pt (pw_or (pt_cmpR op_gt (pe_cR (ok_draw (k := 0) T) hr1 rfl T.m_lDraw T.d_lDraw.kp (pa_cons (pv 0) (pa_cons (pv 4) pa_nil))) pe_int (nomark _)) (pw_or1 (pt_cmpR op_eq (pv 4) pe_int (nomark _)))))
          (pss_one (ps_dput hu (pv 3) (pv 5) (pe_bm PySem.F.plainAttrs_list PySem.F.slot_list_pop PySem.F.type_list_pop mt_popAt (pv 2) (pa_cons (pe_cR (ok_draw (k := 0) T) hr1 rfl T.m_lDraw T.d_lDraw.kp (pa_cons (pv 0) (pa_cons (pe_callB call_len_seq rfl T.z_len PySem.boot_len (pa_cons (pv 2) pa_nil)) pa_nil))) pa_nil)) rfl)) pss_nil)))
      (pss_one (ps_ret (pv 3)))), ?_⟩
    have efull : rgV 0 (n : Int) = vints (List.range n) := by
      unfold rgV
      rw [show ((n : Int) - 0).toNat = n by omega]
      refine List.map_congr_left fun i _ => ?_
      rw [Int.zero_add]
    refine ⟨_, rfl, _, rfl, ⟨by decide, by decide, by omega, by omega, by omega⟩, fun la nla => ?_⟩
    rw [efull]
    have s1 : Same H (upd H la (.lst (vints (List.range n)))) := Same.upd nla
    have hla1 : (upd H la (.lst (vints (List.range n)))) la = some (.lst (vints (List.range n))) := upd_same
    generalize upd H la (.lst (vints (List.range n))) = H1 at s1 hla1 ⊢
    intro fd nfd
    have s2 : Same H1 (upd H1 fd (.dK [])) := Same.upd nfd
    have hfd2 : (upd H1 fd (.dK [])) fd = some (.dK []) := upd_same
    have hla2 := s2 _ _ hla1
    have nHfd : H fd = none := s1.free nfd
    replace s2 := s1.trans s2
    generalize upd H1 fd (.dK []) = H2 at s2 hfd2 hla2 ⊢
    obtain ⟨c0, sd0, hp0, hs0⟩ := id hp
    have npl : pool ≠ la := ne_of_none hp0 nla
    have npf : pool ≠ fd := ne_of_none hp0 nHfd
    refine ⟨_, rfl, pool, 5, rfl, ⟨c0, sd0, s2 _ _ hp0, hs0⟩, by decide, by decide, fun H3 j0 sx3 hp3 hj0 => ?_⟩
    refine ⟨1, _, rfl, rfl, _, _, _, rfl, ?_⟩
    have sxH : SameX pool H H3 := (Same.x s2).trans sx3
    refine ⟨_, rfl, n, rfl, by omega, by omega, ?_⟩
    refine for_it walk_range0 (fun i σ H' => ∃ y g l, σ = [some (.ref pool), some (.int (n : Int)), some (.ref la), some (.ref fd), some (.int (1 + (j0 : Int))), y] ∧ SameX pool H H' ∧ PoolAt H' pool ∧ H' la = some (.lst (vints l)) ∧ H' fd = some (.dK (tab i g)) ∧ Part n i g l ∧ l.length ≤ 300)
      ⟨none, noF, List.range n, rfl, sxH, hp3, sx3 _ _ npl.symm hla2, sx3 _ _ npf.symm hfd2, ⟨fun a b h => (by cases h), fun a b c h => (by cases h), List.nodup_range, fun t ht => List.mem_range.mp ht, fun a b h => (by cases h), by rw [List.length_range]; omega⟩, by rw [List.length_range]; exact hn⟩ (fun _ _ _ _ _ => trivial) ?_ ?_
    · rintro i x σ H4 H5 hi ⟨y, g, l, rfl, sx4, hp4, hl4, hf4, pt, hll⟩ ⟨rfl, rfl⟩
      have hi' : i < n := hi
      have hlpos : 1 ≤ l.length := by
        have := pt.len
        omega
      refine ⟨_, rfl, _, rfl, pool, 1 + j0, ?_, hp4, by omega, by omega, fun H6 j1 sx6 hp6 hj1 => ?_⟩
      · show [V.ref pool, V.int (1 + (j0 : Int))] = [V.ref pool, V.int ((1 + j0 : Nat) : Int)]
        rw [show (1 + (j0 : Int)) = ((1 + j0 : Nat) : Int) by omega]
      have hl6 := sx6 _ _ npl.symm hl4
      have hf6 := sx6 _ _ npf.symm hf4
      have sx46 := sx4.trans sx6
      -- the two branches
      have skip : ∃ y g l, [some (V.ref pool), some (V.int (n : Int)), some (V.ref la), some (V.ref fd), some (V.int (1 + (j0 : Int))), some (V.int (i : Int))] = [some (.ref pool), some (.int (n : Int)), some (.ref la), some (.ref fd), some (.int (1 + (j0 : Int))), y] ∧ SameX pool H H6 ∧ PoolAt H6 pool ∧ H6 la = some (.lst (vints l)) ∧ H6 fd = some (.dK (tab (i + 1) g)) ∧ Part n (i + 1) g l ∧ l.length ≤ 300 :=
        ⟨_, g, l, rfl, sx46, hp6, hl6, by rw [pt.tab_skip]; exact hf6, pt.skip, hll⟩
      have put : ∀ (D : L2.Ends), (∀ H', (∃ y g l, [some (V.ref pool), some (V.int (n : Int)), some (V.ref la), some (V.ref fd), some (V.int (1 + (j0 : Int))), some (V.int (i : Int))] = [some (.ref pool), some (.int (n : Int)), some (.ref la), some (.ref fd), some (.int (1 + (j0 : Int))), y] ∧ SameX pool H H' ∧ PoolAt H' pool ∧ H' la = some (.lst (vints l)) ∧ H' fd = some (.dK (tab (i + 1) g)) ∧ Part n (i + 1) g l ∧ l.length ≤ 300) → D.nx [some (.ref pool), some (.int (n : Int)), some (.ref la), some (.ref fd), some (.int (1 + (j0 : Int))), some (.int (i : Int))] H') →
          sDPut (tVar 3) (tVar 5) (tBM K "list" rPopAt (tVar 2) (tCons (tC0 spDraw (tCons (tVar 0) (tCons (tCB (fun xs H Q => ∃ p ys, xs = [.ref p] ∧ (SqL K H p ys ∨ SqT K H p ys) ∧ Q (.int ys.length) H) (tCons (tVar 2) tNil)) tNil))) tNil)) D [some (.ref pool), some (.int (n : Int)), some (.ref la), some (.ref fd), some (.int (1 + (j0 : Int))), some (.int (i : Int))] H6 := by
        intro D hD
        refine ⟨_, rfl, .inl ⟨rfl, _, SqL.of hl6⟩, _, rfl, _, rfl, la, _, rfl, .inl (SqL.of hl6), pool, l.length, ?_, hp6, hlpos, by omega, fun H7 j2 sx7 hp7 hj2 => ?_⟩
        · rw [List.length_map]
        have hl7 := sx7 _ _ npl.symm hl6
        have hf7 := sx7 _ _ npf.symm hf6
        have ej : l[j2]? = some l[j2] := List.getElem?_eq_getElem hj2
        refine ⟨la, _, (j2 : Int), j2, V.int (l[j2] : Int), rfl, rfl, hl7, by omega, by omega, seqIx_nat (by rw [List.length_map]; exact hj2), by rw [List.getElem?_map, ej]; rfl, ?_⟩
        have nfl : fd ≠ la := ne_of hf7 hl7 (by intro z; cases z)
        have hf8 : (upd H7 la (.lst ((vints l).eraseIdx j2))) fd = some (.dK (tab i g)) := by
          rw [upd_ne nfl]
          exact hf7
        refine ⟨_, rfl, _, rfl, fd, _, rfl, DPut.k (k := Sum.inl (i : Int)) hf8 (Nat.lt_of_le_of_lt (tab_len i g) (small300 (by omega))), hD _ ?_⟩
        refine ⟨_, addF g i l[j2], l.eraseIdx j2, rfl, ((sx46.trans sx7).set nla).set nHfd, ?_, ?_, ?_, pt.take ej, ?_⟩
        · obtain ⟨c9, s9, h9, h9'⟩ := hp7
          exact ⟨c9, s9, by rw [upd_ne npf, upd_ne npl]; exact h9, h9'⟩
        · rw [upd_ne nfl.symm, upd_same, vints_erase]
        · rw [upd_same, tab_put, tab_add]
        · exact Nat.le_trans (List.eraseIdx_sublist _ _).length_le hll
      by_cases hj1 : (0 : Int) < (j1 : Int)
      · refine ⟨_, _, rfl, rfl, _, rfl, ?_⟩
        rw [decide_eq_true hj1]
        exact iteT (iteT (put _ fun H' h => h))
      · refine ⟨_, _, rfl, rfl, _, rfl, ?_⟩
        rw [decide_eq_false hj1]
        refine iteF ⟨_, rfl, rfl, _, rfl, ?_⟩
        exact ite2 (fun _ => put _ fun H' h => h) (fun _ => skip)
    · rintro σ H4 ⟨y, g, l, rfl, sx4, hp4, hl4, hf4, pt, hll⟩
      exact ⟨_, rfl, q H4 fd g sx4 hp4 nHfd npf.symm hf4 ⟨pt.lt, pt.inj⟩⟩
abbrev nmLFam : List Str := ["_law_maps", "_law_found", "_law_one"]
theorem scLFam : FnScope nmLFam ["_law_maps"] (defScope (top 47)) := ⟨rfl, rfl, rfl, by decide +kernel, rfl, by decide +kernel, by decide +kernel⟩
theorem ok_lFam (T : TX K mg) : Fn0 P w K mg base (k + 9) T.a_lFamily (spLFam T.CF T.CM) := by
  refine T.d_lFamily.ok scLFam (fun vs H Q E h => ?_) (fun cdv A outer s H vs Q E hr h => ?_)
  · obtain ⟨l, ms, n, gs, rfl, _⟩ := h
    rfl
  · obtain ⟨l, ms, n, gs, rfl, hl, M, hne, hlen, q⟩ := h
    refine ⟨_, pss_cons (ps_set (i := 1) scLFam.nd rfl (.inl rfl) (pe_mR T.mkF (ok_fInit (k := 0) T) (hr.mono (by omega)) rfl T.mgF (pa_cons (pe_ix ix_list (pv 0) pe_int (fun _ _ => rfl)) pa_nil)))
      (pss_cons (ps_for PassesOwn.never rfl (pi_list (pe_slice sl_list (pv 0) (po_some pe_int) po_none)) (pg_name (i := 2) scLFam.nd rfl (.inl rfl))
        (pss_one (ps_set (i := 1) scLFam.nd rfl (.inl rfl) (pe_op (op_ownR (C := T.CF) (op := .Add) (ok_fAdd (k := 0) T) (hr.mono (by omega)) T.sfF T.hAdd T.hAddf) (pv 1) (pe_mR T.mkF (ok_fInit (k := 0) T) (hr.mono (by omega)) rfl T.mgF (pa_cons (pv 2) pa_nil))))))
      (pss_one (ps_ret (pv 1)))), ?_⟩
    obtain ⟨m0, mr, rfl⟩ : ∃ m0 mr, ms = m0 :: mr := by
      cases ms with
      | nil => exact absurd rfl hne
      | cons a b => exact ⟨a, b, rfl⟩
    cases M with
    | @cons _ _ g0 gr hm0 M' =>
    refine ⟨_, rfl, l, _, 0, .ref m0, rfl, rfl, SqL.of hl, at_of (j := 0) rfl rfl, fun x dx nx ndx ne => ?_⟩
    have s1 : Same H (upd (upd H dx (.own x)) x (.ins T.CF dx [])) := Same.upd2 (Same.upd ndx) (by rw [upd_ne ne.symm]; exact nx)
    refine ⟨x, dx, [m0], n, [g0], rfl, upd_same, .cons (hm0.same s1) .nil, by simp, by simp, fun H1 hF1 kp => ⟨rfl, ?_⟩⟩
    have sH1 : Same H H1 := Same.made nx ndx kp
    refine ⟨_, rfl, 1, rfl, l, _, rfl, SqL.of (sH1 _ _ hl), fun c nc => ?_⟩
    rw [cut1]
    have s2 : Same H1 (upd H1 c (.lst (((m0 :: mr).map V.ref).drop 1))) := Same.upd nc
    have hc : (upd H1 c (.lst (((m0 :: mr).map V.ref).drop 1))) c = some (.lst (mr.map V.ref)) := upd_same
    refine ⟨c, rfl, ⟨_, SqL.of hc⟩, ?_⟩
    refine for_list (K := K) (a := c) (xs := mr.map V.ref) (fun i σ H' => ∃ y f, σ = [some (.ref l), some (.ref f), y] ∧ Same H H' ∧ H' c = some (.lst (mr.map V.ref)) ∧ FamAt T.CF T.CM H' f n (g0 :: gr.take i)) ⟨none, x, rfl, sH1.trans s2, hc, hF1.same s2⟩ (fun i σ H' _ h => ?_) ?_ ?_
    · obtain ⟨_, _, _, _, h, _⟩ := h
      exact SqL.of h
    · rintro i v σ H2 hv ⟨y, f, rfl, s3, hc3, hF3⟩
      rw [List.getElem?_map] at hv
      obtain ⟨m, em, rfl⟩ := Option.map_eq_some_iff.mp hv
      obtain ⟨g, eg, hm⟩ := M'.get em
      refine ⟨_, rfl, _, rfl, fun x2 dx2 nx2 ndx2 ne2 => ?_⟩
      have s4 : Same H2 (upd (upd H2 dx2 (.own x2)) x2 (.ins T.CF dx2 [])) := Same.upd2 (Same.upd ndx2) (by rw [upd_ne ne2.symm]; exact nx2)
      refine ⟨x2, dx2, [m], n, [g], rfl, upd_same, .cons (hm.same (s3.trans s4)) .nil, by simp, by simp, fun H3 hF4 kp2 => ⟨rfl, ?_⟩⟩
      have s5 : Same H2 H3 := Same.made nx2 ndx2 kp2
      have hF5 := hF3.same s5
      obtain ⟨d1, t1, q1, f1, f2, f3⟩ := id hF5
      obtain ⟨d2, t2, q2, f4, f5, f6⟩ := id hF4
      have hig : i < gr.length := (List.getElem?_eq_some_iff.mp eg).1
      have hgl : gr.length = mr.length := M'.len.symm
      have hml : mr.length + 1 ≤ 10 := hlen
      refine ⟨f, x2, _, _, _, _, rfl, rfl, f1, f4, f, x2, n, g0 :: gr.take i, [g], rfl, hF5, hF4, by simp, by simp, ?_, fun H6 m6 s6 hF6 => ?_⟩
      · rw [List.length_cons, List.length_take, List.length_singleton]
        omega
      · refine ⟨_, m6, rfl, s3.trans (s5.trans s6), s6 _ _ (s5 _ _ hc3), ?_⟩
        rw [take_snoc eg]
        exact hF6
    · rintro σ H2 ⟨y, f, rfl, s3, hc3, hF3⟩
      rw [List.length_map, M'.len, List.take_length] at hF3
      exact ⟨_, rfl, q H2 f s3 hF3⟩
end
end K57
end

section
set_option Elab.async false
set_option linter.all false
set_option maxRecDepth 100000
set_option maxHeartbeats 4000000
namespace K57
open PySem PySem.Spec PyProof.Rows L2 StX ClX
/-! data that may be shown; _law_bent -/
structure OkD (d : PyData) : Prop where
  lay : d.canLay0 = true
  dep : d.depth ≤ 60
  wt : d.weight ≤ 2 ^ 20
  ish : d.intsShort 13 = true
  shw : d.showable = true
theorem OkD.len {d : PyData} (h : OkD d) : d.shown.length ≤ sizeLine := by
  refine PyData.shown_fits_of_layable0 (B := 13) (by decide) (by decide) ?_ h.ish
  show (d.canLay0 && decide (d.depth ≤ 64) && decide (d.weight ≤ 2 ^ 20)) = true
  have := h.dep
  rw [h.lay, decide_eq_true (by omega), decide_eq_true h.wt]
  rfl
theorem OkD.shaped {d : PyData} (h : OkD d) : SeqAt.shaped d = true := by
  have := h.dep
  show (d.canLay0 && decide (d.depth ≤ 64)) = true
  rw [h.lay, decide_eq_true (by omega)]
  rfl
structure ElOk (e : PyData) : Prop where
  lay : e.canLay0 = true
  dep : e.depth ≤ 3
  wt : e.weight ≤ 900
  ish : e.intsShort 13 = true
  shw : e.showable = true
  len : ∀ ds, e = .list ds → ds.length ≤ 1000
theorem els_lay : ∀ {es : List PyData}, (∀ e ∈ es, ElOk e) → PyData.canLayAll0 es = true
  | [], _ => rfl
  | e :: es, h => by
    show (e.canLay0 && PyData.canLayAll0 es) = true
    rw [(h e List.mem_cons_self).lay, els_lay fun x hx => h x (List.mem_cons_of_mem _ hx)]
    rfl
theorem els_dep : ∀ {es : List PyData}, (∀ e ∈ es, ElOk e) → PyData.depthAll es ≤ 3
  | [], _ => by decide
  | e :: es, h => Nat.max_le.mpr ⟨(h e List.mem_cons_self).dep, els_dep fun x hx => h x (List.mem_cons_of_mem _ hx)⟩
theorem els_wt : ∀ {es : List PyData}, (∀ e ∈ es, ElOk e) → PyData.weightAll es ≤ 901 * es.length
  | [], _ => Nat.le_refl _
  | e :: es, h => by
    have h1 := (h e List.mem_cons_self).wt
    have h2 := els_wt fun x hx => h x (List.mem_cons_of_mem _ hx)
    show e.weight + 1 + PyData.weightAll es ≤ 901 * (es.length + 1)
    omega
theorem els_ish : ∀ {es : List PyData}, (∀ e ∈ es, ElOk e) → PyData.intsShortAll 13 es = true
  | [], _ => rfl
  | e :: es, h => by
    show (e.intsShort 13 && PyData.intsShortAll 13 es) = true
    rw [(h e List.mem_cons_self).ish, els_ish fun x hx => h x (List.mem_cons_of_mem _ hx)]
    rfl
theorem els_shw : ∀ {es : List PyData}, (∀ e ∈ es, ElOk e) → PyData.showableAll es = true
  | [], _ => rfl
  | e :: es, h => by
    show (e.showable && PyData.showableAll es) = true
    rw [(h e List.mem_cons_self).shw, els_shw fun x hx => h x (List.mem_cons_of_mem _ hx)]
    rfl
def ValOk (d : PyData) : Prop := OkD d ∧ ShortD d
theorem val_list {es : List PyData} (h : ∀ e ∈ es, ElOk e) (hl : es.length ≤ 1000) : ValOk (.list es) := by
  have h2 := els_dep h
  have h3 := els_wt h
  refine ⟨⟨els_lay h, ?_, ?_, els_ish h, els_shw h⟩, ?_⟩
  · show PyData.depthAll es + 1 ≤ 60
    omega
  · show PyData.weightAll es ≤ 2 ^ 20
    have : (2 : Nat) ^ 20 = 1048576 := by decide
    omega
  · intro es' e
    cases e
    exact ⟨hl, fun e he ds hd => (h e he).len ds hd⟩
theorem val_tuple {es : List PyData} (h : ∀ e ∈ es, ElOk e) (hl : es.length ≤ 1000) : ValOk (.tuple es) := by
  have h2 := els_dep h
  have h3 := els_wt h
  refine ⟨⟨els_lay h, ?_, ?_, els_ish h, els_shw h⟩, ?_⟩
  · show PyData.depthAll es + 1 ≤ 60
    omega
  · show PyData.weightAll es ≤ 2 ^ 20
    have : (2 : Nat) ^ 20 = 1048576 := by decide
    omega
  · intro es' e
    cases e
theorem log_small {j : Nat} (h : j < 1000) : j.log2 ≤ 10 := by
  by_cases c : j = 0
  · subst c
    decide
  · exact Nat.le_of_lt_succ ((Nat.log2_lt c).mpr (Nat.lt_trans h (by decide)))
theorem int_el {j : Nat} (h : j < 1000) : ElOk (.int (j : Int)) := by
  have hl := log_small h
  refine ⟨rfl, by simp [PyData.depth], ?_, ?_, ?_, fun ds e => by cases e⟩
  · show (if ((j : Int) == 0) = true then 0 else (j : Int).natAbs.log2 + 1) ≤ 900
    rw [Int.natAbs_natCast]
    split <;> omega
  · show decide ((PyData.shown (.int (j : Int))).length ≤ 13) = true
    exact decide_eq_true (PyData.shown_int_le (by rw [Int.natAbs_natCast]; exact Nat.lt_trans h (by decide)))
  · show decide ((j : Int).natAbs.log2 < 1920) = true
    rw [Int.natAbs_natCast]
    exact decide_eq_true (by omega)
theorem ints_wt : ∀ {p : List Nat}, (∀ j ∈ p, j < 1000) → PyData.weightAll (intsD p) ≤ 12 * p.length
  | [], _ => Nat.le_refl _
  | j :: p, h => by
    have hl := log_small (h j List.mem_cons_self)
    have ih := ints_wt fun x hx => h x (List.mem_cons_of_mem _ hx)
    show (if ((j : Int) == 0) = true then 0 else (j : Int).natAbs.log2 + 1) + 1 + PyData.weightAll (intsD p) ≤ 12 * (p.length + 1)
    rw [Int.natAbs_natCast]
    split <;> omega
theorem ints_els {p : List Nat} (h : ∀ j ∈ p, j < 1000) : ∀ e ∈ intsD p, ElOk e := fun e he => by
  obtain ⟨j, hj, rfl⟩ := List.mem_map.mp he
  exact int_el (h j hj)
theorem lst_el {p : List Nat} (h : ∀ j ∈ p, j < 1000) (hl : p.length ≤ 70) : ElOk (lstD p) := by
  have h1 := ints_els h
  have h2 := ints_depth p
  have h3 := ints_wt h
  refine ⟨els_lay h1, ?_, ?_, els_ish h1, els_shw h1, fun ds e => ?_⟩
  · show PyData.depthAll (intsD p) + 1 ≤ 3
    omega
  · show PyData.weightAll (intsD p) ≤ 900
    omega
  · unfold lstD at e
    cases e
    rw [List.length_map]
    omega
theorem tup_ok {p : List Nat} (h : ∀ j ∈ p, j < 1000) (hl : p.length ≤ 1000) : OkD (tupD p) := (val_tuple (ints_els h) (by rw [List.length_map]; exact hl)).1
/-! the heap without some objects -/
def mask (S : Addr → Bool) (H : Hp) : Hp := fun b => if S b = true then none else H b
theorem mask_at {S : Addr → Bool} {b : Addr} {H : Hp} {o : HO} (hn : S b = false) (h : H b = some o) : mask S H b = some o := by
  unfold mask
  rw [if_neg (by rw [hn]; decide)]
  exact h
theorem mask_of {S : Addr → Bool} {b : Addr} {H : Hp} {o : HO} (h : mask S H b = some o) : S b = false ∧ H b = some o := by
  unfold mask at h
  split at h
  · cases h
  · rename_i c
    exact ⟨Bool.eq_false_iff.mpr c, h⟩
theorem mask_same {S : Addr → Bool} {H : Hp} : Same (mask S H) H := fun b o e => (mask_of e).2
theorem mask_mono {S : Addr → Bool} {H H' : Hp} (s : Same H H') : Same (mask S H) (mask S H') := fun b o e => mask_at (mask_of e).1 (s _ _ (mask_of e).2)
theorem mask_x {S : Addr → Bool} {pool : Addr} {H H' : Hp} (hp : S pool = true) (s : SameX pool H H') : Same (mask S H) (mask S H') := fun b o e => by
  obtain ⟨h1, h2⟩ := mask_of e
  refine mask_at h1 (s _ _ (fun z => ?_) h2)
  rw [z, hp] at h1
  cases h1
/-- the pool, and all that is hidden is tracked -/
def PT (S : Addr → Bool) (pool : Addr) (H : Hp) : Prop := PoolAt H pool ∧ S pool = true ∧ ∀ b, S b = true → ∃ o, H b = some o
theorem PoolAt.same {H H' : Hp} {pool : Addr} (p : PoolAt H pool) (s : Same H H') : PoolAt H' pool := by
  obtain ⟨c, sd, h1, h2⟩ := p
  exact ⟨c, sd, s _ _ h1, h2⟩
theorem PT.same {S : Addr → Bool} {pool : Addr} {H H' : Hp} (p : PT S pool H) (s : Same H H') : PT S pool H' := ⟨p.1.same s, p.2.1, fun b h => by
  obtain ⟨o, e⟩ := p.2.2 b h
  exact ⟨o, s _ _ e⟩⟩
theorem PT.x {S : Addr → Bool} {pool : Addr} {H H' : Hp} (p : PT S pool H) (s : SameX pool H H') (q : PoolAt H' pool) : PT S pool H' := ⟨q, p.2.1, fun b h => by
  by_cases c : b = pool
  · obtain ⟨u, sd, h1, _⟩ := q
    exact ⟨_, by rw [c]; exact h1⟩
  · obtain ⟨o, e⟩ := p.2.2 b h
    exact ⟨o, s _ _ c e⟩⟩
theorem PT.ne {S : Addr → Bool} {pool q : Addr} {H : Hp} (p : PT S pool H) (h : H q = none) : S q = false := by
  cases c : S q with
  | false => rfl
  | true =>
    obtain ⟨o, e⟩ := p.2.2 q c
    rw [h] at e
    cases e
theorem PT.np {S : Addr → Bool} {pool q : Addr} {H : Hp} (p : PT S pool H) (h : S q = false) : q ≠ pool := fun e => by
  rw [e, p.2.1] at h
  cases h
theorem new_lst {K : PySem.W.Frag} {S : Addr → Bool} {p : Addr} {H : Hp} {xs : List V} {ds : List PyData} (np : H p = none) (hn : S p = false) (h : DpAll K (mask S H) xs ds) : Dp K (mask S (upd H p (.lst xs))) (.ref p) (.list ds) :=
  .lst (SqL.of (mask_at hn upd_same)) (dpAll_same (mask_mono (Same.upd np)) _ _ h)
theorem new_tup {K : PySem.W.Frag} {S : Addr → Bool} {p : Addr} {H : Hp} {xs : List V} {ds : List PyData} (np : H p = none) (hn : S p = false) (h : DpAll K (mask S H) xs ds) : Dp K (mask S (upd H p (.tup xs))) (.ref p) (.tuple ds) :=
  .tup (SqT.of (mask_at hn upd_same)) (dpAll_same (mask_mono (Same.upd np)) _ _ h)
theorem dpAll_take {K : PySem.W.Frag} {H : Hp} : ∀ {xs : List V} {ds : List PyData} (n : Nat), DpAll K H xs ds → DpAll K H (xs.take n) (ds.take n)
  | _, _, 0, _ => .nil
  | _, _, _ + 1, .nil => .nil
  | _, _, n + 1, .cons h r => .cons h (dpAll_take n r)
theorem dpAll_drop {K : PySem.W.Frag} {H : Hp} : ∀ {xs : List V} {ds : List PyData} (n : Nat), DpAll K H xs ds → DpAll K H (xs.drop n) (ds.drop n)
  | _, _, 0, h => h
  | _, _, _ + 1, .nil => .nil
  | _, _, n + 1, .cons _ r => dpAll_drop n r
theorem dpAll_append {K : PySem.W.Frag} {H : Hp} : ∀ {xs ys : List V} {ds es : List PyData}, DpAll K H xs ds → DpAll K H ys es → DpAll K H (xs ++ ys) (ds ++ es)
  | _, _, _, _, .nil, q => q
  | _, _, _, _, .cons h r, q => .cons h (dpAll_append r q)
theorem dpAll_rev {K : PySem.W.Frag} {H : Hp} : ∀ {xs : List V} {ds : List PyData}, DpAll K H xs ds → DpAll K H xs.reverse ds.reverse
  | _, _, .nil => .nil
  | _, _, .cons h r => by
    rw [List.reverse_cons, List.reverse_cons]
    exact dpAll_append (dpAll_rev r) (.cons h .nil)
theorem dpAll_cut {K : PySem.W.Frag} {H : Hp} {xs : List V} {ds : List PyData} (h : DpAll K H xs ds) (lo hi : Option Int) : ∃ es, DpAll K H (cutV xs lo hi) es ∧ (∀ e ∈ es, e ∈ ds) ∧ es.length ≤ ds.length := by
  refine ⟨_, dpAll_take _ (dpAll_drop _ h), fun e he => List.mem_of_mem_drop (List.mem_of_mem_take he), ?_⟩
  rw [List.length_take, List.length_drop]
  omega
theorem dpAll_lsts {K : PySem.W.Frag} {H : Hp} {ls : List Addr} {vs : List (List Nat)} (h : LstsAt H ls vs) : DpAll K H (ls.map V.ref) (vs.map lstD) := by
  induction h with
  | nil => exact .nil
  | cons h _ ih => exact .cons (.lst (SqL.of h) (dpAll_ints _)) ih
theorem dpAll_at {K : PySem.W.Frag} {H : Hp} {xs : List V} {ds : List PyData} (h : DpAll K H xs ds) {j : Nat} (hj : j < ds.length) : ∃ v d, xs[j]? = some v ∧ d ∈ ds ∧ Dp K H v d := by
  have hx : j < xs.length := by rw [dpAll_len h]; exact hj
  obtain ⟨d, ed, hd⟩ := dpAll_get h (List.getElem?_eq_getElem hx)
  exact ⟨_, d, List.getElem?_eq_getElem hx, List.mem_of_getElem? ed, hd⟩
def spBent (K : PySem.W.Frag) : Sp := fun vs H Q _ => ∃ pool b n ls ps, vs = [.ref pool, .ref b, .int ((n : Nat) : Int)] ∧ PoolAt H pool ∧ b ≠ pool ∧ H b = some (.lst (ls.map V.ref)) ∧ LstsAt H ls ps ∧ ps ≠ [] ∧ ps.length ≤ 300 ∧ (∀ p ∈ ps, p.length ≤ 70 ∧ ∀ j ∈ p, j < 1000) ∧ n ≤ 60 ∧
  ∀ H' x d, SameX pool H H' → PoolAt H' pool → Dp K (mask (fun b => (H b).isSome) H') x d → ValOk d → Q x H'
end K57
end

section
set_option Elab.async false
set_option linter.all false
set_option maxRecDepth 100000
set_option maxHeartbeats 4000000
namespace K57
open PySem PySem.Spec PyProof.Rows L2 StX ClX
/-! _law_bent -/
theorem el_lists {d : PyData} (ds : List PyData) (h1 : d = .list ds) (h2 : ∀ e ∈ ds, ElOk e) (h3 : ds.length ≤ 60) (h4 : PyData.depthAll ds ≤ 2) (h5 : PyData.weightAll ds ≤ 900) : ElOk d := by
  subst h1
  refine ⟨els_lay h2, ?_, h5, els_ish h2, els_shw h2, fun ds' e => ?_⟩
  · show PyData.depthAll ds + 1 ≤ 3
    omega
  · cases e
    omega
section
variable {P : Program} {w : World} {K : PySem.W.Frag} {mg : Str → Option Value} {base : Heap} {k : Nat}
abbrev nmBent : List Str := ["_law_pool", "_law_value", "_law_size", "_law_some", "_law_at", "_law_odd", "_law_rows", "_law_places"]
theorem scBent : FnScope nmBent ["_law_pool", "_law_value", "_law_size"] (defScope (top 52)) := ⟨rfl, rfl, rfl, by decide +kernel, rfl, by decide +kernel, by decide +kernel⟩
theorem ok_bent (T : TX K mg) : Fn0 P w K mg base (k + 2) T.a_lBent (spBent K) := by
  refine T.d_lBent.ok scBent (fun vs H Q E h => ?_) (fun cdv A outer s H vs Q E hr h => ?_)
  · obtain ⟨pool, b, n, ls, ps, rfl, _⟩ := h
    rfl
  · obtain ⟨pool, b, n, ls, ps, rfl, hp, hbp, hb, hls, hne, hpl, hps, hn, q⟩ := h
    have hr1 : Room 1 _ := hr.mono (by omega)
    refine ⟨_, pss_cons (ps_setLc (i := 3) (own := [("_law_places", 7)]) (g := gName 7) (te := tCB (rListOf K) (tCons (tVar 7) tNil)) rfl scBent.nd rfl rfl (sw_true rfl rfl (by rfl) (by rfl)) (pi_list (pv 1)) (blkOk_by (N := nmBent) (sc := defScope (top 52)) (by decide +kernel))
        (fun s H C cl fp => pg_name (i := 7) scBent.nd rfl (.inl rfl)) (fun s H C cl fp => pts_nil) (fun s H C cl fp => pe_callTy call_listOf rfl T.z_list boot_list (pa_cons (pv 7) pa_nil)))
      (pss_cons (ps_set (i := 4) scBent.nd rfl (.inl rfl) (pe_cR (ok_draw (k := 0) T) hr1 rfl T.m_lDraw T.d_lDraw.kp (pa_cons (pv 0) (pa_cons (pe_callB call_len_seq rfl T.z_len PySem.boot_len (pa_cons (pv 3) pa_nil)) pa_nil))))
      (pss_cons (ps_set (i := 5) scBent.nd rfl (.inl rfl) (pe_ix ix_list (pe_lst (pa_cons pe_non (pa_cons (pe_tup (pa_cons pe_int pa_nil)) (pa_cons (pe_lst pa_nil) (pa_cons (pe_lst (pa_cons (pv 2) pa_nil)) (pa_cons (pe_lst (pa_cons pe_int (pa_cons pe_int pa_nil)))
          (pa_cons (pe_lst (pa_cons pe_bl pa_nil)) (pa_cons (pe_lst (pa_cons pe_str pa_nil)) (pa_cons (pe_lst (pa_cons (pe_un un_neg pe_int) pa_nil)) (pa_cons (pe_revL (pe_listRg rfl rfl T.z_list (prg_1 rfl T.z_range (pv 2)))) (pa_cons (pe_lst (pa_cons (pe_lst (pa_cons pe_int pa_nil)) pa_nil)) pa_nil)))))))))))
          (pe_cR (ok_draw (k := 0) T) hr1 rfl T.m_lDraw T.d_lDraw.kp (pa_cons (pv 0) (pa_cons pe_int pa_nil))) (fun _ _ => rfl)))
      (pss_cons (ps_set (i := 6) scBent.nd rfl (.inl rfl) (pe_lst (pa_cons (pe_op op_cat (pe_slice sl_list (pv 3) po_none (po_some (pv 4))) (pe_slice sl_list (pv 3) (po_some (pe_op op_add (pv 4) pe_int)) po_none))
          (pa_cons (pe_op op_cat (pv 3) (pe_lst (pa_cons (pv 5) pa_nil))) (pa_cons (pe_revL (pv 3)) (pa_cons (pe_op op_cat (pv 3) (pv 3)) (pa_cons (pe_callTy call_tuple_of rfl T.z_tuple boot_tuple (pa_cons (pv 3) pa_nil))
          (pa_cons (pe_op op_cat (pv 3) (pe_lst (pa_cons (pe_lst (pa_cons pe_int pa_nil)) pa_nil))) (pa_cons (pe_slice sl_list (pv 3) (po_some pe_int) po_none) pa_nil)))))))))
      (pss_one (ps_ret (pe_ix ix_list (pv 6) (pe_cR (ok_draw (k := 0) T) hr1 rfl T.m_lDraw T.d_lDraw.kp (pa_cons (pv 0) (pa_cons pe_int pa_nil))) (fun _ _ => rfl))))))), ?_⟩
    have hp0 : PT (fun b => (H b).isSome) pool H := by
      refine ⟨hp, ?_, fun b h => Option.isSome_iff_exists.mp h⟩
      obtain ⟨c, sd, h1, _⟩ := hp
      show (H pool).isSome = true
      rw [h1]
      rfl
    replace hp := hp0
    clear hp0
    generalize (fun b => (H b).isSome) = S at hp q
    have hSp := hp.2.1
    -- some
    have hll : ls.length = ps.length := Paired.length hls
    refine ⟨_, rfl, b, rfl, ⟨_, SqL.of hb⟩, fun so nso => ?_⟩
    have nsop := hp.ne nso
    refine lc_list (K := K) (a := b) (xs := ls.map V.ref) (fun i H' => ∃ as, H' so = some (.lst (as.map V.ref)) ∧ Paired (fun (a : Addr) (p : List Nat) => a ≠ so ∧ S a = false ∧ H' a = some (.lst (vints p))) as (ps.take i) ∧ SameX so H H')
      ⟨[], upd_same, .nil, (Same.upd nso).x⟩ (fun i H' _ h => ?_) ?_ ?_
    · obtain ⟨_, _, _, h⟩ := h
      exact SqL.of (h b _ (ne_of_none hb nso) hb)
    · rintro i x H2 hx ⟨as, hD, hpa, sx⟩
      rw [List.getElem?_map] at hx
      obtain ⟨a, ea, rfl⟩ := Option.map_eq_some_iff.mp hx
      obtain ⟨p, ep, hap⟩ := L2.paired_get hls ea
      have ha := hap
      have hi : i < ps.length := (List.getElem?_eq_some_iff.mp ep).1
      have ha2 := sx a _ (ne_of_none ha nso) ha
      refine ⟨rfl, ?_⟩
      refine iteT (B := True) ⟨_, rfl, a, _, rfl, .inl (SqL.of ha2), fun l nl => ?_⟩
      have hlD : l ≠ so := (ne_of_none hD nl).symm
      have hp2 : PT S pool H2 := hp.same fun b o e => sx b o (ne_of_none e nso) e
      have hD3 : (upd H2 l (.lst (vints p))) so = some (.lst (as.map V.ref)) := by
        rw [upd_ne hlD.symm]
        exact hD
      refine ⟨_, hD3, ?_, as ++ [l], upd_same.trans ?_, ?_, (sx.upd nl).updx⟩
      · rw [List.length_map, Paired.length hpa, List.length_take]
        exact small1000 (by omega)
      · rw [List.map_append]
        rfl
      · rw [take_snoc ep]
        refine Paired.snoc (Paired.mapP hpa fun b p hb => ⟨hb.1, hb.2.1, ?_⟩) ⟨hlD, hp2.ne nl, ?_⟩
        · rw [upd_ne hb.1, upd_ne (ne_of_none hb.2.2 nl)]
          exact hb.2.2
        · rw [upd_ne hlD, upd_same]
    rintro H1 ⟨as, hso, hpa, sx0⟩
    rw [List.length_map, hll, List.take_length] at hpa
    have s1 : Same H H1 := fun b o e => sx0 b o (ne_of_none e nso) e
    have hp1 := hp.same s1
    have hal : as.length = ps.length := Paired.length hpa
    have B1 : DpAll K (mask S H1) (as.map V.ref) (ps.map lstD) := dpAll_lsts (Paired.mapP hpa fun a p h => mask_at h.2.1 h.2.2)
    have hpos : 1 ≤ ps.length := by
      cases ps with
      | nil => exact absurd rfl hne
      | cons a b => exact Nat.succ_pos _
    -- at
    refine ⟨_, rfl, _, rfl, so, _, rfl, .inl (SqL.of hso), pool, ps.length, ?_, hp1.1, hpos, by omega, fun H2 at' sx2 hp2 hat => ?_⟩
    · rw [List.length_map, hal]
    replace hp2 := hp1.x sx2 hp2
    have hso2 := sx2 _ _ (hp.np nsop) hso
    have B2 := dpAll_same (mask_x hSp sx2) _ _ B1
    have sxT : SameX pool H H2 := (Same.x s1).trans sx2
    -- odd
    refine ⟨by show 1 ≤ sizeLine; decide, fun p1 n1 => ?_⟩
    have D1 := new_tup (K := K) (xs := [V.int 0]) (ds := [.int 0]) n1 (hp2.ne n1) (.cons (.int 0) .nil)
    have S1 := Same.upd (o := .tup [V.int 0]) n1
    generalize upd H2 p1 (.tup [V.int 0]) = G1 at D1 S1 ⊢
    have A1 : DpAll K (mask S G1) [.non, .ref p1] [.none, .tuple [.int 0]] := .cons .non (.cons D1 .nil)
    have P1 := hp2.same S1
    refine ⟨by show 0 ≤ sizeLine; decide, fun p2 n2 => ?_⟩
    have D2 := new_lst (K := K) (xs := []) (ds := []) n2 (P1.ne n2) .nil
    have S2 := Same.upd (o := .lst []) n2
    generalize upd G1 p2 (.lst []) = G2 at D2 S2 ⊢
    have A2 := dpAll_append (dpAll_same (mask_mono (S := S) S2) _ _ A1) (.cons D2 .nil)
    have P2 := P1.same S2
    refine ⟨_, rfl, by show 1 ≤ sizeLine; decide, fun p3 n3 => ?_⟩
    have D3 := new_lst (K := K) (xs := [V.int (n : Int)]) (ds := [.int (n : Int)]) n3 (P2.ne n3) (.cons (.int _) .nil)
    have S3 := Same.upd (o := .lst [V.int (n : Int)]) n3
    generalize upd G2 p3 (.lst [V.int (n : Int)]) = G3 at D3 S3 ⊢
    have A3 := dpAll_append (dpAll_same (mask_mono (S := S) S3) _ _ A2) (.cons D3 .nil)
    have P3 := P2.same S3
    refine ⟨by show 2 ≤ sizeLine; decide, fun p4 n4 => ?_⟩
    have D4 := new_lst (K := K) (xs := [V.int 0, V.int 0]) (ds := [.int 0, .int 0]) n4 (P3.ne n4) (.cons (.int _) (.cons (.int _) .nil))
    have S4 := Same.upd (o := .lst [V.int 0, V.int 0]) n4
    generalize upd G3 p4 (.lst [V.int 0, V.int 0]) = G4 at D4 S4 ⊢
    have A4 := dpAll_append (dpAll_same (mask_mono (S := S) S4) _ _ A3) (.cons D4 .nil)
    have P4 := P3.same S4
    refine ⟨by show 1 ≤ sizeLine; decide, fun p5 n5 => ?_⟩
    have D5 := new_lst (K := K) (xs := [V.bl true]) (ds := [.bool true]) n5 (P4.ne n5) (.cons (.bl _) .nil)
    have S5 := Same.upd (o := .lst [V.bl true]) n5
    generalize upd G4 p5 (.lst [V.bl true]) = G5 at D5 S5 ⊢
    have A5 := dpAll_append (dpAll_same (mask_mono (S := S) S5) _ _ A4) (.cons D5 .nil)
    have P5 := P4.same S5
    refine ⟨by show 1 ≤ sizeLine; decide, fun p6 n6 => ?_⟩
    have D6 := new_lst (K := K) (xs := [V.str "0"]) (ds := [.str "0"]) n6 (P5.ne n6) (.cons (.str _) .nil)
    have S6 := Same.upd (o := .lst [V.str "0"]) n6
    generalize upd G5 p6 (.lst [V.str "0"]) = G6 at D6 S6 ⊢
    have A6 := dpAll_append (dpAll_same (mask_mono (S := S) S6) _ _ A5) (.cons D6 .nil)
    have P6 := P5.same S6
    refine ⟨1, rfl, by show 1 ≤ sizeLine; decide, fun p7 n7 => ?_⟩
    have D7 := new_lst (K := K) (xs := [V.int (-1)]) (ds := [.int (-1)]) n7 (P6.ne n7) (.cons (.int _) .nil)
    have S7 := Same.upd (o := .lst [V.int (-1)]) n7
    generalize upd G6 p7 (.lst [V.int (-1)]) = G7 at D7 S7 ⊢
    have A7 := dpAll_append (dpAll_same (mask_mono (S := S) S7) _ _ A6) (.cons D7 .nil)
    have P7 := P6.same S7
    have efull : rgV 0 (n : Int) = vints (List.range n) := by
      unfold rgV
      rw [show ((n : Int) - 0).toNat = n by omega]
      refine List.map_congr_left fun i _ => ?_
      rw [Int.zero_add]
    refine ⟨_, rfl, _, rfl, ⟨by decide, by decide, by omega, by omega, by omega⟩, fun pr nr => ?_⟩
    rw [efull]
    have Sr := Same.upd (o := .lst (vints (List.range n))) nr
    have hr' : (upd G7 pr (.lst (vints (List.range n)))) pr = some (.lst (vints (List.range n))) := upd_same
    generalize upd G7 pr (.lst (vints (List.range n))) = Gr at Sr hr' ⊢
    have Pr := P7.same Sr
    refine ⟨pr, _, rfl, SqL.of hr', fun p8 n8 => ?_⟩
    have D8 := new_lst (K := K) (xs := (vints (List.range n)).reverse) (ds := (intsD (List.range n)).reverse) n8 (Pr.ne n8) (dpAll_rev (dpAll_ints _))
    have S8 := Same.upd (o := .lst (vints (List.range n)).reverse) n8
    generalize upd Gr p8 (.lst (vints (List.range n)).reverse) = G8 at D8 S8 ⊢
    have A8 := dpAll_append (dpAll_same (mask_mono (S := S) (Sr.trans S8)) _ _ A7) (.cons D8 .nil)
    have P8 := Pr.same S8
    refine ⟨by show 1 ≤ sizeLine; decide, fun pi ni => ?_⟩
    have Di := new_lst (K := K) (xs := [V.int 0]) (ds := [.int 0]) ni (P8.ne ni) (.cons (.int _) .nil)
    have Si := Same.upd (o := .lst [V.int 0]) ni
    generalize upd G8 pi (.lst [V.int 0]) = Gi at Di Si ⊢
    have Pi := P8.same Si
    refine ⟨by show 1 ≤ sizeLine; decide, fun p9 n9 => ?_⟩
    have D9 := new_lst (K := K) (xs := [V.ref pi]) (ds := [.list [.int 0]]) n9 (Pi.ne n9) (.cons Di .nil)
    have S9 := Same.upd (o := .lst [V.ref pi]) n9
    generalize upd Gi p9 (.lst [V.ref pi]) = G9 at D9 S9 ⊢
    have A9 := dpAll_append (dpAll_same (mask_mono (S := S) (Si.trans S9)) _ _ A8) (.cons D9 .nil)
    have P9 := Pi.same S9
    refine ⟨by show 10 ≤ sizeLine; decide, fun po no => ?_⟩
    have So := Same.upd (o := .lst [.non, .ref p1, .ref p2, .ref p3, .ref p4, .ref p5, .ref p6, .ref p7, .ref p8, .ref p9]) no
    have ho : (upd G9 po (.lst [.non, .ref p1, .ref p2, .ref p3, .ref p4, .ref p5, .ref p6, .ref p7, .ref p8, .ref p9])) po = some (.lst [.non, .ref p1, .ref p2, .ref p3, .ref p4, .ref p5, .ref p6, .ref p7, .ref p8, .ref p9]) := upd_same
    have npo := P9.ne no
    generalize upd G9 po (.lst [.non, .ref p1, .ref p2, .ref p3, .ref p4, .ref p5, .ref p6, .ref p7, .ref p8, .ref p9]) = Go at So ho ⊢
    have Po := P9.same So
    have Sodd : Same H2 Go := S1.trans (S2.trans (S3.trans (S4.trans (S5.trans (S6.trans (S7.trans (Sr.trans (S8.trans (Si.trans (S9.trans So))))))))))
    have Ao : DpAll K (mask S Go) [.non, .ref p1, .ref p2, .ref p3, .ref p4, .ref p5, .ref p6, .ref p7, .ref p8, .ref p9]
        [.none, .tuple [.int 0], .list [], .list [.int (n : Int)], .list [.int 0, .int 0], .list [.bool true], .list [.str "0"], .list [.int (-1)], .list (intsD (List.range n)).reverse, .list [.list [.int 0]]] := dpAll_same (mask_mono (S := S) So) _ _ A9
    have EL : ∀ d ∈ ([.none, .tuple [.int 0], .list [], .list [.int (n : Int)], .list [.int 0, .int 0], .list [.bool true], .list [.str "0"], .list [.int (-1)], .list (intsD (List.range n)).reverse, .list [.list [.int 0]]] : List PyData), ElOk d := by
      have i0 : ElOk (.int 0) := int_el (j := 0) (by decide)
      intro d hd
      simp only [List.mem_cons, List.not_mem_nil, or_false] at hd
      rcases hd with rfl | rfl | rfl | rfl | rfl | rfl | rfl | rfl | rfl | rfl
      · exact ⟨rfl, by decide, by decide, rfl, rfl, fun ds e => by cases e⟩
      · exact ⟨rfl, by decide, by decide, i0.ish ▸ by decide +kernel, by decide +kernel, fun ds e => by cases e⟩
      · exact ⟨rfl, by decide, by decide, rfl, rfl, fun ds e => by cases e; exact Nat.zero_le _⟩
      · exact lst_el (p := [n]) (fun j hj => by rw [List.mem_singleton.mp hj]; omega) (by simp)
      · exact lst_el (p := [0, 0]) (fun j hj => by simp at hj; omega) (by simp)
      · exact ⟨rfl, by decide, by decide, rfl, rfl, fun ds e => by cases e; decide⟩
      · exact ⟨by decide +kernel, by decide, by decide +kernel, rfl, rfl, fun ds e => by cases e; decide⟩
      · exact ⟨rfl, by decide, by decide +kernel, by decide +kernel, by decide +kernel, fun ds e => by cases e; decide⟩
      · have e : (.list (intsD (List.range n)).reverse : PyData) = lstD (List.range n).reverse := by
          show PyData.list (List.map (fun (j : Nat) => PyData.int (j : Int)) (List.range n)).reverse = PyData.list (List.map (fun (j : Nat) => PyData.int (j : Int)) (List.range n).reverse)
          rw [List.map_reverse]
        rw [e]
        exact lst_el (fun j hj => by have := List.mem_range.mp (List.mem_reverse.mp hj); omega) (by rw [List.length_reverse, List.length_range]; omega)
      · exact ⟨rfl, by decide, by decide +kernel, by decide +kernel, by decide +kernel, fun ds e => by cases e; decide⟩
    refine ⟨_, rfl, pool, 10, rfl, Po.1, by decide, by decide, fun H3 j1 sx3 hp3 hj1 => ?_⟩
    replace hp3 := Po.x sx3 hp3
    obtain ⟨ov, od, eov, hod, Dod⟩ := dpAll_at Ao (j := j1) hj1
    have Dod3 := dp_same (mask_x hSp sx3) _ _ Dod
    have Eod := EL od hod
    have hso3 := sx3 _ _ (hp.np nsop) (Sodd _ _ hso2)
    have B3 := dpAll_same (mask_x hSp sx3) _ _ (dpAll_same (mask_mono (S := S) Sodd) _ _ B2)
    have sxT3 : SameX pool H H3 := (sxT.trans (Same.x Sodd)).trans sx3
    refine ⟨po, _, (j1 : Int), ov, rfl, rfl, SqL.of (sx3 _ _ (hp3.np npo) ho), atI_nat eov, ?_⟩
    have EB : ∀ e ∈ ps.map lstD, ElOk e := fun e he => by
      obtain ⟨p, hpm, rfl⟩ := List.mem_map.mp he
      exact lst_el (hps p hpm).2 (hps p hpm).1
    have hal3 : (as.map V.ref).length ≤ 300 := by
      rw [List.length_map]
      omega
    have hdl : (ps.map lstD).length ≤ 300 := by rwa [List.length_map]
    generalize as.map V.ref = xs at hso3 B3 hal3 ⊢
    generalize ps.map lstD = ds at B3 EB hdl ⊢
    have L2 : ∀ {a b : Nat}, a ≤ 600 → b ≤ 300 → a + b ≤ sizeLine := fun h1 h2 => Nat.le_of_lt (small1000 (by omega))
    obtain ⟨e1, C1, M1, N1⟩ := dpAll_cut B3 none (some (at' : Int))
    obtain ⟨e2, C2, M2, N2⟩ := dpAll_cut B3 (some ((at' : Int) + 1)) none
    obtain ⟨e6, C6, M6, N6⟩ := dpAll_cut B3 (some 1) none
    -- some[:at] + some[at + 1:]
    refine ⟨_, rfl, _, rfl, _, rfl, so, xs, rfl, SqL.of hso3, fun q1 m1 => ?_⟩
    have T1 := Same.upd (o := .lst (cutV xs none (some (at' : Int)))) m1
    have hq1 : (upd H3 q1 (.lst (cutV xs none (some (at' : Int))))) q1 = some (.lst (cutV xs none (some (at' : Int)))) := upd_same
    generalize upd H3 q1 (.lst (cutV xs none (some (at' : Int)))) = K1 at T1 hq1 ⊢
    have Q1 := hp3.same T1
    refine ⟨_, rfl, _, rfl, _, _, rfl, rfl, _, rfl, so, xs, rfl, SqL.of (T1 _ _ hso3), fun q2 m2 => ?_⟩
    have T2 := Same.upd (o := .lst (cutV xs (some ((at' : Int) + 1)) none)) m2
    have hq2 : (upd K1 q2 (.lst (cutV xs (some ((at' : Int) + 1)) none))) q2 = some (.lst (cutV xs (some ((at' : Int) + 1)) none)) := upd_same
    generalize upd K1 q2 (.lst (cutV xs (some ((at' : Int) + 1)) none)) = K2 at T2 hq2 ⊢
    have Q2 := Q1.same T2
    refine ⟨q1, q2, _, _, rfl, rfl, T2 _ _ hq1, hq2, ?_, fun q3 m3 => ?_⟩
    · have h1 := cutV_length xs none (some (at' : Int))
      have h2 := cutV_length xs (some ((at' : Int) + 1)) none
      exact L2 (by omega) (by omega)
    have T3 := Same.upd (o := .lst (cutV xs none (some (at' : Int)) ++ cutV xs (some ((at' : Int) + 1)) none)) m3
    have T13 := T1.trans T2
    have R0 := new_lst (K := K) m3 (Q2.ne m3) (dpAll_same (mask_mono (S := S) T13) _ _ (dpAll_append C1 C2))
    generalize upd K2 q3 (.lst (cutV xs none (some (at' : Int)) ++ cutV xs (some ((at' : Int) + 1)) none)) = K3 at T3 R0 ⊢
    have Q3 := Q2.same T3
    replace T3 := T13.trans T3
    have V0 : ValOk (.list (e1 ++ e2)) := val_list (fun e he => by
      rcases List.mem_append.mp he with h | h
      · exact EB e (M1 e h)
      · exact EB e (M2 e h)) (by rw [List.length_append]; omega)
    -- some + [odd]
    refine ⟨_, rfl, _, rfl, by show 1 ≤ sizeLine; decide, fun q4 m4 => ?_⟩
    have T4 := Same.upd (o := .lst [ov]) m4
    have hq4 : (upd K3 q4 (.lst [ov])) q4 = some (.lst [ov]) := upd_same
    generalize upd K3 q4 (.lst [ov]) = K4 at T4 hq4 ⊢
    have Q4 := Q3.same T4
    have T4' := T3.trans T4
    refine ⟨so, q4, _, _, rfl, rfl, T4' _ _ hso3, hq4, L2 (by omega) (by show 1 ≤ 300; decide), fun q5 m5 => ?_⟩
    have T5 := Same.upd (o := .lst (xs ++ [ov])) m5
    have R1 := new_lst (K := K) m5 (Q4.ne m5) (dpAll_same (mask_mono (S := S) T4') _ _ (dpAll_append B3 (.cons Dod3 .nil)))
    generalize upd K4 q5 (.lst (xs ++ [ov])) = K5 at T5 R1 ⊢
    have Q5 := Q4.same T5
    have AR5 : DpAll K (mask S K5) [.ref q3, .ref q5] [.list (e1 ++ e2), .list (ds ++ [od])] := .cons (dp_same (mask_mono (S := S) (T4.trans T5)) _ _ R0) (.cons R1 .nil)
    have V1 : ValOk (.list (ds ++ [od])) := val_list (fun e he => by
      rcases List.mem_append.mp he with h | h
      · exact EB e h
      · rw [List.mem_singleton] at h
        rw [h]
        exact Eod) (by rw [List.length_append, List.length_singleton]; omega)
    replace T5 := T4'.trans T5
    -- some[::-1]
    refine ⟨_, rfl, so, xs, rfl, SqL.of (T5 _ _ hso3), fun q6 m6 => ?_⟩
    have T6 := Same.upd (o := .lst xs.reverse) m6
    have R2 := new_lst (K := K) m6 (Q5.ne m6) (dpAll_same (mask_mono (S := S) T5) _ _ (dpAll_rev B3))
    generalize upd K5 q6 (.lst xs.reverse) = K6 at T6 R2 ⊢
    have Q6 := Q5.same T6
    have AR6 := dpAll_append (dpAll_same (mask_mono (S := S) T6) _ _ AR5) (.cons R2 .nil)
    replace T6 := T5.trans T6
    have V2 : ValOk (.list ds.reverse) := val_list (fun e he => EB e (List.mem_reverse.mp he)) (by rw [List.length_reverse]; omega)
    -- some + some
    refine ⟨_, rfl, _, rfl, so, so, xs, xs, rfl, rfl, T6 _ _ hso3, T6 _ _ hso3, L2 (by omega) (by omega), fun q7 m7 => ?_⟩
    have T7 := Same.upd (o := .lst (xs ++ xs)) m7
    have R3 := new_lst (K := K) m7 (Q6.ne m7) (dpAll_same (mask_mono (S := S) T6) _ _ (dpAll_append B3 B3))
    generalize upd K6 q7 (.lst (xs ++ xs)) = K7 at T7 R3 ⊢
    have Q7 := Q6.same T7
    have AR7 := dpAll_append (dpAll_same (mask_mono (S := S) T7) _ _ AR6) (.cons R3 .nil)
    replace T7 := T6.trans T7
    have V3 : ValOk (.list (ds ++ ds)) := val_list (fun e he => by
      rcases List.mem_append.mp he with h | h <;> exact EB e h) (by rw [List.length_append]; omega)
    -- tuple(some)
    refine ⟨_, rfl, so, xs, rfl, .inl ⟨SqL.of (T7 _ _ hso3), fun q8 m8 => ?_⟩⟩
    have T8 := Same.upd (o := .tup xs) m8
    have R4 := new_tup (K := K) m8 (Q7.ne m8) (dpAll_same (mask_mono (S := S) T7) _ _ B3)
    generalize upd K7 q8 (.tup xs) = K8 at T8 R4 ⊢
    have Q8 := Q7.same T8
    have AR8 := dpAll_append (dpAll_same (mask_mono (S := S) T8) _ _ AR7) (.cons R4 .nil)
    replace T8 := T7.trans T8
    have V4 : ValOk (.tuple ds) := val_tuple EB (by omega)
    -- some + [[0]]
    refine ⟨_, rfl, by show 1 ≤ sizeLine; decide, fun q9 m9 => ?_⟩
    have T9 := Same.upd (o := .lst [V.int 0]) m9
    have R9 := new_lst (K := K) (xs := [V.int 0]) (ds := [.int 0]) m9 (Q8.ne m9) (.cons (.int _) .nil)
    generalize upd K8 q9 (.lst [V.int 0]) = K9 at T9 R9 ⊢
    have Q9 := Q8.same T9
    have AR9 := dpAll_same (mask_mono (S := S) T9) _ _ AR8
    replace T9 := T8.trans T9
    refine ⟨by show 1 ≤ sizeLine; decide, fun qa ma => ?_⟩
    have Ta := Same.upd (o := .lst [V.ref q9]) ma
    have hqa : (upd K9 qa (.lst [V.ref q9])) qa = some (.lst [V.ref q9]) := upd_same
    generalize upd K9 qa (.lst [V.ref q9]) = Ka at Ta hqa ⊢
    have Qa := Q9.same Ta
    have ARa := dpAll_same (mask_mono (S := S) Ta) _ _ AR9
    have Ra := dp_same (mask_mono (S := S) Ta) _ _ R9
    replace Ta := T9.trans Ta
    refine ⟨so, qa, _, _, rfl, rfl, Ta _ _ hso3, hqa, L2 (by omega) (by show 1 ≤ 300; decide), fun qb mb => ?_⟩
    have Tb := Same.upd (o := .lst (xs ++ [V.ref q9])) mb
    have R5 := new_lst (K := K) mb (Qa.ne mb) (dpAll_append (dpAll_same (mask_mono (S := S) Ta) _ _ B3) (.cons Ra .nil))
    generalize upd Ka qb (.lst (xs ++ [V.ref q9])) = Kb at Tb R5 ⊢
    have Qb := Qa.same Tb
    have ARb := dpAll_append (dpAll_same (mask_mono (S := S) Tb) _ _ ARa) (.cons R5 .nil)
    replace Tb := Ta.trans Tb
    have V5 : ValOk (.list (ds ++ [.list [.int 0]])) := val_list (fun e he => by
      rcases List.mem_append.mp he with h | h
      · exact EB e h
      · rw [List.mem_singleton] at h
        rw [h]
        exact lst_el (p := [0]) (fun j hj => by rw [List.mem_singleton.mp hj]; decide) (by decide)) (by rw [List.length_append, List.length_singleton]; omega)
    -- some[1:]
    refine ⟨_, rfl, 1, rfl, so, xs, rfl, SqL.of (Tb _ _ hso3), fun qc mc => ?_⟩
    have Tc := Same.upd (o := .lst (cutV xs (some 1) none)) mc
    have R6 := new_lst (K := K) mc (Qb.ne mc) (dpAll_same (mask_mono (S := S) Tb) _ _ C6)
    generalize upd Kb qc (.lst (cutV xs (some 1) none)) = Kc at Tc R6 ⊢
    have Qc := Qb.same Tc
    have ARc := dpAll_append (dpAll_same (mask_mono (S := S) Tc) _ _ ARb) (.cons R6 .nil)
    replace Tc := Tb.trans Tc
    have V6 : ValOk (.list e6) := val_list (fun e he => EB e (M6 e he)) (by omega)
    refine ⟨by show 7 ≤ sizeLine; decide, fun qd md => ?_⟩
    have Td := Same.upd (o := .lst [.ref q3, .ref q5, .ref q6, .ref q7, .ref q8, .ref qb, .ref qc]) md
    have hqd : (upd Kc qd (.lst [.ref q3, .ref q5, .ref q6, .ref q7, .ref q8, .ref qb, .ref qc])) qd = some (.lst [.ref q3, .ref q5, .ref q6, .ref q7, .ref q8, .ref qb, .ref qc]) := upd_same
    have nqd := Qc.ne md
    generalize upd Kc qd (.lst [.ref q3, .ref q5, .ref q6, .ref q7, .ref q8, .ref qb, .ref qc]) = Kd at Td hqd ⊢
    have Qd := Qc.same Td
    have ARd : DpAll K (mask S Kd) [.ref q3, .ref q5, .ref q6, .ref q7, .ref q8, .ref qb, .ref qc] [.list (e1 ++ e2), .list (ds ++ [od]), .list ds.reverse, .list (ds ++ ds), .tuple ds, .list (ds ++ [.list [.int 0]]), .list e6] :=
      dpAll_same (mask_mono (S := S) Td) _ _ ARc
    have EV : ∀ d ∈ ([.list (e1 ++ e2), .list (ds ++ [od]), .list ds.reverse, .list (ds ++ ds), .tuple ds, .list (ds ++ [.list [.int 0]]), .list e6] : List PyData), ValOk d := by
      intro d hd
      simp only [List.mem_cons, List.not_mem_nil, or_false] at hd
      rcases hd with rfl | rfl | rfl | rfl | rfl | rfl | rfl
      · exact V0
      · exact V1
      · exact V2
      · exact V3
      · exact V4
      · exact V5
      · exact V6
    refine ⟨_, rfl, _, rfl, pool, 7, rfl, Qd.1, by decide, by decide, fun H5 j5 sx5 hp5 hj5 => ?_⟩
    obtain ⟨fv, fd, efv, hfd, Dfd⟩ := dpAll_at ARd (j := j5) hj5
    refine ⟨qd, _, (j5 : Int), fv, rfl, rfl, SqL.of (sx5 _ _ (Qd.np nqd) hqd), atI_nat efv, ?_⟩
    exact q H5 fv fd ((sxT3.trans (Same.x (Tc.trans Td))).trans sx5) hp5 (dp_same (mask_x hSp sx5) _ _ Dfd) (EV fd hfd)
end
end K57
end

section
set_option Elab.async false
set_option linter.all false
set_option maxRecDepth 100000
set_option maxHeartbeats 4000000
namespace K57
open PySem PySem.Spec PyProof.Rows L2 StX ClX
/-! repr by a relation, != of equal lists of texts, sorting is unique -/
def rRepr (K : PySem.W.Frag) : List V → Hp → VK → Prop := fun xs H Q => ∃ x d, xs = [x] ∧ RdD K H x d ∧ d.showable = true ∧ d.shown.length ≤ sizeLine ∧ d.depth ≤ 60 ∧ Q (.str d.shown) H
section
variable {X : Cx}
theorem call_rep (hg : X.A.guards = some []) (hu : X.A.units + 64 < cLine) : CallR X (.builtin "repr") (rRepr X.K) := call_reprD hg hu
def rNeStrs (K : PySem.W.Frag) : R2 := fun x y H Q => ∃ (a b : Addr) (ss : List Str), x = .ref a ∧ y = .ref b ∧ SqL K H a (ss.map V.str) ∧ SqL K H b (ss.map V.str) ∧ Q (.bl false) H
theorem op_neStrs (hu : X.A.units < cLine) : OpR X (compareOp .NotEq) (rNeStrs X.K) := by
  intro pins s σ H x y v u Q I rx ry h
  obtain ⟨a, b, ss, rfl, rfl, ha, hb, q⟩ := h
  cases rx
  cases ry
  obtain ⟨its, r1, p1, _⟩ := I.list ha
  obtain ⟨jts, r2, p2, _⟩ := I.list hb
  have l1 : its.length = ss.length := by rw [← r1.length, List.length_map]
  have l2 : jts.length = ss.length := by rw [← r2.length, List.length_map]
  refine PySem.SeqAt.RcNeAt.lists (e := fun _ => true) (plainL_is p1) (plainL_is p2) (by simp [l1, l2]) hu (fun j h1 h2 => ?_) _ _ _ _ ⟨.bl false, H, I, by simp [L2.RelV], q⟩
  have h1' : j < ss.length := by simpa [l1] using h1
  have e : (ss.map V.str)[j]? = some (.str ss[j]) := by rw [List.getElem?_map, List.getElem?_eq_getElem h1']; rfl
  obtain ⟨u1, e1, q1⟩ := r1.get e
  obtain ⟨u2, e2, q2⟩ := r2.get e
  have f1 : its.toArray[j] = u1 := by
    have := List.getElem?_eq_some_iff.mp e1
    simpa using this.2
  have f2 : jts.toArray[j] = u2 := by
    have := List.getElem?_eq_some_iff.mp e2
    simpa using this.2
  rw [f1, f2]
  have h := eqAt_V (A := X.A.in1) (s := s) q1 q2 rfl rfl
  have e3 : eqV (.str ss[j]) (.str ss[j]) = true := by
    show (ss[j] == ss[j]) = true
    simp
  rw [e3] at h
  exact h
end
def leS (a b : Str) : Prop := a.cps.toList ≤ b.cps.toList
theorem rising_pw : ∀ (l : List Str) (p : Str), risingS p l = true → (p :: l).Pairwise leS
  | [], p, _ => List.pairwise_singleton _ _
  | x :: r, p, h => by
    have h0 : (!ltCps x.cps.toList p.cps.toList && risingS x r) = true := h
    obtain ⟨h1, h2⟩ := Bool.and_eq_true_iff.mp h0
    have ih := rising_pw r x h2
    have hp : leS p x := by
      rw [ltCps_eq] at h1
      have h3 : ¬ x.cps.toList < p.cps.toList := by simpa using h1
      exact List.not_lt.mp h3
    refine List.pairwise_cons.mpr ⟨fun y hy => ?_, ih⟩
    rcases List.mem_cons.mp hy with rfl | hy
    · exact hp
    · exact List.le_trans hp ((List.pairwise_cons.mp ih).1 y hy)
theorem sorted_pw {l : List Str} (h : sortedS l = true) : l.Pairwise leS := by
  cases l with
  | nil => exact .nil
  | cons x r => exact rising_pw r x h
theorem sorted_uniq {xs ys zs : List Str} (h1 : ys.Perm xs) (h2 : zs.Perm xs) (s1 : sortedS ys = true) (s2 : sortedS zs = true) : ys = zs := by
  refine List.Perm.eq_of_pairwise (le := leS) (fun a b _ _ ha hb => ?_) (sorted_pw s1) (sorted_pw s2) (h1.trans h2.symm)
  have e : a.cps.toList = b.cps.toList := List.le_antisymm ha hb
  cases a
  cases b
  congr 1
  exact Array.toList_inj.mp e
end K57
end

section
set_option Elab.async false
set_option linter.all false
set_option maxRecDepth 100000
set_option maxHeartbeats 4000000
namespace K57
open PySem PySem.Spec PyProof.Rows L2 StX ClX
/-! _law_right -/
def nP (pool : Addr) : Addr → Bool := fun b => b == pool
theorem nP_ne {pool b : Addr} (h : b ≠ pool) : nP pool b = false := beq_eq_false_iff_ne.mpr h
/-- the heap Hi is H, grown, but for what S hides -/
def St (S : Addr → Bool) (pool : Addr) (H Hi : Hp) : Prop := PT S pool Hi ∧ Same (mask S H) (mask S Hi)
theorem St.same {S : Addr → Bool} {pool : Addr} {H Hi Hj : Hp} (a : St S pool H Hi) (s : Same Hi Hj) : St S pool H Hj := ⟨a.1.same s, a.2.trans (mask_mono s)⟩
theorem St.x {S : Addr → Bool} {pool : Addr} {H Hi Hj : Hp} (a : St S pool H Hi) (s : SameX pool Hi Hj) (q : PoolAt Hj pool) : St S pool H Hj := ⟨a.1.x s q, a.2.trans (mask_x a.1.2.1 s)⟩
theorem mapAt_mask {CM pool : Addr} {H : Hp} {m : Addr} {n : Nat} {g : Fn} (hp : PoolAt H pool) (h : MapAt CM H m n g) : MapAt CM (mask (nP pool) H) m n g := by
  obtain ⟨c, sd, hp, _⟩ := hp
  obtain ⟨dx, d, h1, h2⟩ := h
  exact ⟨dx, d, mask_at (nP_ne (ne_of h1 hp (by intro e; cases e))) h1, mask_at (nP_ne (ne_of h2 hp (by intro e; cases e))) h2⟩
theorem mapsAt_mask {CM pool : Addr} {H : Hp} {n : Nat} (hp : PoolAt H pool) : ∀ {ms : List Addr} {gs : List Fn}, MapsAt CM H n ms gs → MapsAt CM (mask (nP pool) H) n ms gs
  | _, _, .nil => .nil
  | _, _, .cons h r => .cons (mapAt_mask hp h) (mapsAt_mask hp r)
theorem famAt_mask {CF CM pool : Addr} {H : Hp} {f : Addr} {n : Nat} {gs : List Fn} (hp : PoolAt H pool) (h : FamAt CF CM H f n gs) : FamAt CF CM (mask (nP pool) H) f n gs := by
  obtain ⟨dx, t, ms, h1, h2, h3⟩ := h
  have hp' := hp
  obtain ⟨c, sd, hp, _⟩ := hp
  exact ⟨dx, t, ms, mask_at (nP_ne (ne_of h1 hp (by intro e; cases e))) h1, mask_at (nP_ne (ne_of h2 hp (by intro e; cases e))) h2, mapsAt_mask hp' h3⟩
theorem tabsAt_mask {pool : Addr} {H : Hp} {n : Nat} {ds : List Addr} {gs : List Fn} (hp : PoolAt H pool) (h : TabsAt H n ds gs) : TabsAt (mask (nP pool) H) n ds gs := by
  obtain ⟨c, sd, hp, _⟩ := hp
  exact Paired.mapP h fun d g hd => mask_at (nP_ne (ne_of hd hp (by intro e; cases e))) hd
def dW : Option (List Nat) → PyData
  | none => .none
  | some w => tupD w
theorem vword_dp {K : PySem.W.Frag} {H : Hp} {v : V} {o : Option (List Nat)} (h : VWord H v o) : Dp K H v (dW o) := by
  cases o with
  | none =>
    cases h
    exact .non
  | some w =>
    obtain ⟨q, rfl, h2⟩ := h
    exact .tup (SqT.of h2) (dpAll_ints _)
theorem vword_isN {H : Hp} {v : V} {o : Option (List Nat)} (h : VWord H v o) : decide (v = .non) = o.isNone := by
  cases o with
  | none =>
    cases h
    rfl
  | some w =>
    obtain ⟨q, rfl, h2⟩ := h
    rfl
structure WFacts (n : Nat) (gs : List Fn) (w : List Nat) : Prop where
  len : w.length ≤ 128
  ix : ∀ i ∈ w, i < gs.length
  ep : walkP n gs w = []
theorem word_facts {n : Nat} {gs : List Fn} {k0 : Nat} (hn : n ≤ 7) (h0 : (bfs n gs k0).length ≤ k0) {w : List Nat} (h : lookW (bfs n gs k0) [] = some w) : WFacts n gs w := by
  have e : bfs n gs k0 = bfs n gs (2 ^ n) := bfs_uniq h0 (bfs_few n gs _)
  rw [e] at h
  have hm : ([] : List Nat) ∈ keys (bfs n gs (2 ^ n)) := by
    refine Classical.byContradiction fun c => ?_
    rw [lookW_none c] at h
    cases h
  obtain ⟨w', e', m⟩ := lookW_some hm
  rw [h] at e'
  cases e'
  have wf := bfs_words n gs _ _ m
  have hp : (2 : Nat) ^ n ≤ 2 ^ 7 := Nat.pow_le_pow_right (by decide) hn
  have h128 : (2 : Nat) ^ 7 = 128 := by decide
  have hl : w.length ≤ 2 ^ n := wf.len
  exact ⟨by omega, wf.ix, wf.at_.symm⟩
theorem dW_ok {o : Option (List Nat)} (h : ∀ w, o = some w → w.length ≤ 1000 ∧ ∀ j ∈ w, j < 1000) : OkD (dW o) := by
  cases o with
  | none => exact ⟨rfl, by decide, by decide, rfl, rfl⟩
  | some w => exact tup_ok (h w rfl).2 (h w rfl).1
def spRight (CF CM : Addr) : Sp := fun vs H Q _ => ∃ pool f tl n gs ds, vs = [.ref pool, .ref f, .ref tl, .int ((n : Nat) : Int)] ∧ PoolAt H pool ∧ tl ≠ pool ∧ H tl = some (.lst (ds.map V.ref)) ∧ FamAt CF CM H f n gs ∧ TabsAt H n ds gs ∧ Small n gs ∧ n ≤ 7 ∧
  ∀ H', SameX pool H H' → PoolAt H' pool → Q (.bl true) H'
/-- a value that may be shown and asked about -/
def RV (K : PySem.W.Frag) (H : Hp) (x : V) : Prop := ∃ d, RdD K H x d ∧ (d.showable = true ∧ d.shown.length ≤ sizeLine ∧ d.depth ≤ 60) ∧ ShortD d
theorem rdD_same {K : PySem.W.Frag} {H H' : Hp} (s : Same H H') {v : V} {d : PyData} (h : RdD K H v d) : RdD K H' v d := by
  rcases h with h | ⟨a, h1, h2, h3⟩
  · exact .inl (dp_same s d v h)
  · exact .inr ⟨a, h1, s _ _ h2, h3⟩
theorem RV.same {K : PySem.W.Frag} {H H' : Hp} (s : Same H H') {x : V} (h : RV K H x) : RV K H' x := by
  obtain ⟨d, h1, h2⟩ := h
  exact ⟨d, rdD_same s h1, h2⟩
theorem RV.of {K : PySem.W.Frag} {H : Hp} {x : V} {d : PyData} (h : Dp K H x d) (o : ValOk d) : RV K H x := ⟨d, .inl h, ⟨o.1.shw, o.1.len, o.1.dep⟩, o.2⟩
abbrev rNotN : R2 := fun x y H Q => y = .non ∧ Q (.bl (!decide (x = .non))) H
abbrev rSortT (K : PySem.W.Frag) : List V → Hp → VK → Prop := fun vs H Q => ∃ (a : Addr) (xs : List Str), vs = [V.ref a] ∧ SqL K H a (xs.map V.str) ∧ ∀ (ys : List Str) (p : Addr), ys.Perm xs → sortedS ys = true → H p = none → Q (.ref p) (upd H p (.lst (ys.map V.str)))
abbrev txOf (ps : List (List Nat)) : List Str := ps.map fun p => (lstD p).shown
abbrev tTexts (K : PySem.W.Frag) (i : Nat) : TE := tLc (iList K (tVar i)) (gName 12) tYes (tCB (rRepr K) (tCons (tVar 12) tNil)) [12]
theorem texts_lc {K : PySem.W.Frag} {σ : L2.St} {H : Hp} {i : Nat} {l : Addr} {ls : List Addr} {ps : List (List Nat)} {Q : VK} (hi : σ[i]? = some (some (.ref l))) (h12 : 12 < σ.length) (hl : H l = some (.lst (ls.map V.ref))) (hls : LstsAt H ls ps) (ok : ∀ p ∈ ps, OkD (lstD p)) (hn : ps.length ≤ 300)
    (q : ∀ D H', H D = none → Same H H' → H' D = some (.lst ((txOf ps).map V.str)) → Q (.ref D) H') : tTexts K i σ H Q := by
  refine ⟨_, hi, l, rfl, ⟨_, SqL.of hl⟩, fun D nD => ?_⟩
  have hll : ls.length = ps.length := Paired.length hls
  refine lc_list (K := K) (a := l) (xs := ls.map V.ref) (fun j H' => H' D = some (.lst ((txOf (ps.take j)).map V.str)) ∧ SameX D H H') ⟨upd_same, (Same.upd nD).x⟩ (fun j H' _ h => SqL.of (h.2 l _ (ne_of_none hl nD) hl)) ?_ ?_
  · rintro j x H2 hx ⟨hD, sx⟩
    rw [List.getElem?_map] at hx
    obtain ⟨a, ea, rfl⟩ := Option.map_eq_some_iff.mp hx
    obtain ⟨p, ep, hap⟩ := L2.paired_get hls ea
    have hj : j < ps.length := (List.getElem?_eq_some_iff.mp ep).1
    have ha2 := sx a _ (ne_of_none hap nD) hap
    have o := ok p (List.mem_of_getElem? ep)
    refine ⟨?_, ?_⟩
    · show (((σ.set 12 none).set 12 (some (.ref a))).set 12 none) = σ.set 12 none
      rw [List.set_set, List.set_set]
    · refine iteT (B := True) ⟨.ref a, ?_, .ref a, lstD p, rfl, .inl (.lst (SqL.of ha2) (dpAll_ints p)), o.shw, o.len, o.dep, _, hD, ?_, upd_same.trans ?_, sx.updx⟩
      · show ((σ.set 12 none).set 12 (some (.ref a)))[12]? = some (some (.ref a))
        rw [List.set_set, List.getElem?_set_self h12]
      · rw [List.length_map, List.length_map, List.length_take]
        exact small1000 (by omega)
      · rw [take_snoc ep]
        show some (HO.lst ((txOf (ps.take j)).map V.str ++ [V.str (lstD p).shown])) = some (HO.lst (((ps.take j ++ [p]).map fun p => (lstD p).shown).map V.str))
        rw [List.map_append, List.map_append]
        rfl
  · rintro H2 ⟨hD, sx⟩
    rw [List.length_map, hll, List.take_length] at hD
    exact q D H2 nD (fun b o e => sx b o (ne_of_none e nD) e) hD
theorem tCons_run {ta : TE} {tr : TA} {σ : L2.St} {H : Hp} {Q : List V → Hp → Prop} (h : ta σ H fun x H1 => tr σ H1 fun xs H2 => Q (x :: xs) H2) : tCons ta tr σ H Q := h
abbrev tPaper (K : PySem.W.Frag) : TS := tIfS (tTest (tOp rNotN (tVar 7) (tC .non))) (tSeq (tDrop (tBM K "list" rAppend (tVar 9) (tCons (tVar 7) tNil))) (tIfS (tTest (tOp (rNeStrs K) (tCB (rSortT K) (tCons (tTexts K 7) tNil)) (tCB (rSortT K) (tCons (tTexts K 8) tNil)))) tNever tNext)) tNext
theorem lsts_upd {H : Hp} {so : Addr} {o : HO} {ls : List Addr} {ps : List (List Nat)} (hm : ∀ a ∈ ls, a ≠ so) (h : LstsAt H ls ps) : LstsAt (upd H so o) ls ps := by
  induction h with
  | nil => exact .nil
  | cons h _ ih => exact .cons (by rw [upd_ne (hm _ List.mem_cons_self)]; exact h) (ih fun a ha => hm a (List.mem_cons_of_mem _ ha))
theorem lsts_keep {H H' : Hp} {ls : List Addr} {ps : List (List Nat)} (h : LstsAt H ls ps) (k : ∀ a ∈ ls, ∀ o, H a = some o → H' a = some o) : LstsAt H' ls ps := by
  induction h with
  | nil => exact .nil
  | cons h _ ih => exact .cons (k _ List.mem_cons_self _ h) (ih fun a ha => k a (List.mem_cons_of_mem _ ha))
theorem lsts_mem {H : Hp} {ls : List Addr} {ps : List (List Nat)} (h : LstsAt H ls ps) {a : Addr} (ha : a ∈ ls) : ∃ p, H a = some (.lst (vints p)) := by
  induction h with
  | nil => cases ha
  | cons h _ ih =>
    rcases List.mem_cons.mp ha with rfl | ha
    · exact ⟨_, h⟩
    · exact ih ha
/-- the part about the returned evidence -/
theorem right_paper {K : PySem.W.Frag} {σ : L2.St} {H : Hp} {D : L2.Ends} {paper : V} {bl so : Addr} {ls : List Addr} {BP : List (List Nat)} {xs0 : List V} (h7 : σ[7]? = some (some paper)) (h8 : σ[8]? = some (some (.ref bl))) (h9 : σ[9]? = some (some (.ref so))) (h12 : 12 < σ.length)
    (hcase : paper = .non ∨ ∃ l ls2, paper = .ref l ∧ H l = some (.lst (ls2.map V.ref)) ∧ LstsAt H ls2 BP ∧ l ≠ so ∧ ∀ a ∈ ls2, a ≠ so) (hso : H so = some (.lst xs0)) (hx0 : xs0.length ≤ 100) (hb : H bl = some (.lst (ls.map V.ref))) (hbl : LstsAt H ls BP) (hbs : bl ≠ so) (hls : ∀ a ∈ ls, a ≠ so)
    (ok : ∀ p ∈ BP, OkD (lstD p)) (hn : BP.length ≤ 300)
    (q : ∀ H' xs', (∀ H0, Same H0 H → H0 so = none → Same H0 H') → H' so = some (.lst xs') → (xs' = xs0 ∨ (paper ≠ .non ∧ xs' = xs0 ++ [paper])) → D.nx σ H') : tPaper K D σ H := by
  refine ⟨_, h7, rfl, _, rfl, ?_⟩
  rcases hcase with rfl | ⟨l, ls2, rfl, hl, hls2, hlso, hlsn⟩
  · rw [decide_eq_true rfl]
    exact iteF (q H xs0 (fun H0 s _ => s) hso (.inl rfl))
  · refine iteT ?_
    refine ⟨_, h9, .inl ⟨rfl, _, SqL.of hso⟩, _, h7, so, xs0, .ref l, rfl, rfl, hso, small1000 (by omega), ?_⟩
    have up : ∀ {b : Addr}, b ≠ so → (upd H so (.lst (xs0 ++ [.ref l]))) b = H b := fun h => upd_ne h
    have lup : ∀ {ls : List Addr}, (∀ a ∈ ls, a ≠ so) → LstsAt H ls BP → LstsAt (upd H so (.lst (xs0 ++ [.ref l]))) ls BP := fun hm h => lsts_upd hm h
    show tIfS (tTest (tOp (rNeStrs K) (tCB (rSortT K) (tCons (tTexts K 7) tNil)) (tCB (rSortT K) (tCons (tTexts K 8) tNil)))) tNever tNext D σ (upd H so (.lst (xs0 ++ [.ref l])))
    show tTest (tOp (rNeStrs K) (tCB (rSortT K) (tCons (tTexts K 7) tNil)) (tCB (rSortT K) (tCons (tTexts K 8) tNil))) σ (upd H so (.lst (xs0 ++ [.ref l]))) _
    show tOp (rNeStrs K) (tCB (rSortT K) (tCons (tTexts K 7) tNil)) (tCB (rSortT K) (tCons (tTexts K 8) tNil)) σ (upd H so (.lst (xs0 ++ [.ref l]))) _
    show tCB (rSortT K) (tCons (tTexts K 7) tNil) σ (upd H so (.lst (xs0 ++ [.ref l]))) _
    show tCons (tTexts K 7) tNil σ (upd H so (.lst (xs0 ++ [.ref l]))) _
    refine tCons_run (texts_lc h7 h12 (by rw [up hlso]; exact hl) (lup hlsn hls2) ok hn fun D1 H1 nD1 s1 hD1 => ?_)
    refine ⟨D1, txOf BP, rfl, SqL.of hD1, fun ys p1 hys sys np1 => ?_⟩
    have s2 := s1.upd2 (o := .lst (ys.map V.str)) np1
    have hp1 : (upd H1 p1 (.lst (ys.map V.str))) p1 = some (.lst (ys.map V.str)) := upd_same
    generalize upd H1 p1 (.lst (ys.map V.str)) = H2 at s2 hp1 ⊢
    show tCons (tTexts K 8) tNil σ H2 _
    refine tCons_run (texts_lc h8 h12 (s2 _ _ (by rw [up hbs]; exact hb)) ((lup hls hbl).same s2) ok hn fun D2 H3 nD2 s3 hD2 => ?_)
    refine ⟨D2, txOf BP, rfl, SqL.of hD2, fun zs p2 hzs szs np2 => ?_⟩
    have s4 := s3.upd2 (o := .lst (zs.map V.str)) np2
    have hp2 : (upd H3 p2 (.lst (zs.map V.str))) p2 = some (.lst (zs.map V.str)) := upd_same
    generalize upd H3 p2 (.lst (zs.map V.str)) = H4 at s4 hp2 ⊢
    have ezs : zs = ys := sorted_uniq hzs hys szs sys
    subst ezs
    refine ⟨p1, p2, zs, rfl, rfl, SqL.of (s4 _ _ hp1), SqL.of hp2, _, rfl, iteF ?_⟩
    refine q H4 (xs0 ++ [.ref l]) (fun H0 s n0 => ((s.set n0).trans s2).trans s4) (s4 _ _ (s2 _ _ upd_same)) (.inr ⟨by simp, rfl⟩)
abbrev tWord (X : Cx) (CF CM : Addr) : TT := tAnd (tTest (tOp rNotN (tVar 6) (tC .non))) (tTest (tOp (rNeOwnR CM (spEqM CM)) (tCallO X CF (spFCall CF CM) E0 (tVar 1) (tCons (tVar 6) tNil)) (tCMeth CM (spNew CM fun _ => noF) E0 (tC (.ref CM)) (tCons (tVar 3) tNil))))
theorem right_word {X : Cx} {CF CM : Addr} {σ : L2.St} {H : Hp} {told : V} {f : Addr} {n : Nat} {gs : List Fn} {o : Option (List Nat)} {Q : Bool → Hp → Prop} (h6 : σ[6]? = some (some told)) (h1 : σ[1]? = some (some (.ref f))) (h3 : σ[3]? = some (some (.int (n : Int)))) (hw : VWord H told o)
    (wf : ∀ w, o = some w → WFacts n gs w) (hF : FamAt CF CM H f n gs) (SM : Small n gs) (q : ∀ H', Same H H' → Q false H') : tWord X CF CM σ H Q := by
  refine ⟨_, h6, rfl, _, rfl, ?_⟩
  rw [vword_isN hw]
  cases o with
  | none => exact iteF (q H (.refl H))
  | some w =>
    refine iteT ?_
    obtain ⟨t, rfl, ht⟩ := hw
    have W := wf w rfl
    obtain ⟨dx, tt, ms, f1, f2, f3⟩ := id hF
    refine ⟨_, h1, f, rfl, _, h6, .inr ⟨dx, _, f1⟩, f, t, n, gs, w, rfl, hF, ht, Nat.le_trans W.len (by decide), SM.few, SM.ne, W.ix, SM.good, SM.n1, SM.n3, fun H1 m s1 hm => ?_⟩
    refine ⟨rfl, _, h3, n, rfl, SM.n1, SM.n3, fun H2 m2 s2 _ hm2 => ?_⟩
    have hm' := hm.same s2
    obtain ⟨d1, d2, e1, e2⟩ := id hm'
    obtain ⟨d3, d4, e3, e4⟩ := id hm2
    refine ⟨m, m2, _, _, _, _, rfl, rfl, e1, e3, m, m2, n, _, _, rfl, hm', hm2, good_no n, prod_empty SM.good W.ep, true, rfl, _, rfl, ?_⟩
    exact q H2 (s1.trans s2)
section
variable {P : Program} {w : World} {K : PySem.W.Frag} {mg : Str → Option Value} {base : Heap} {k : Nat}
abbrev nmRight : List Str := ["_law_pool", "_law_family_here", "_law_tables", "_law_size", "_law_known", "_law_due", "_law_told", "_law_paper", "_law_base", "_law_some", "_law_value", "_law_kept", "_law_places", "_law_turn"]
theorem scRight : FnScope nmRight ["_law_pool", "_law_family_here", "_law_tables", "_law_size"] (defScope (top 53)) := ⟨rfl, rfl, rfl, by decide +kernel, rfl, by decide +kernel, by decide +kernel⟩
theorem ok_right (T : TX K mg) : FnG P w K mg base (k + 9) T.a_lRight (spRight T.CF T.CM) := by
  refine T.d_lRight.okG scRight (fun vs H Q E h => ?_) (fun cdv A outer s H vs Q hr hg h => ?_)
  · obtain ⟨pool, f, tl, n, gs, ds, rfl, _⟩ := h
    rfl
  · obtain ⟨pool, f, tl, n, gs, ds, rfl, hp, htp, htl, hF, hT, SM, hn7, q⟩ := h
    have hu := hu_of hr
    have hu0 := hr.units0
    have hu64 := hr.units
    refine ⟨_, pss_cons (ps_set (i := 4) scRight.nd rfl (.inl rfl) (pe_cR (ok_lSearch (k := 0) T) (hr.mono (by omega)) rfl T.m_lSearch T.d_lSearch.kp (pa_cons (pv 2) (pa_cons (pv 3) pa_nil))))
      (pss_cons (ps_par3 (i := 5) (j := 6) (l := 7) rfl scRight.nd rfl rfl rfl (by decide) (by decide) (by decide) rfl rfl rfl (pa_cons (pe_dget1 hu (pv 4) (pe_tup pa_nil) ⟨rfl, rfl, rfl, rfl⟩)
          (pa_cons (pe_cR (ok_losing (k := 0) T) (hr.mono (by omega)) rfl T.m_losingWord T.d_losingWord.kp (pa_cons (pv 1) pa_nil)) (pa_cons (pe_cR (ok_holding (k := 0) T) (hr.mono (by omega)) rfl T.m_holdingSets T.d_holdingSets.kp (pa_cons (pv 1) pa_nil)) pa_nil))) rfl)
      (pss_cons (ps_if (PW.pt (pw_or (pt_cmpR op_ne (pe_callB (call_rep hg hu64) rfl T.z_repr boot_repr (pa_cons (pv 6) pa_nil)) (pe_callB (call_rep hg hu64) rfl T.z_repr boot_repr (pa_cons (pv 5) pa_nil)) (nomark _))
          (pw_or1 (pt_cmpR op_ne (pe_cmpR op_isN (pv 7) pe_non (nomark _)) (pe_cmpR op_notN (pv 5) pe_non (nomark _)) (nomark _))))) pss_never pss_nil)
      (pss_cons (ps_if (PW.pt (pw_and (pt_cmpR op_notN (pv 6) pe_non (nomark _)) (pw_and1 (pt_cmpR (op_neOwnR (C := T.CM) (ok_mEq (k := 0) T) (hr.mono (by omega)) T.moM T.hNe T.hEq T.hEqf)
          (pe_callO (pv 1) T.hCall (ok_fCall (k := 0) T) (hr.mono (by omega)) pass0 (pa_cons (pv 6) pa_nil)) (pe_cmeth (pe_glob (v := .ref T.CM) rfl T.mgM rfl) T.rdM T.o_cEmpty (ok_mEmpty (k := 0) T) (hr.mono (by omega)) pass0 (pa_cons (pv 3) pa_nil)) (nomark _))))) pss_never pss_nil)
      (pss_cons (ps_set (i := 8) scRight.nd rfl (.inr rfl) (pe_lock (pe_lc (own := [("_law_places", 12)]) (g := gName 12) (tt := tTest (tOp (rNeD K) (tVar 12) (tTup tNil))) (te := tCB (rListOf K) (tCons (tVar 12) tNil)) rfl scRight.nd (pi_keys (pv 4)) (blkOk_by (N := nmRight) (sc := defScope (top 53)) (by decide +kernel))
          (fun s H C cl fp => pg_name (i := 12) scRight.nd rfl (.inl rfl)) (fun s H C cl fp => pts_one (pt_cmpR (op_neD hu64) (pv 12) (pe_tup pa_nil) (nomark _))) (fun s H C cl fp => pe_callTy call_listOf rfl T.z_list boot_list (pa_cons (pv 12) pa_nil)))))
      (pss_cons (ps_set (i := 9) scRight.nd rfl (.inl rfl) (pe_lst (pa_cons (pv 8) (pa_cons (pe_lst (pa_cons (pe_listRg rfl rfl T.z_list (prg_1 rfl T.z_range (pv 3))) pa_nil)) (pa_cons (pe_lst pa_nil) (pa_cons pe_non (pa_cons pe_int (pa_cons pe_dnewK (pa_cons pe_str pa_nil)))))))))
      (pss_cons (ps_if (pt_cmpR op_notN (pv 7) pe_non (nomark _))
          (pss_cons (ps_expr (pe_bm PySem.F.plainAttrs_list PySem.F.slot_list_append PySem.F.type_list_append mt_append (pv 9) (pa_cons (pv 7) pa_nil)))
          (pss_one (ps_if (pt_cmpR (op_neStrs hu0)
            (pe_callB call_sortedT rfl T.z_sorted boot_sorted (pa_cons (pe_lc (own := [("_law_places", 12)]) (g := gName 12) (te := tCB (rRepr K) (tCons (tVar 12) tNil)) rfl scRight.nd (pi_list (pv 7)) (blkOk_by (N := nmRight) (sc := defScope (top 53)) (by decide +kernel))
              (fun s H C cl fp => pg_name (i := 12) scRight.nd rfl (.inl rfl)) (fun s H C cl fp => pts_nil) (fun s H C cl fp => pe_callB (call_rep hg hu64) rfl T.z_repr boot_repr (pa_cons (pv 12) pa_nil))) pa_nil))
            (pe_callB call_sortedT rfl T.z_sorted boot_sorted (pa_cons (pe_lc (own := [("_law_places", 12)]) (g := gName 12) (te := tCB (rRepr K) (tCons (tVar 12) tNil)) rfl scRight.nd (pi_list (pv 8)) (blkOk_by (N := nmRight) (sc := defScope (top 53)) (by decide +kernel))
              (fun s H C cl fp => pg_name (i := 12) scRight.nd rfl (.inl rfl)) (fun s H C cl fp => pts_nil) (fun s H C cl fp => pe_callB (call_rep hg hu64) rfl T.z_repr boot_repr (pa_cons (pv 12) pa_nil))) pa_nil)) (nomark _)) pss_never pss_nil))) pss_nil)
      (pss_cons (ps_for PassesOwn.never rfl (pi_list (pe_op op_cat (pv 9) (pe_lc (own := [("_law_turn", 13)]) (g := gName 13) (te := tC0 (spBent K) (tCons (tVar 0) (tCons (tVar 8) (tCons (tVar 3) tNil)))) rfl scRight.nd (pi_range1 rfl T.z_range (pa_cons pe_int pa_nil)) (blkOk_by (N := nmRight) (sc := defScope (top 53)) (by decide +kernel))
            (fun s H C cl fp => pg_name (i := 13) scRight.nd rfl (.inl rfl)) (fun s H C cl fp => pts_nil) (fun s H C cl fp => pe_cR (ok_bent (k := 0) T) (hr.mono (by omega)) rfl T.m_lBent T.d_lBent.kp (pa_cons (pv 0) (pa_cons (pv 8) (pa_cons (pv 3) pa_nil))))))) (pg_name (i := 10) scRight.nd rfl (.inl rfl))
          (pss_cons (ps_set (i := 11) scRight.nd rfl (.inl rfl) (pe_callB (call_rep hg hu64) rfl T.z_repr boot_repr (pa_cons (pv 10) pa_nil)))
          (pss_one (ps_if (PW.pt (pw_or (pt_cmpR op_ne (pe_callB (call_rep hg hu64) rfl T.z_repr boot_repr (pa_cons (pe_cR (ok_isHold (k := 0) T) (hr.mono (by omega)) rfl T.m_isHolding T.d_isHolding.kp (pa_cons (pv 1) (pa_cons (pv 10) pa_nil))) pa_nil))
              (pe_callB (call_rep hg hu64) rfl T.z_repr boot_repr (pa_cons (pe_cR (ok_lIs (k := 0) T) (hr.mono (by omega)) rfl T.m_lIs T.d_lIs.kp (pa_cons (pv 2) (pa_cons (pv 3) (pa_cons (pv 10) pa_nil)))) pa_nil)) (nomark _))
            (pw_or1 (pt_cmpR op_ne (pe_callB (call_rep hg hu64) rfl T.z_repr boot_repr (pa_cons (pv 10) pa_nil)) (pv 11) (nomark _))))) pss_never pss_nil))))
      (pss_one (ps_ret pe_bl))))))))), ?_⟩
    have hPT : PT (nP pool) pool H := ⟨hp, beq_self_eq_true pool, fun b h => by
      obtain ⟨c, sd, h1, _⟩ := hp
      exact ⟨_, by rw [eq_of_beq h]; exact h1⟩⟩
    have hFm := famAt_mask hp hF
    have hTm := tabsAt_mask hp hT
    have htm := mask_at (nP_ne htp) htl
    have st0 : St (nP pool) pool H H := ⟨hPT, Same.refl _⟩
    have hS : ∀ b, b ≠ pool → nP pool b = false := fun b h => nP_ne h
    generalize nP pool = S at hPT hFm hTm htm st0 hS
    have fam : ∀ {Hi}, St S pool H Hi → FamAt T.CF T.CM Hi f n gs := fun st => (hFm.same st.2).same mask_same
    have n1 := SM.n1
    have n3 := SM.n3
    -- known
    refine ⟨_, rfl, _, rfl, tl, n, gs, ds, rfl, htl, hT, SM, fun H1 d kvs k0 s1 nd hd hk hW => ?_⟩
    have st1 := st0.same s1
    -- due, told, paper
    refine ⟨_, rfl, d, rfl, .inr ⟨kvs, .of hd⟩, Nat.zero_le _, fun e ne => ?_⟩
    have s2 : Same H1 (upd H1 e (.tup [])) := Same.upd ne
    have he2 : (upd H1 e (.tup [])) e = some (.tup []) := upd_same
    generalize upd H1 e (.tup []) = H2 at s2 he2 ⊢
    have st2 := st1.same s2
    have hW2 := hW.keep (.of s2)
    refine ⟨_, DGet.t (k := ikeys []) (s2 _ _ hd) he2, ?_⟩
    have hwf : ∀ w, lookW (bfs n gs k0) [] = some w → WFacts n gs w := fun w h => word_facts hn7 hk h
    obtain ⟨due, edue, hdue⟩ : ∃ due, (valV kvs (ikeys [])).getD .non = due ∧ VWord H2 due (lookW (bfs n gs k0) []) := by
      have hl := hW2.look []
      cases hlw : lookW (bfs n gs k0) [] with
      | none => exact ⟨_, rfl, by rw [hl.2 hlw]; rfl⟩
      | some w =>
        obtain ⟨qq, e1, e2⟩ := hl.1 w hlw
        exact ⟨_, rfl, by rw [e1]; exact ⟨qq, rfl, e2⟩⟩
    rw [edue]
    refine ⟨_, rfl, f, n, gs, k0, rfl, fam st2, SM, hk, fun H3 told s3 htold => ?_⟩
    have st3 := st2.same s3
    refine ⟨_, rfl, f, n, gs, k0, rfl, fam st3, SM, hk, fun H4 paper s4 hpap => ?_⟩
    have st4 := st3.same s4
    have htold := htold.same s4
    have hdue := (hdue.same s3).same s4
    refine ⟨_, _, _, rfl, ?_⟩
    have okw : OkD (dW (lookW (bfs n gs k0) [])) := dW_ok fun w h => ⟨by have := (hwf w h).len; omega, fun j hj => by have h1 := (hwf w h).ix j hj; have := SM.few; omega⟩
    refine ⟨_, rfl, told, _, rfl, .inl (vword_dp htold), okw.shw, okw.len, okw.dep, _, rfl, due, _, rfl, .inl (vword_dp hdue), okw.shw, okw.len, okw.dep, rfl, _, rfl, ?_⟩
    rw [decide_eq_true rfl]
    refine iteF ?_
    refine ⟨_, rfl, rfl, _, rfl, rfl, rfl, _, rfl, ?_⟩
    have eb : decide (paper = .non) = !decide (due = .non) := by
      rw [vword_isN hdue]
      rcases hpap with ⟨rfl, h⟩ | ⟨h, l, ls, rfl, _, _⟩
      · cases hlw : lookW (bfs n gs k0) [] with
        | none =>
          rw [hlw] at h
          cases h
        | some w => rfl
      · rw [h]
        rfl
    rw [eb, decide_eq_true rfl]
    refine iteF ?_
    -- the word's product is empty
    refine right_word (told := told) (f := f) (n := n) (gs := gs) (o := lookW (bfs n gs k0) []) rfl rfl rfl htold hwf (fam st4) SM fun H5 s5 => iteF ?_
    have st5 := st4.same s5
    have hd5 := s5 _ _ (s4 _ _ (s3 _ _ (s2 _ _ hd)))
    have hW5 := ((hW2.keep (.of s3)).keep (.of s4)).keep (.of s5)
    -- base
    have hkl : kvs.length = (bfs n gs k0).length := hW5.len
    have hKO := bfs_keys n gs k0
    have hfew := SM.bd k0
    have hkw : (keys (bfs n gs k0)).length = (bfs n gs k0).length := by
      unfold keys
      rw [List.length_map]
    have h2n : (bfs n gs k0).length ≤ 128 := by
      have h1 := bfs_few n gs k0
      have h2 : (2 : Nat) ^ n ≤ 2 ^ 7 := Nat.pow_le_pow_right (by decide) hn7
      have h3 : (2 : Nat) ^ 7 = 128 := by decide
      omega
    refine ⟨d, .dT kvs, hd5, trivial, fun od => ?_⟩
    refine ⟨_, rfl, d, od, rfl, .inr ⟨kvs, upd_same, fun bl nbl => ?_⟩⟩
    have ndb : d ≠ bl := ne_of_none upd_same nbl
    have hdl : (upd H5 d (.frz od (.dT kvs))) d = some (.frz od (.dT kvs)) := upd_same
    refine lc_it walk_keysT (fun i H' => ∃ ls, H' bl = some (.lst (ls.map V.ref)) ∧ ls.length ≤ i ∧ Paired (fun (b : Addr) (p : List Nat) => b ≠ bl ∧ b ≠ d ∧ S b = false ∧ H' b = some (.lst (vints p))) ls (((keys (bfs n gs k0)).take i).filter fun p => !p.isEmpty) ∧ SameX bl (upd H5 d (.frz od (.dT kvs))) H')
      ⟨[], upd_same, Nat.le_refl _, .nil, (Same.upd nbl).x⟩ (fun i H' _ h => ?_) ?_ ?_
    · obtain ⟨_, _, _, _, h⟩ := h
      exact h d _ ndb hdl
    · rintro i x G1 G2 hi ⟨ls, hl, hle, hpa, sx⟩ ⟨rfl, kk, vv, q', ek, rfl, hq'⟩
      obtain ⟨⟨p, v⟩, epv, ekk, _⟩ := L2.paired_get hW5 ek
      have ekey : (keys (bfs n gs k0))[i]? = some p := by
        unfold keys
        rw [List.getElem?_map, epv]
        rfl
      have ekk : kk = ikeys p := ekk
      rw [ekk, ikeys_kV] at hq'
      have hi' : i < kvs.length := hi
      refine ⟨rfl, _, rfl, Nat.zero_le _, fun e2 ne2 => ?_⟩
      have sg : Same G2 (upd G2 e2 (.tup [])) := Same.upd ne2
      have hge : (upd G2 e2 (.tup [])) e2 = some (.tup []) := upd_same
      have sx2 := sx.upd (o := .tup []) ne2
      generalize upd G2 e2 (.tup []) = G3 at sg hge sx2 ⊢
      refine ⟨tupD p, .tuple [], .tup (SqT.of (sg _ _ hq')) (dpAll_ints _), .tup (SqT.of hge) .nil, tupD_shaped _, by decide, _, rfl, ?_⟩
      rw [eqv_tup_nil]
      have et : ((keys (bfs n gs k0)).take (i + 1)).filter (fun p => !p.isEmpty) = ((keys (bfs n gs k0)).take i).filter (fun p => !p.isEmpty) ++ (if (!p.isEmpty) = true then [p] else []) := by
        rw [take_snoc ekey, List.filter_append]
        congr 1
        rw [List.filter_cons, List.filter_nil]
      cases hem : p.isEmpty with
      | true =>
        refine iteF ⟨ls, sg _ _ hl, by omega, ?_, sx2⟩
        rw [et, hem]
        show Paired _ ls (_ ++ [])
        rw [List.append_nil]
        exact Paired.mapP hpa fun b p hb => ⟨hb.1, hb.2.1, hb.2.2.1, sg _ _ hb.2.2.2⟩
      | false =>
        refine iteT ⟨_, rfl, q', _, rfl, .inr (SqT.of (sg _ _ hq')), fun l nl => ?_⟩
        have hlD : l ≠ bl := (ne_of_none (sg _ _ hl) nl).symm
        have hld : l ≠ d := (ne_of_none (sx2 d _ ndb hdl) nl).symm
        have hl3 : (upd G3 l (.lst (vints p))) bl = some (.lst (ls.map V.ref)) := by
          rw [upd_ne hlD.symm]
          exact sg _ _ hl
        refine ⟨_, hl3, ?_, ls ++ [l], upd_same.trans ?_, ?_, ?_, (sx2.upd nl).updx⟩
        · rw [List.length_map]
          exact small1000 (by omega)
        · rw [List.map_append]
          rfl
        · rw [List.length_append, List.length_singleton]
          omega
        · rw [et, hem]
          show Paired _ (ls ++ [l]) (_ ++ [p])
          refine Paired.snoc (Paired.mapP hpa fun b p hb => ⟨hb.1, hb.2.1, hb.2.2.1, ?_⟩) ⟨hlD, hld, ?_, ?_⟩
          · rw [upd_ne hb.1, upd_ne (ne_of_none (sg _ _ hb.2.2.2) nl)]
            exact sg _ _ hb.2.2.2
          · cases c : S l with
            | false => rfl
            | true =>
              obtain ⟨o, ho⟩ := st5.1.2.2 l c
              have ho2 : (upd H5 d (.frz od (.dT kvs))) l = some o := by
                rw [upd_ne hld]
                exact ho
              have ho3 := sx2 l o hlD ho2
              rw [nl] at ho3
              cases ho3
          · rw [upd_ne hlD, upd_same]
    rintro G1 ⟨ls, hl, hle, hpa, sx⟩
    have e1 : (keys (bfs n gs k0)).length = kvs.length := by rw [hkw, hkl]
    rw [← e1, List.take_length] at hpa
    refine ⟨sx d _ ndb hdl, ?_⟩
    have s6 : Same H5 (upd G1 d (.dT kvs)) := by
      intro b u eb
      by_cases c : b = d
      · subst c
        rw [hd5] at eb
        cases eb
        exact upd_same
      · rw [upd_ne c]
        have e2 : (upd H5 d (.frz od (.dT kvs))) b = some u := by
          rw [upd_ne c]
          exact eb
        exact sx b _ (ne_of_none e2 nbl) e2
    have hb6 : (upd G1 d (.dT kvs)) bl = some (.lst (ls.map V.ref)) := by
      rw [upd_ne ndb.symm]
      exact hl
    have hls6 : LstsAt (upd G1 d (.dT kvs)) ls ((keys (bfs n gs k0)).filter fun p => !p.isEmpty) := Paired.mapP hpa fun b p hb => by
      rw [upd_ne hb.2.1]
      exact hb.2.2.2
    have hlsS : ∀ a ∈ ls, S a = false := fun a ha => by
      obtain ⟨p, hp⟩ := paired_left hpa ha
      exact hp.2.2.1
    have nbl5 : H5 bl = none := by
      rw [upd_ne ndb.symm] at nbl
      exact nbl
    have hls5 : ∀ a ∈ ls, ∃ p, (upd G1 d (.dT kvs)) a = some (.lst (vints p)) := by
      exact fun a ha => lsts_mem hls6 ha
    generalize upd G1 d (.dT kvs) = H6 at s6 hb6 hls6 hls5 ⊢
    have st6 := st5.same s6
    -- the sets of base
    have hBP : ∀ p ∈ (keys (bfs n gs k0)).filter (fun p => !p.isEmpty), p.length ≤ 70 ∧ ∀ j ∈ p, j < 1000 := by
      intro p hpm
      have hpk := (List.mem_filter.mp hpm).1
      have h1 := pigeon (asc_nodup (hKO.asc p hpk)) (hKO.lt p hpk)
      exact ⟨by omega, fun j hj => by have := hKO.lt p hpk j hj; omega⟩
    have hBl : ((keys (bfs n gs k0)).filter fun p => !p.isEmpty).length ≤ 128 := by
      have := List.length_filter_le (fun p : List Nat => !p.isEmpty) (keys (bfs n gs k0))
      omega
    have hBn : ((keys (bfs n gs k0)).filter fun p => !p.isEmpty) ≠ [] := by
      intro h0
      have hm : List.range n ∈ (keys (bfs n gs k0)).filter fun p => !p.isEmpty := by
        refine List.mem_filter.mpr ⟨?_, ?_⟩
        · obtain ⟨r, er⟩ := bfs_pre n gs (Nat.zero_le k0)
          rw [← er, keys_append]
          exact List.mem_append.mpr (.inl (List.mem_singleton.mpr rfl))
        · cases hrn : List.range n with
          | nil =>
            have := congrArg List.length hrn
            rw [List.length_range] at this
            simp at this
            omega
          | cons a b => rfl
      rw [h0] at hm
      cases hm
    have hBpap : paper = .non ∨ ∃ l ls2, paper = .ref l ∧ H6 l = some (.lst (ls2.map V.ref)) ∧ LstsAt H6 ls2 ((keys (bfs n gs k0)).filter fun p => !p.isEmpty) ∧ S l = false ∧ ∀ a ∈ ls2, S a = false := by
      rcases hpap with ⟨rfl, _⟩ | ⟨hno, l, ls2, rfl, h1, h2, h3, h4⟩
      · exact .inl rfl
      · refine .inr ⟨l, ls2, rfl, s6 _ _ (s5 _ _ h1), ?_, st3.1.ne h3, fun a ha => st3.1.ne (h4 a ha)⟩
        have e : ((keys (bfs n gs k0)).filter fun p => !p.isEmpty) = keys (bfs n gs k0) := by
          refine List.filter_eq_self.mpr fun p hp => ?_
          cases p with
          | nil =>
            obtain ⟨w, hw, _⟩ := lookW_some hp
            rw [hno] at hw
            cases hw
          | cons a b => rfl
        rw [e]
        exact (h2.same s5).same s6
    generalize ((keys (bfs n gs k0)).filter fun p => !p.isEmpty) = BP at hls6 hBP hBl hBn hBpap
    have hBE : ∀ e ∈ BP.map lstD, ElOk e := fun e he => by
      obtain ⟨p, hpm, rfl⟩ := List.mem_map.mp he
      exact lst_el (hBP p hpm).2 (hBP p hpm).1
    have hBV : ValOk (.list (BP.map lstD)) := val_list hBE (by rw [List.length_map]; omega)
    have hBO : ∀ p ∈ BP, OkD (lstD p) := fun p hpm => (val_list (ints_els (hBP p hpm).2) (by rw [List.length_map]; have := (hBP p hpm).1; omega)).1
    have nSb : S bl = false := st5.1.ne nbl5
    have hbm : Dp K (mask S H6) (.ref bl) (.list (BP.map lstD)) := .lst (SqL.of (mask_at nSb hb6)) (dpAll_lsts (lsts_keep hls6 fun a ha o h => mask_at (hlsS a ha) h))
    -- some
    have efull : rgV 0 (n : Int) = vints (List.range n) := by
      unfold rgV
      rw [show ((n : Int) - 0).toNat = n by omega]
      refine List.map_congr_left fun i _ => ?_
      rw [Int.zero_add]
    refine ⟨_, rfl, _, rfl, _, rfl, ⟨by decide, by decide, by omega, by omega, by omega⟩, fun r nr => ?_⟩
    rw [efull]
    have sr := Same.upd (o := .lst (vints (List.range n))) nr
    have dr : Dp K (mask S (upd H6 r (.lst (vints (List.range n))))) (.ref r) (lstD (List.range n)) := new_lst nr (st6.1.ne nr) (dpAll_ints _)
    generalize upd H6 r (.lst (vints (List.range n))) = Hr at sr dr ⊢
    have str := st6.same sr
    refine ⟨by show 1 ≤ sizeLine; decide, fun a1 na1 => ?_⟩
    have sa1 := Same.upd (o := .lst [V.ref r]) na1
    have d1 : Dp K (mask S (upd Hr a1 (.lst [V.ref r]))) (.ref a1) (.list [lstD (List.range n)]) := new_lst na1 (str.1.ne na1) (.cons dr .nil)
    generalize upd Hr a1 (.lst [V.ref r]) = Ha1 at sa1 d1 ⊢
    have sta1 := str.same sa1
    refine ⟨by show 0 ≤ sizeLine; decide, fun a2 na2 => ?_⟩
    have sa2 := Same.upd (o := .lst []) na2
    have d2 : Dp K (mask S (upd Ha1 a2 (.lst []))) (.ref a2) (.list []) := new_lst na2 (sta1.1.ne na2) .nil
    generalize upd Ha1 a2 (.lst []) = Ha2 at sa2 d2 ⊢
    have sta2 := sta1.same sa2
    intro dd ndd
    have sdd := Same.upd (o := .dK []) ndd
    have d3 : mask S (upd Ha2 dd (.dK [])) dd = some (.dK []) := mask_at (sta2.1.ne ndd) upd_same
    generalize upd Ha2 dd (.dK []) = H7 at sdd d3 ⊢
    have s67 : Same H6 H7 := sr.trans (sa1.trans (sa2.trans sdd))
    have st7 := st6.same s67
    have hx0 : ∀ x ∈ ([.ref bl, .ref a1, .ref a2, .non, .int 5, .ref dd, .str "sets"] : List V), RV K (mask S H7) x := by
      intro x hx
      simp only [List.mem_cons, List.not_mem_nil, or_false] at hx
      rcases hx with rfl | rfl | rfl | rfl | rfl | rfl | rfl
      · exact RV.of (dp_same (mask_mono s67) _ _ hbm) hBV
      · exact RV.of (dp_same (mask_mono (sa2.trans sdd)) _ _ d1) (val_list (fun e he => by
          rw [List.mem_singleton.mp he]
          exact lst_el (fun j hj => by have := List.mem_range.mp hj; omega) (by rw [List.length_range]; omega)) (by simp))
      · exact RV.of (dp_same (mask_mono sdd) _ _ d2) (val_list (fun e he => by cases he) (by simp))
      · exact ⟨.none, .inl .non, ⟨rfl, by decide +kernel, by decide⟩, fun es e => by cases e⟩
      · exact ⟨.int 5, .inl (.int 5), ⟨by decide +kernel, by decide +kernel, by decide⟩, fun es e => by cases e⟩
      · exact ⟨.dict [], .inr ⟨dd, rfl, d3, rfl⟩, ⟨by decide +kernel, by decide +kernel, by decide⟩, fun es e => by cases e⟩
      · exact ⟨.str "sets", .inl (.str _), ⟨rfl, by decide +kernel, by decide⟩, fun es e => by cases e⟩
    refine ⟨by show 7 ≤ sizeLine; decide, fun so nso => ?_⟩
    have s8 := Same.upd (o := .lst [.ref bl, .ref a1, .ref a2, .non, .int 5, .ref dd, .str "sets"]) nso
    have hso8 : (upd H7 so (.lst [.ref bl, .ref a1, .ref a2, .non, .int 5, .ref dd, .str "sets"])) so = some (.lst [.ref bl, .ref a1, .ref a2, .non, .int 5, .ref dd, .str "sets"]) := upd_same
    generalize upd H7 so (.lst [.ref bl, .ref a1, .ref a2, .non, .int 5, .ref dd, .str "sets"]) = H8 at s8 hso8 ⊢
    have s68 := s67.trans s8
    have hso6 : H6 so = none := s67.free nso
    have hnb : ∀ {b : Addr} {o : HO}, H6 b = some o → b ≠ so := fun h => ne_of_none h hso6
    have hcase8 : paper = .non ∨ ∃ l ls2, paper = .ref l ∧ H8 l = some (.lst (ls2.map V.ref)) ∧ LstsAt H8 ls2 BP ∧ l ≠ so ∧ ∀ a ∈ ls2, a ≠ so := by
      rcases hBpap with h | ⟨l, ls2, h1, h2, h3, _⟩
      · exact .inl h
      · exact .inr ⟨l, ls2, h1, s68 _ _ h2, h3.same s68, hnb h2, fun a ha => by
          obtain ⟨p, h⟩ := lsts_mem h3 ha
          exact hnb h⟩
    refine right_paper (K := K) (paper := paper) (bl := bl) (so := so) (ls := ls) (BP := BP) (xs0 := [.ref bl, .ref a1, .ref a2, .non, .int 5, .ref dd, .str "sets"]) rfl rfl rfl (by show 12 < 14; decide) hcase8 hso8 (by show 7 ≤ 100; decide) (s68 _ _ hb6) (hls6.same s68) (hnb hb6)
      (fun a ha => by
        obtain ⟨p, h⟩ := hls5 a ha
        exact hnb h) hBO (by omega) fun H9 xs' hkeep hso9 hxs' => ?_
    have s79 : Same H7 H9 := hkeep H7 s8 nso
    have st9 := st7.same s79
    have hx9 : ∀ x ∈ xs', RV K (mask S H9) x := by
      intro x hx
      rcases hxs' with rfl | ⟨hpn, rfl⟩
      · exact (hx0 x hx).same (mask_mono s79)
      · rcases List.mem_append.mp hx with h | h
        · exact (hx0 x h).same (mask_mono s79)
        · rw [List.mem_singleton] at h
          subst h
          rcases hBpap with h | ⟨l, ls2, h1, h2, h3, h4, h5⟩
          · exact absurd h hpn
          · subst h1
            exact RV.of (dp_same (mask_mono (s67.trans s79)) _ _ (.lst (SqL.of (mask_at h4 h2)) (dpAll_lsts (lsts_keep h3 fun a ha o h => mask_at (h5 a ha) h)))) hBV
    have hxl : xs'.length ≤ 20 := by
      rcases hxs' with rfl | ⟨_, rfl⟩ <;> simp
    have hb9 := (s67.trans s79) _ _ hb6
    have hls9 := hls6.same (s67.trans s79)
    have nSo : S so = false := st7.1.ne nso
    -- the bent values
    refine ⟨_, rfl, 6, rfl, by decide, by decide, fun D nD => ?_⟩
    have hDp : D ≠ pool := by
      have h1 := st9.1.ne nD
      intro e
      rw [e, hPT.2.1] at h1
      cases h1
    have hso9D : so ≠ D := ne_of_none hso9 nD
    have hup : Same H9 (upd H9 D (.lst [])) := Same.upd nD
    refine lc_it walk_range0 (fun i H' => ∃ bs, H' D = some (.lst bs) ∧ bs.length = i ∧ (∀ x ∈ bs, RV K (mask (fun b => b == D || S b) H') x) ∧ PT S pool H' ∧ Same (mask (fun b => b == D || S b) H9) (mask (fun b => b == D || S b) H'))
      ⟨[], upd_same, rfl, fun x hx => (by cases hx), st9.1.same hup, mask_mono hup⟩ (fun _ _ _ _ => trivial) ?_ ?_
    · rintro i x G1 G2 hi ⟨bs, hD, hbl, hbs, pt, sm⟩ ⟨rfl, rfl⟩
      have hi6 : i < 6 := hi
      -- what base is at this turn
      have keep : ∀ {b : Addr} {o : HO}, H9 b = some o → S b = false → G2 b = some o := fun {b o} h hs => by
        refine (mask_of (sm b o (mask_at ?_ h))).2
        show (b == D || S b) = false
        rw [hs, Bool.or_false]
        exact beq_eq_false_iff_ne.mpr (ne_of_none h nD)
      have hbG : G2 bl = some (.lst (ls.map V.ref)) := keep hb9 nSb
      have hlsG : LstsAt G2 ls BP := lsts_keep hls9 fun a ha o h => keep h (hlsS a ha)
      have hblp : bl ≠ pool := fun e => by
        rw [e, hPT.2.1] at nSb
        cases nSb
      refine ⟨rfl, ?_⟩
      refine iteT (B := True) ⟨_, rfl, _, rfl, _, rfl, pool, bl, n, ls, BP, rfl, pt.1, hblp, hbG, hlsG, hBn, by omega, hBP, by omega, fun G3 x dv sx hp3 hx hv => ?_⟩
      have hD3 : G3 D = some (.lst bs) := sx D _ hDp hD
      have pt3 := pt.x sx hp3
      -- the heap behind the append, without D and the pool
      have smA : Same (mask (fun b => b == D || S b) G2) (mask (fun b => b == D || S b) (upd G3 D (.lst (bs ++ [x])))) := fun b o e => by
        obtain ⟨h1, h2⟩ := mask_of e
        obtain ⟨h3, h4⟩ := Bool.or_eq_false_iff.mp h1
        have hbD : b ≠ D := beq_eq_false_iff_ne.mp h3
        refine mask_at h1 ?_
        rw [upd_ne hbD]
        refine sx b o (fun z => ?_) h2
        rw [z, hPT.2.1] at h4
        cases h4
      have smB : Same (mask (fun b => (G2 b).isSome) G3) (mask (fun b => b == D || S b) (upd G3 D (.lst (bs ++ [x])))) := fun b o e => by
        obtain ⟨h1, h2⟩ := mask_of e
        have h1 : (G2 b).isSome = false := h1
        have hbD : b ≠ D := fun z => by
          rw [z, hD] at h1
          cases h1
        have hSb : S b = false := by
          cases c : S b with
          | false => rfl
          | true =>
            obtain ⟨o', h'⟩ := pt.2.2 b c
            rw [h'] at h1
            cases h1
        refine mask_at ?_ ?_
        · show (b == D || S b) = false
          rw [hSb, Bool.or_false]
          exact beq_eq_false_iff_ne.mpr hbD
        · rw [upd_ne hbD]
          exact h2
      refine ⟨bs, hD3, small1000 (by omega), bs ++ [x], upd_same, by rw [List.length_append, List.length_singleton, hbl], fun y hy => ?_, ?_, sm.trans smA⟩
      · rcases List.mem_append.mp hy with h | h
        · exact (hbs y h).same smA
        · rw [List.mem_singleton] at h
          subst h
          exact RV.of (dp_same smB _ _ hx) hv
      · refine ⟨?_, hPT.2.1, fun b hb => ?_⟩
        · obtain ⟨c, sd, h1, h2⟩ := hp3
          exact ⟨c, sd, by rw [upd_ne hDp.symm]; exact h1, h2⟩
        · obtain ⟨o, ho⟩ := pt3.2.2 b hb
          have hbD : b ≠ D := fun z => by
            rw [z, st9.1.ne nD] at hb
            cases hb
          exact ⟨o, by rw [upd_ne hbD]; exact ho⟩
    · rintro G1 ⟨bs, hD, hbl, hbs, pt, sm⟩
      have hbl6 : bs.length = 6 := hbl
      -- all at once
      have s9D : Same (mask S H9) (mask (fun b => b == D || S b) H9) := fun b o e => by
        obtain ⟨h1, h2⟩ := mask_of e
        refine mask_at ?_ h2
        show (b == D || S b) = false
        rw [h1, Bool.or_false]
        exact beq_eq_false_iff_ne.mpr (ne_of_none h2 nD)
      have s9G : Same (mask S H9) G1 := (s9D.trans sm).trans mask_same
      have hsoG : G1 so = some (.lst xs') := s9G _ _ (mask_at nSo hso9)
      refine ⟨so, D, xs', bs, rfl, rfl, hsoG, hD, Nat.le_of_lt (small1000 (by omega)), fun lv nlv => ?_⟩
      have sl : Same G1 (upd G1 lv (.lst (xs' ++ bs))) := Same.upd nlv
      have hlv : (upd G1 lv (.lst (xs' ++ bs))) lv = some (.lst (xs' ++ bs)) := upd_same
      generalize upd G1 lv (.lst (xs' ++ bs)) = Gl at sl hlv ⊢
      have hall : ∀ x ∈ xs' ++ bs, RV K Gl x := by
        intro x hx
        rcases List.mem_append.mp hx with h | h
        · exact (hx9 x h).same (s9G.trans sl)
        · exact (hbs x h).same (mask_same.trans sl)
      have hFG : FamAt T.CF T.CM Gl f n gs := (hFm.same st9.2).same (s9G.trans sl)
      have hTG : TabsAt Gl n ds gs := (hTm.same st9.2).same (s9G.trans sl)
      have htG : Gl tl = some (.lst (ds.map V.ref)) := (s9G.trans sl) _ _ (st9.2 _ _ htm)
      have hpG : PoolAt Gl pool := pt.1.same sl
      have sHG : SameX pool H Gl := fun b o nb e => (s9G.trans sl) _ _ (st9.2 _ _ (mask_at (hS b nb) e))
      have bshow : ∀ b : Bool, (PyData.bool b).showable = true ∧ (PyData.bool b).shown.length ≤ sizeLine ∧ (PyData.bool b).depth ≤ 60 := fun b => by
        cases b <;> exact ⟨rfl, by decide +kernel, by decide⟩
      refine ⟨lv, rfl, ⟨_, SqL.of hlv⟩, ?_⟩
      refine for_list (K := K) (a := lv) (xs := xs' ++ bs) (fun i σ H' => ∃ y10 y11, σ = [some (.ref pool), some (.ref f), some (.ref tl), some (.int (n : Int)), some (.ref d), some due, some told, some paper, some (.ref bl), some (.ref so), y10, y11, none, none] ∧ Same Gl H') ⟨none, none, rfl, .refl _⟩ (fun i σ H' _ h => ?_) ?_ ?_
      · obtain ⟨_, _, _, h⟩ := h
        exact SqL.of (h _ _ hlv)
      · rintro i x σ G2 hx ⟨y10, y11, rfl, sg⟩
        obtain ⟨dx, hxd, ⟨x1, x2, x3⟩, x4⟩ := (hall x (List.mem_of_getElem? hx)).same sg
        refine ⟨_, rfl, x, dx, rfl, hxd, x1, x2, x3, ?_⟩
        refine ⟨_, rfl, _, rfl, f, x, n, gs, dx, rfl, hFG.same sg, SM.fam, hxd, x4, fun G3 sg3 => ?_⟩
        obtain ⟨b1, b2, b3⟩ := bshow (isHoldD n gs dx)
        refine ⟨_, .bool (isHoldD n gs dx), rfl, .inl (.bl _), b1, b2, b3, ?_⟩
        have sg' := sg.trans sg3
        refine ⟨_, rfl, _, rfl, _, rfl, tl, n, gs, ds, x, dx, rfl, sg' _ _ htG, hTG.same sg', SM.fam, rdD_same sg3 hxd, x4, fun G4 sg4 => ?_⟩
        refine ⟨_, .bool (isHoldD n gs dx), rfl, .inl (.bl _), b1, b2, b3, rfl, _, rfl, ?_⟩
        rw [decide_eq_true rfl]
        refine iteF ⟨_, rfl, x, dx, rfl, rdD_same (sg3.trans sg4) hxd, x1, x2, x3, _, rfl, rfl, _, rfl, ?_⟩
        rw [decide_eq_true rfl]
        exact iteF ⟨_, _, rfl, sg'.trans sg4⟩
      · rintro σ G2 ⟨y10, y11, rfl, sg⟩
        exact q G2 (sHG.trans (Same.x sg)) (hpG.same sg)
end
end K57
end

section
set_option Elab.async false
set_option linter.all false
set_option maxRecDepth 100000
set_option maxHeartbeats 4000000
namespace K57
open PySem PySem.Spec PyProof.Rows L2 StX ClX
/-! _law_great -/
theorem merge_new : ∀ (l acc : List (Key × V)), (l.map (·.1)).Nodup → (∀ k ∈ l.map (·.1), valV acc k = none) → mergeK acc l = acc ++ l
  | [], acc, _, _ => (List.append_nil _).symm
  | e :: l, acc, nd, h => by
    have h1 := List.nodup_cons.mp nd
    show mergeK (putK acc e.1 e.2) l = acc ++ (e :: l)
    rw [putK_new _ (h e.1 List.mem_cons_self), merge_new l _ h1.2 (fun k hk => ?_)]
    · rw [List.append_assoc]
      rfl
    · rw [valV_append, h k (List.mem_cons_of_mem _ hk)]
      show valV [(e.1, e.2)] k = none
      rw [valV_neg (fun z => h1.1 (by show e.1 ∈ _; rw [show e.1 = k from z]; exact hk))]
      rfl
theorem merge_tab (n : Nat) (g : Fn) : mergeK [] (tab n g) = tab n g := merge_new _ _ (tab_keys_nd g n) fun _ _ => rfl
/-- [(at, e) for at in range(m)] -/
theorem pairs_lc {K : PySem.W.Frag} {σ : L2.St} {H : Hp} {i m : Nat} {g : Fn} {h : Nat → Nat} {ta : TA} {te : TE} {Q : VK} (hi : i < σ.length) (hw : ∀ R : It → Hp → Prop, R (Itr 0 m) H → iRng1 ta σ H R) (hm : m ≤ 1000)
    (he : ∀ (j : Nat) (H' : Hp) (Q' : VK), j < m → Q' (.int (h j : Int)) H' → te ((wipe σ [i]).set i (some (.int (j : Int)))) H' Q') (hg : ∀ j, j < m → g j = some (h j))
    (q : ∀ D as H', Same H H' → H D = none → H' D = some (.lst (as.map V.ref)) → Paired (fun (p : Addr) (kv : Key × V) => SqT K H' p [kV kv.1, kv.2]) as (tab m g) → Q (.ref D) H') :
    tLc (iRng1 ta) (gName i) tYes (tTup (tCons (tVar i) (tCons te tNil))) [i] σ H Q := by
  refine hw _ fun D nD => ?_
  refine lc_it walk_range0 (fun j H' => ∃ as : List Addr, H' D = some (.lst (as.map V.ref)) ∧ Paired (fun (p : Addr) (kv : Key × V) => H' p = some (.tup [kV kv.1, kv.2])) as (tab j g) ∧ SameX D H H') ⟨[], upd_same, .nil, (Same.upd nD).x⟩ (fun _ _ _ _ => trivial) ?_ ?_
  · rintro j x H2 H3 hj ⟨as, hD, hp, sx⟩ ⟨rfl, rfl⟩
    refine ⟨?_, ?_⟩
    · show (((σ.set i none).set i (some (.int (j : Int)))).set i none) = σ.set i none
      rw [List.set_set, List.set_set]
    refine iteT (B := True) ⟨.int (j : Int), ?_, he j _ _ hj ⟨by show 2 ≤ sizeLine; decide, fun p np => ?_⟩⟩
    · show ((σ.set i none).set i (some (.int (j : Int))))[i]? = some (some (.int (j : Int)))
      rw [List.set_set, List.getElem?_set_self hi]
    have hD2 : (upd H3 p (.tup [V.int (j : Int), V.int (h j : Int)])) D = some (.lst (as.map V.ref)) := by
      rw [upd_ne (ne_of_none hD np)]
      exact hD
    have k2 : KeepT H3 (upd (upd H3 p (.tup [V.int (j : Int), V.int (h j : Int)])) D (.lst (as.map V.ref ++ [.ref p]))) := (KeepT.new np).trans (KeepT.lst hD2)
    refine ⟨_, hD2, ?_, as ++ [p], upd_same.trans ?_, ?_, (sx.upd np).updx⟩
    · rw [List.length_map, Paired.length hp]
      exact small1000 (Nat.le_trans (tab_len j g) (by omega))
    · rw [List.map_append]
      rfl
    · rw [tab_succ, hg j hj]
      exact Paired.snoc (Paired.mapP hp fun _ _ h => k2.1 _ _ h) ((KeepT.lst (ys := as.map V.ref ++ [.ref p]) hD2).1 _ _ upd_same)
  · rintro H2 ⟨as, hD, hp, sx⟩
    exact q D as H2 (fun b o e => sx b o (ne_of_none e nD) e) nD hD (Paired.mapP hp fun _ _ h => SqT.of h)
theorem natsD_of {n : Nat} : ∀ {p : List Nat}, (∀ j ∈ p, j < n) → natsD n (intsD p) = some p
  | [], _ => rfl
  | j :: p, h => by
    have h1 := h j List.mem_cons_self
    have ih := natsD_of fun x hx => h x (List.mem_cons_of_mem _ hx)
    show (if inD n (.int (j : Int)) = true then (natsD n (intsD p)).map ((j : Int).toNat :: ·) else none) = some (j :: p)
    rw [if_pos, ih]
    · rfl
    · show (decide ((0 : Int) ≤ j) && decide ((j : Int) ≤ (n : Int) - 1)) = true
      rw [decide_eq_true (by omega), decide_eq_true (by omega)]
      rfl
theorem setOf_of {n : Nat} {p : List Nat} (h : ∀ j ∈ p, j < n) (ha : p.Pairwise (· < ·)) (hne : p ≠ []) : setOf n (lstD p) = some p := by
  show (match natsD n (intsD p) with
    | some p => if (!p.isEmpty && ascB p) = true then some p else none
    | none => none) = _
  rw [natsD_of h]
  show (if (!p.isEmpty && ascB p) = true then some p else none) = some p
  rw [pw_ascB ha, if_pos]
  cases p with
  | nil => exact absurd rfl hne
  | cons a b => rfl
theorem range_ne {n : Nat} (h : 1 ≤ n) : List.range n ≠ [] := fun e => by
  have := congrArg List.length e
  rw [List.length_range] at this
  simp at this
  omega
theorem hold_ring {n : Nat} (h : 1 ≤ n) : isHoldD n [ringF n] (.list [lstD (List.range n)]) = true := by
  have e : setsOf n [lstD (List.range n)] = some [List.range n] := by
    show (match setOf n (lstD (List.range n)) with
      | some p => (setsOf n []).map (p :: ·)
      | none => none) = _
    rw [setOf_of (fun j hj => List.mem_range.mp hj) List.pairwise_lt_range (range_ne h)]
    rfl
  show (match setsOf n [lstD (List.range n)] with
    | some vs => decide (List.range n ∈ vs) && vs.all fun p => [ringF n].all fun g => decide (img n g p ∈ vs)
    | none => false) = true
  rw [e]
  show (decide (List.range n ∈ [List.range n]) && ([List.range n].all fun p => [ringF n].all fun g => decide (img n g p ∈ [List.range n]))) = true
  rw [decide_eq_true List.mem_cons_self, Bool.true_and]
  simp only [List.all_cons, List.all_nil, Bool.and_true, img_ring]
  exact decide_eq_true List.mem_cons_self
def dotF (n : Nat) : Fn := fun i => if i + 1 = n then some 0 else none
theorem good_dot {n : Nat} (h : 1 ≤ n) : Good n (dotF n) := by
  constructor
  · intro i j e
    unfold dotF at e
    split at e
    · cases e
      omega
    · cases e
  · intro i j k h1 h2
    unfold dotF at h1 h2
    split at h1 <;> split at h2
    · omega
    all_goals simp_all
theorem tab_dot (n : Nat) : tab (n + 1) (dotF (n + 1)) = [((Sum.inl (n : Int) : Key), V.int 0)] := by
  rw [tab_succ, tab_congr (g := dotF (n + 1)) (h := noF) (n := n) fun i hi => if_neg (by omega), tab_no, show dotF (n + 1) n = some 0 from if_pos rfl]
  rfl
theorem tab_line (n : Nat) : tab (n + 1) (lineF (n + 1)) = tab n (lineF (n + 1)) := by
  rw [tab_succ, show lineF (n + 1) n = none from if_neg (by omega)]
  exact List.append_nil _
theorem line_dot (n : Nat) : mergeK (tab (n + 1) (lineF (n + 1))) (tab (n + 1) (dotF (n + 1))) = tab (n + 1) (ringF (n + 1)) := by
  rw [tab_dot, tab_line]
  show putK (tab n (lineF (n + 1))) (Sum.inl (n : Int)) (V.int 0) = _
  rw [show V.int 0 = V.int ((0 : Nat) : Int) from rfl, tab_put, tab_succ (g := ringF (n + 1)), tab_congr (g := ringF (n + 1)) (h := lineF (n + 1)) (n := n) fun i hi => ?_]
  · rw [show ringF (n + 1) n = some 0 from (if_pos (Nat.lt_succ_self n)).trans (by rw [Nat.mod_self])]
    rfl
  · unfold ringF lineF
    rw [if_pos (by omega), if_pos (by omega), Nat.mod_eq_of_lt (by omega)]
theorem noclash_line (n : Nat) : NoClash (lineF (n + 1)) (dotF (n + 1)) := by
  intro i j k l h1 h2
  unfold lineF at h1
  unfold dotF at h2
  split at h1
  · split at h2
    · cases h1
      cases h2
      constructor <;> intro e <;> omega
    · cases h2
  · cases h1
theorem small_line : Small 300 [lineF 300] := ⟨fun g hg => by rw [List.mem_singleton.mp hg]; exact good_line 300, by simp, by simp, by decide, by decide, fun k => Nat.le_trans (bfs_line_few 300 k) (by decide)⟩
theorem small_ring : Small 300 [ringF 300, ringF 300] := ⟨fun g hg => by
  have : g = ringF 300 := by simpa using hg
  rw [this]
  exact good_ring 300, by simp, by simp, by decide, by decide, fun k => by rw [bfs_ring]; decide⟩
theorem fam_ring : FamOk 300 [ringF 300] := ⟨fun g hg => by rw [List.mem_singleton.mp hg]; exact good_ring 300, by simp, by simp, by decide, by decide⟩
theorem tSeq_run {t u : TS} {D : L2.Ends} {σ : L2.St} {H : Hp} (h : t { D with nx := u D } σ H) : tSeq t u D σ H := h
theorem tNext_run {t u : TS} {D0 : L2.Ends} {r : VK} {b c : L2.St → Hp → Prop} {σ : L2.St} {H : Hp} (h : tSeq t u D0 σ H) : tNext { nx := tSeq t u D0, rt := r, bk := b, ct := c } σ H := h
theorem tAsg_run {te : TE} {g : TG} {D : L2.Ends} {σ : L2.St} {H : Hp} (h : te σ H fun x H1 => g x σ H1 D.nx) : tAsg te g D σ H := h
theorem tM0_run {C : Addr} {sp : Sp} {t : TA} {σ : L2.St} {H : Hp} {Q : VK} (h : t σ H fun vs H1 => ∀ x dx, H1 x = none → H1 dx = none → dx ≠ x → sp (.ref x :: vs) (upd (upd H1 dx (.own x)) x (.ins C dx [])) (fun v H2 => v = .non ∧ Q (.ref x) H2) E0) : tM0 C sp t σ H Q := h
theorem tCB_run {r : List V → Hp → VK → Prop} {t : TA} {σ : L2.St} {H : Hp} {Q : VK} (h : t σ H fun vs H1 => r vs H1 Q) : tCB r t σ H Q := h
theorem tC_run {v : V} {σ : L2.St} {H : Hp} {Q : VK} (h : Q v H) : tC v σ H Q := h
def spGreat : Sp := fun vs H Q _ => vs = [] ∧ ∀ H', Same H H' → Q (.bl true) H'
theorem rep_zero : ∀ k : Nat, (List.replicate k [V.int 0]).flatten = vints (List.replicate k 0)
  | 0 => rfl
  | k + 1 => by
    rw [List.replicate_succ, List.replicate_succ, List.flatten_cons, rep_zero k]
    rfl
section
variable {P : Program} {w : World} {K : PySem.W.Frag} {mg : Str → Option Value} {base : Heap} {k : Nat}
abbrev nmGreat : List Str := ["_law_line", "_law_ring", "_law_at"]
theorem scGreat : FnScope nmGreat [] (defScope (top 54)) := ⟨rfl, rfl, rfl, by decide +kernel, rfl, by decide +kernel, by decide +kernel⟩
theorem ok_great (T : TX K mg) : Fn0 P w K mg base (k + 8) T.a_lGreat spGreat := by
  refine T.d_lGreat.ok scGreat (fun vs H Q E h => ?_) (fun cdv A outer s H vs Q E hr h => ?_)
  · obtain ⟨rfl, _⟩ := h
    rfl
  · obtain ⟨rfl, q⟩ := h
    have hu0 := hr.units0
    have hu64 := hr.units
    refine ⟨_, pss_cons (ps_set (i := 0) scGreat.nd rfl (.inl rfl) (pe_mR T.mkM (ok_mInit (k := 0) T) (hr.mono (by omega)) rfl T.mgM (pa_cons pe_int (pa_cons (pe_callTy (call_dictP rfl) rfl T.z_dict boot_dict (pa_cons
          (pe_lc (own := [("_law_at", 2)]) (g := gName 2) rfl scGreat.nd (pi_range1 rfl T.z_range (pa_cons pe_int pa_nil)) (blkOk_by (N := nmGreat) (sc := defScope (top 54)) (by decide +kernel)) (fun s H C cl fp => pg_name (i := 2) scGreat.nd rfl (.inl rfl)) (fun s H C cl fp => pts_nil)
            (fun s H C cl fp => pe_tup (pa_cons (pv 2) (pa_cons (pe_op op_add (pv 2) pe_int) pa_nil)))) pa_nil)) pa_nil))))
      (pss_cons (ps_if (PW.pt (pw_or (pt_cmpR (op_neD hu64) (pe_cR (ok_losing (k := 0) T) (hr.mono (by omega)) rfl T.m_losingWord T.d_losingWord.kp (pa_cons (pe_mR T.mkF (ok_fInit (k := 0) T) (hr.mono (by omega)) rfl T.mgF (pa_cons (pv 0) pa_nil)) pa_nil)) (pe_op op_repT (pe_tup (pa_cons pe_int pa_nil)) pe_int) (nomark _))
          (pw_or1 (pt_cmpR op_notN (pe_cR (ok_holding (k := 0) T) (hr.mono (by omega)) rfl T.m_holdingSets T.d_holdingSets.kp (pa_cons (pe_mR T.mkF (ok_fInit (k := 0) T) (hr.mono (by omega)) rfl T.mgF (pa_cons (pv 0) pa_nil)) pa_nil)) pe_non (nomark _))))) pss_never pss_nil)
      (pss_cons (ps_set (i := 1) scGreat.nd rfl (.inl rfl) (pe_mR T.mkM (ok_mInit (k := 0) T) (hr.mono (by omega)) rfl T.mgM (pa_cons pe_int (pa_cons (pe_callTy (call_dictP rfl) rfl T.z_dict boot_dict (pa_cons
          (pe_lc (own := [("_law_at", 2)]) (g := gName 2) rfl scGreat.nd (pi_range1 rfl T.z_range (pa_cons pe_int pa_nil)) (blkOk_by (N := nmGreat) (sc := defScope (top 54)) (by decide +kernel)) (fun s H C cl fp => pg_name (i := 2) scGreat.nd rfl (.inl rfl)) (fun s H C cl fp => pts_nil)
            (fun s H C cl fp => pe_tup (pa_cons (pv 2) (pa_cons (pe_op op_mod (pe_op op_add (pv 2) pe_int) pe_int) pa_nil)))) pa_nil)) pa_nil))))
      (pss_one (ps_ret (pe_and (pe_cmpR op_isN (pe_cR (ok_losing (k := 0) T) (hr.mono (by omega)) rfl T.m_losingWord T.d_losingWord.kp (pa_cons (pe_mR T.mkF (ok_fInit (k := 0) T) (hr.mono (by omega)) rfl T.mgF (pa_cons (pv 1) (pa_cons
          (pe_op (op_ownR (C := T.CM) (op := .BitOr) (ok_mOr (k := 0) T) (hr.mono (by omega)) T.sfM T.hOr T.hOrf) (pv 0) (pe_mR T.mkM (ok_mInit (k := 0) T) (hr.mono (by omega)) rfl T.mgM (pa_cons pe_int (pa_cons (pe_disp (pps_cons pe_int pe_int pps_nil) rfl rfl (by simp) (by decide)) pa_nil)))) pa_nil))) pa_nil)) pe_non (nomark _))
        (pe_one (pe_cR (ok_isHold (k := 0) T) (hr.mono (by omega)) rfl T.m_isHolding T.d_isHolding.kp (pa_cons (pe_mR T.mkF (ok_fInit (k := 0) T) (hr.mono (by omega)) rfl T.mgF (pa_cons (pv 1) pa_nil)) (pa_cons (pe_lst (pa_cons (pe_listRg rfl rfl T.z_list (prg_1 rfl T.z_range pe_int)) pa_nil)) pa_nil))))))))), ?_⟩
    have mk : ∀ {H1 : Hp} {x dx C : Addr}, H1 x = none → H1 dx = none → dx ≠ x → Same H1 (upd (upd H1 dx (.own x)) x (.ins C dx [])) := fun nx ndx ne => Same.upd2 (Same.upd ndx) (by rw [upd_ne ne.symm]; exact nx)
    -- the line
    refine tSeq_run (tAsg_run (tM0_run (tCons_run (tC_run (tCons_run (tCB_run (tCons_run (pairs_lc (K := K) (m := 299) (g := lineF 300) (h := fun j => j + 1) (by show 2 < 3; decide) (fun R h => ⟨299, rfl, by decide, by decide, h⟩) (by decide) (fun j H' Q' hj h => ⟨_, rfl, _, _, rfl, rfl, h⟩) (fun j hj => if_pos (by omega)) fun D as H1 s1 nD hD hp => ?_))))))))
    refine ⟨D, as, tab 299 (lineF 300), rfl, SqL.of hD, hp, fun dd ndd => ?_⟩
    have s2 := s1.upd2 (o := .dK (mergeK [] (tab 299 (lineF 300)))) ndd
    have hdd : (upd H1 dd (.dK (mergeK [] (tab 299 (lineF 300))))) dd = some (.dK (tab 300 (lineF 300))) := by rw [upd_same, merge_tab, ← tab_line 299]
    generalize upd H1 dd (.dK (mergeK [] (tab 299 (lineF 300)))) = H2 at s2 hdd ⊢
    intro x dx nx ndx ne
    refine ⟨x, dx, 300, dd, lineF 300, rfl, upd_same, mk nx ndx ne _ _ hdd, good_line 300, by decide, by decide, fun H3 hml kp => ⟨rfl, ?_⟩⟩
    have s3 := s2.trans (Same.made nx ndx kp)
    clear kp nx ndx ne hdd
    -- its losing word
    refine ⟨_, rfl, ?_⟩
    intro y dy ny ndy ney
    refine ⟨y, dy, [x], 300, [lineF 300], rfl, upd_same, .cons (hml.same (mk ny ndy ney)) .nil, by simp, by simp, fun H4 hF4 kp => ⟨rfl, ?_⟩⟩
    have s34 : Same H3 H4 := Same.made ny ndy kp
    clear kp ny ndy ney
    refine ⟨y, 300, [lineF 300], 301, rfl, hF4, small_line, bfs_line_few 300 301, fun H5 told s5 hv => ?_⟩
    rw [line_look] at hv
    obtain ⟨q1, rfl, hq1⟩ := hv
    refine ⟨by show 1 ≤ sizeLine; decide, fun p np => ?_⟩
    have s6 := Same.upd (o := .tup [V.int 0]) np
    have hp6 : (upd H5 p (.tup [V.int 0])) p = some (.tup [V.int 0]) := upd_same
    generalize upd H5 p (.tup [V.int 0]) = H6 at s6 hp6 ⊢
    refine ⟨p, 300, [.int 0], rfl, rfl, SqT.of hp6, by simp, by decide, by decide, by show 1 ≤ 1000; decide, fun p2 np2 => ?_⟩
    have e300 : (List.replicate (300 : Int).toNat [V.int 0]).flatten = vints (List.replicate 300 0) := rep_zero 300
    rw [e300]
    have s7 := Same.upd (o := .tup (vints (List.replicate 300 0))) np2
    have hp7 : (upd H6 p2 (.tup (vints (List.replicate 300 0)))) p2 = some (.tup (vints (List.replicate 300 0))) := upd_same
    generalize upd H6 p2 (.tup (vints (List.replicate 300 0))) = H7 at s7 hp7 ⊢
    refine ⟨tupD (List.replicate 300 0), tupD (List.replicate 300 0), .tup (SqT.of (s7 _ _ (s6 _ _ hq1))) (dpAll_ints _), .tup (SqT.of hp7) (dpAll_ints _), tupD_shaped _, tupD_shaped _, _, rfl, ?_⟩
    have eqv : PyData.eqv (tupD (List.replicate 300 0)) (tupD (List.replicate 300 0)) = true := (eqv_ints _ _).trans (decide_eq_true rfl)
    rw [eqv]
    refine iteF ?_
    have s37 := s34.trans (s5.trans (s6.trans s7))
    refine ⟨_, rfl, ?_⟩
    intro y2 dy2 ny2 ndy2 ney2
    refine ⟨y2, dy2, [x], 300, [lineF 300], rfl, upd_same, .cons ((hml.same s37).same (mk ny2 ndy2 ney2)) .nil, by simp, by simp, fun H8 hF8 kp => ⟨rfl, ?_⟩⟩
    have s78 : Same H7 H8 := Same.made ny2 ndy2 kp
    clear kp ny2 ndy2 ney2
    refine ⟨y2, 300, [lineF 300], 301, rfl, hF8, small_line, bfs_line_few 300 301, fun H9 v s9 hv => ?_⟩
    have hvn : v = .non := by
      rcases hv with ⟨h, _⟩ | ⟨h, _⟩
      · exact h
      · rw [line_look] at h
        cases h
    subst hvn
    refine ⟨rfl, _, rfl, iteF ?_⟩
    have s39 := s37.trans (s78.trans s9)
    have hml9 := hml.same s39
    have sH9 := s3.trans s39
    -- the ring
    refine tNext_run ?_
    refine tSeq_run (tAsg_run (tM0_run (tCons_run (tC_run (tCons_run (tCB_run (tCons_run (pairs_lc (K := K) (m := 300) (g := ringF 300) (h := fun j => (j + 1) % 300) (by show 2 < 3; decide) (fun R h => ⟨300, rfl, by decide, by decide, h⟩) (by decide) (fun j H' Q' hj h => ⟨_, rfl, _, _, rfl, rfl, _, _, rfl, rfl, (show (0 : Int) < 300 by decide), h⟩) (fun j hj => if_pos hj) fun D2 as2 Ha sa nD2 hD2 hp2 => ?_))))))))
    refine ⟨D2, as2, tab 300 (ringF 300), rfl, SqL.of hD2, hp2, fun d2 nd2 => ?_⟩
    have sb := sa.upd2 (o := .dK (mergeK [] (tab 300 (ringF 300)))) nd2
    have hd2 : (upd Ha d2 (.dK (mergeK [] (tab 300 (ringF 300))))) d2 = some (.dK (tab 300 (ringF 300))) := by rw [upd_same, merge_tab]
    generalize upd Ha d2 (.dK (mergeK [] (tab 300 (ringF 300)))) = Hb at sb hd2 ⊢
    intro x2 dx2 nx2 ndx2 ne2
    refine ⟨x2, dx2, 300, d2, ringF 300, rfl, upd_same, mk nx2 ndx2 ne2 _ _ hd2, good_ring 300, by decide, by decide, fun Hc hmr kp => ⟨rfl, ?_⟩⟩
    have s9c := sb.trans (Same.made nx2 ndx2 kp)
    clear kp nx2 ndx2 ne2 hd2
    have hmlc := hml9.same s9c
    -- the closed line
    refine ⟨_, rfl, _, rfl, fun dp ndp => ⟨upd_same, [(Sum.inl 299, .int 0)], rfl, by decide, ?_⟩⟩
    have sd : Same Hc (upd (upd Hc dp (.dK [])) dp (.dK (mergeK [] [(Sum.inl 299, V.int 0)]))) := (Same.upd ndp).set ndp
    have hdp : (upd (upd Hc dp (.dK [])) dp (.dK (mergeK [] [(Sum.inl 299, V.int 0)]))) dp = some (.dK (tab 300 (dotF 300))) := by
      rw [upd_same, tab_dot 299]
      rfl
    generalize upd (upd Hc dp (.dK [])) dp (.dK (mergeK [] [(Sum.inl 299, V.int 0)])) = Hd at sd hdp ⊢
    intro x3 dx3 nx3 ndx3 ne3
    refine ⟨x3, dx3, 300, dp, dotF 300, rfl, upd_same, mk nx3 ndx3 ne3 _ _ hdp, good_dot (by decide), by decide, by decide, fun He hmd kp => ⟨rfl, ?_⟩⟩
    have sce := sd.trans (Same.made nx3 ndx3 kp)
    clear kp nx3 ndx3 ne3 hdp
    have hmle := hmlc.same sce
    obtain ⟨u1, u2, u3, u4⟩ := id hmle
    obtain ⟨u5, u6, u7, u8⟩ := id hmd
    refine ⟨x, x3, _, _, _, _, rfl, rfl, u3, u7, x, x3, 300, lineF 300, dotF 300, ringF 300, rfl, hmle, hmd, noclash_line 299, line_dot 299, good_ring 300, by decide, by decide, fun Hf mo sf _ hmo => ?_⟩
    have scf := sce.trans sf
    intro y3 dy3 ny3 ndy3 ney3
    refine ⟨y3, dy3, [x2, mo], 300, [ringF 300, ringF 300], rfl, upd_same, .cons ((hmr.same scf).same (mk ny3 ndy3 ney3)) (.cons (hmo.same (mk ny3 ndy3 ney3)) .nil), by simp, by simp, fun Hg hFg kp => ⟨rfl, ?_⟩⟩
    have scg := scf.trans (Same.made ny3 ndy3 kp)
    clear kp ny3 ndy3 ney3
    refine ⟨y3, 300, _, 1, rfl, hFg, small_ring, by rw [bfs_ring]; decide, fun Hh v sh hv => ?_⟩
    have hvn : v = .non := by
      rw [bfs_ring, lookW_none] at hv
      · exact hv
      · intro hm
        exact range_ne (n := 300) (by decide) (List.mem_singleton.mp hm).symm
    subst hvn
    refine ⟨rfl, _, rfl, ?_⟩
    rw [decide_eq_true rfl]
    refine iteT ?_
    have sch := scg.trans sh
    refine ⟨_, rfl, ?_⟩
    intro y4 dy4 ny4 ndy4 ney4
    refine ⟨y4, dy4, [x2], 300, [ringF 300], rfl, upd_same, .cons ((hmr.same sch).same (mk ny4 ndy4 ney4)) .nil, by simp, by simp, fun Hi hFi kp => ⟨rfl, ?_⟩⟩
    have sci := sch.trans (Same.made ny4 ndy4 kp)
    clear kp ny4 ndy4 ney4
    refine ⟨300, rfl, ⟨by decide, by decide, by decide, by decide, by decide⟩, fun r nr => ?_⟩
    have efull : rgV 0 300 = vints (List.range 300) := by
      unfold rgV
      rw [show ((300 : Int) - 0).toNat = 300 by decide]
      refine List.map_congr_left fun i _ => ?_
      rw [Int.zero_add]
    rw [efull]
    have sj := Same.upd (o := .lst (vints (List.range 300))) nr
    have hr' : (upd Hi r (.lst (vints (List.range 300)))) r = some (.lst (vints (List.range 300))) := upd_same
    generalize upd Hi r (.lst (vints (List.range 300))) = Hj at sj hr' ⊢
    refine ⟨by show 1 ≤ sizeLine; decide, fun l nl => ?_⟩
    have sk := Same.upd (o := .lst [V.ref r]) nl
    have hl : (upd Hj l (.lst [V.ref r])) l = some (.lst [V.ref r]) := upd_same
    generalize upd Hj l (.lst [V.ref r]) = Hk at sk hl ⊢
    refine ⟨y4, .ref l, 300, [ringF 300], .list [lstD (List.range 300)], rfl, hFi.same (sj.trans sk), fam_ring, .inl (.lst (SqL.of hl) (.cons (.lst (SqL.of (sk _ _ hr')) (dpAll_ints _)) .nil)), ?_, fun H' s' => ?_⟩
    · intro es e
      cases e
      refine ⟨by simp, fun e he ds hd => ?_⟩
      rw [List.mem_singleton.mp he] at hd
      unfold lstD at hd
      cases hd
      rw [List.length_map, List.length_range]
      decide
    · rw [hold_ring (by decide)]
      exact q H' ((((sH9.trans s9c).trans sci).trans (sj.trans sk)).trans s')
end
end K57
end

section
set_option Elab.async false
set_option linter.all false
set_option maxRecDepth 100000
set_option maxHeartbeats 4000000
namespace K57
open PySem PySem.Spec PyProof.Rows L2 StX ClX
/-! law -/
theorem tabsAt_x {pool : Addr} {H H' : Hp} {n : Nat} {ds : List Addr} {gs : List Fn} (s : SameX pool H H') (hp : PoolAt H pool) (h : TabsAt H n ds gs) : TabsAt H' n ds gs := by
  obtain ⟨c, sd, hp, _⟩ := hp
  exact Paired.mapP h fun d g hd => s _ _ (ne_of hd hp (by intro e; cases e)) hd
theorem tabsAt_snoc {H : Hp} {n : Nat} {ds : List Addr} {gs : List Fn} {d : Addr} {g : Fn} (h : TabsAt H n ds gs) (hd : H d = some (.dK (tab n g))) : TabsAt H n (ds ++ [d]) (gs ++ [g]) := Paired.snoc h hd
theorem mapAt_updL {CM : Addr} {H : Hp} {D : Addr} {xs ys : List V} {m : Addr} {n : Nat} {g : Fn} (hD : H D = some (.lst xs)) (h : MapAt CM H m n g) : MapAt CM (upd H D (.lst ys)) m n g := by
  obtain ⟨dx, d, h1, h2⟩ := h
  exact ⟨dx, d, by rw [upd_ne (ne_of h1 hD (by intro e; cases e))]; exact h1, by rw [upd_ne (ne_of h2 hD (by intro e; cases e))]; exact h2⟩
theorem mapsAt_updL {CM : Addr} {H : Hp} {D : Addr} {xs ys : List V} {n : Nat} (hD : H D = some (.lst xs)) : ∀ {ms : List Addr} {gs : List Fn}, MapsAt CM H n ms gs → MapsAt CM (upd H D (.lst ys)) n ms gs
  | _, _, .nil => .nil
  | _, _, .cons h r => .cons (mapAt_updL hD h) (mapsAt_updL hD r)
theorem tabsAt_tail {H : Hp} {n : Nat} {d : Addr} {ds : List Addr} {g : Fn} {gs : List Fn} (h : TabsAt H n (d :: ds) (g :: gs)) : TabsAt H n ds gs := by
  cases h with
  | cons _ r => exact r
abbrev rDictP (K : PySem.W.Frag) : List V → Hp → VK → Prop := fun xs H Q => ∃ (a : Addr) (ps : List Addr) (kvs : List (Key × V)), xs = [.ref a] ∧ SqL K H a (ps.map V.ref) ∧ Paired (fun p kv => SqT K H p [kV kv.1, kv.2]) ps kvs ∧ ∀ p, H p = none → Q (.ref p) (upd H p (.dK (mergeK [] kvs)))
abbrev rModI : R2 := rI (fun _ j => 0 < j) fun i j => .int (i % j)
abbrev rAddI : R2 := rI0 fun i j => .int (i + j)
abbrev tRing (K : PySem.W.Frag) : TS := tIfS (tTest (tOp rEq (tC0 spDraw (tCons (tVar 2) (tCons (tC (.int 3)) tNil))) (tC (.int 0))))
  (tAsg (tCB (rDictP K) (tCons (tLc (iRng1 (tCons (tVar 4) tNil)) (gName 7) tYes (tTup (tCons (tVar 7) (tCons (tOp rModI (tOp rAddI (tVar 7) (tC (.int 1))) (tVar 4)) tNil))) [7]) tNil)) (gSub (tVar 5) (tC (.int 0)) rSetL)) tNext
theorem law_ring {K : PySem.W.Frag} {σ : L2.St} {H : Hp} {D : L2.Ends} {pool tl : Addr} {n : Nat} {ds : List Addr} {gs : List Fn} (h2 : σ[2]? = some (some (.ref pool))) (h4 : σ[4]? = some (some (.int (n : Int)))) (h5 : σ[5]? = some (some (.ref tl))) (hl : 7 < σ.length) (n1 : 1 ≤ n) (n3 : n ≤ 300)
    (hp : PoolAt H pool) (hn : tl ≠ pool) (htl : H tl = some (.lst (ds.map V.ref))) (ht : TabsAt H n ds gs) (hg : ∀ g ∈ gs, Good n g) (hne : gs ≠ [])
    (q : ∀ H' ds' gs', (∀ b o, b ≠ pool → b ≠ tl → H b = some o → H' b = some o) → PoolAt H' pool → H' tl = some (.lst (ds'.map V.ref)) → TabsAt H' n ds' gs' → (∀ g ∈ gs', Good n g) → gs' ≠ [] → gs'.length = gs.length → D.nx σ H') : tRing K D σ H := by
  refine ⟨_, h2, pool, 3, rfl, hp, by decide, by decide, fun H1 j sx hp1 hj => ⟨rfl, _, rfl, ?_⟩⟩
  have ht1 := tabsAt_x sx hp ht
  have htl1 := sx _ _ hn htl
  refine ite2 (fun _ => ?_) (fun _ => q H1 ds gs (fun b o nb _ e => sx b o nb e) hp1 htl1 ht1 hg hne rfl)
  have g7 : ∀ j : Nat, ((wipe σ [7]).set 7 (some (V.int (j : Int))))[7]? = some (some (V.int (j : Int))) := fun j => by
    show ((σ.set 7 none).set 7 (some (V.int (j : Int))))[7]? = _
    rw [List.set_set, List.getElem?_set_self hl]
  have g4 : ∀ j : Nat, ((wipe σ [7]).set 7 (some (V.int (j : Int))))[4]? = some (some (V.int (n : Int))) := fun j => by
    show ((σ.set 7 none).set 7 (some (V.int (j : Int))))[4]? = _
    rw [List.set_set, List.getElem?_set_ne (by decide)]
    exact h4
  refine tAsg_run (tCB_run (tCons_run (pairs_lc (K := K) (m := n) (g := ringF n) (h := fun j => (j + 1) % n) hl (fun R h => ⟨_, h4, n, rfl, by omega, by omega, h⟩) (by omega)
    (fun j H' Q' hj h => ⟨.int (j : Int), g7 j, (j : Int), 1, rfl, rfl, .int (n : Int), g4 j, _, _, rfl, rfl, (show (0 : Int) < (n : Int) by omega), h⟩) (fun j hj => if_pos hj) fun D2 as2 H2 s2 nD hD hpr => ?_)))
  refine ⟨D2, as2, tab n (ringF n), rfl, SqL.of hD, hpr, fun dd ndd => ?_⟩
  have s3 := s2.upd2 (o := .dK (mergeK [] (tab n (ringF n)))) ndd
  have hdd : (upd H2 dd (.dK (mergeK [] (tab n (ringF n))))) dd = some (.dK (tab n (ringF n))) := by rw [upd_same, merge_tab]
  generalize upd H2 dd (.dK (mergeK [] (tab n (ringF n)))) = H3 at s3 hdd ⊢
  cases hgs : gs with
  | nil => exact absurd hgs hne
  | cons g0 gr =>
    subst hgs
    cases hds : ds with
    | nil =>
      subst hds
      cases ht1
    | cons d0 dr =>
      subst hds
      have htl3 := s3 _ _ htl1
      have ht3 := tabsAt_tail (ht1.same s3)
      refine ⟨_, h5, tl, _, 0, 0, rfl, rfl, htl3, ?_, ?_⟩
      · unfold ixN
        rw [if_pos (by decide), if_pos (by rw [List.length_map, List.length_cons]; omega)]
        rfl
      have kd : KeepT H3 (upd H3 tl (.lst (((d0 :: dr).map V.ref).set 0 (.ref dd)))) := .lst htl3
      refine q _ (dd :: dr) (ringF n :: gr) (fun b o nb nt e => ?_) ?_ upd_same (.cons (kd.2 _ _ hdd) (TabsAt.keep kd ht3)) (fun g hgm => ?_) (by simp) rfl
      · rw [upd_ne nt]
        exact s3 _ _ (sx _ _ nb e)
      · obtain ⟨c, sd, h1, h2⟩ := hp1
        exact ⟨c, sd, by rw [upd_ne hn.symm]; exact s3 _ _ h1, h2⟩
      · rcases List.mem_cons.mp hgm with rfl | hm
        · exact good_ring n
        · exact hg g (List.mem_cons_of_mem _ hm)
def spLaw (K : PySem.W.Frag) : Sp := fun vs H Q _ => ∃ (a : Addr) (ns : List Int), vs = [.ref a] ∧ SqL K H a (ns.map V.int) ∧ ns.length ≤ 63 ∧ ∀ H', Q (.bl true) H'
section
variable {P : Program} {w : World} {K : PySem.W.Frag} {mg : Str → Option Value} {base : Heap} {k : Nat}
abbrev nmLaw : List Str := ["_law_script", "_law_k", "_law_pool", "_law_turn", "_law_size", "_law_tables", "_law_index", "_law_at", "_law_table"]
theorem scLaw : FnScope nmLaw ["_law_script"] (defScope (top 55)) := ⟨rfl, rfl, rfl, by decide +kernel, rfl, by decide +kernel, by decide +kernel⟩
theorem ok_law (T : TX K mg) : FnG P w K mg base (k + 10) T.a_law (spLaw K) := by
  refine T.d_law.okG scLaw (fun vs H Q E h => ?_) (fun cdv A outer s H vs Q hr hg h => ?_)
  · obtain ⟨a, ns, rfl, _⟩ := h
    rfl
  · obtain ⟨a, ns, rfl, hS, hns, q⟩ := h
    have hr1 : Room 1 _ := hr.mono (by omega)
    refine ⟨_, pss_cons (ps_if (pt_not (pt_val (pe_cR0 (ok_great (k := 0) T) (hr.mono (by omega)) rfl T.m_lGreat T.d_lGreat.kp))) pss_never pss_nil)
      (pss_cons (ps_for PassesOwn.never rfl (pi_range1 rfl T.z_range (pa_cons (pe_callB (call_max2 rfl) rfl T.z_max boot_max (pa_cons pe_int (pa_cons (pe_callB (call_min2 rfl) rfl T.z_min boot_min (pa_cons (pe_callB call_len_seq rfl T.z_len PySem.boot_len (pa_cons (pv 0) pa_nil)) (pa_cons pe_int pa_nil))) pa_nil))) pa_nil)) (pg_name (i := 1) scLaw.nd rfl (.inl rfl))
        (pss_cons (ps_set (i := 2) scLaw.nd rfl (.inr rfl) (pe_cR (ok_hand (k := 0) T) hr1 rfl T.m_lHand T.d_lHand.kp (pa_cons (pv 0) (pa_cons (pv 1) pa_nil))))
        (pss_one (ps_for PassesOwn.never rfl (pi_range1 rfl T.z_range (pa_cons pe_int pa_nil)) (pg_name (i := 3) scLaw.nd rfl (.inl rfl))
          (pss_cons (ps_set (i := 4) scLaw.nd rfl (.inr rfl) (pe_op op_add pe_int (pe_cR (ok_draw (k := 0) T) hr1 rfl T.m_lDraw T.d_lDraw.kp (pa_cons (pv 2) (pa_cons pe_int pa_nil)))))
          (pss_cons (ps_setLc (i := 5) (own := [("_law_index", 6)]) (g := gName 6) (te := tC0 spArrows (tCons (tVar 2) (tCons (tVar 4) tNil))) rfl scLaw.nd rfl rfl (sw_true rfl rfl (by rfl) (by rfl)) (pi_range1 rfl T.z_range (pa_cons (pe_op op_add pe_int (pe_cR (ok_draw (k := 0) T) hr1 rfl T.m_lDraw T.d_lDraw.kp (pa_cons (pv 2) (pa_cons pe_int pa_nil)))) pa_nil))
            (blkOk_by (N := nmLaw) (sc := defScope (top 55)) (by decide +kernel)) (fun s H C cl fp => pg_name (i := 6) scLaw.nd rfl (.inl rfl)) (fun s H C cl fp => pts_nil) (fun s H C cl fp => pe_cR (ok_arrows (k := 0) T) (hr.mono (by omega)) rfl T.m_lArrows T.d_lArrows.kp (pa_cons (pv 2) (pa_cons (pv 4) pa_nil))))
          (pss_cons (ps_if (pt_cmpR op_eq (pe_cR (ok_draw (k := 0) T) hr1 rfl T.m_lDraw T.d_lDraw.kp (pa_cons (pv 2) (pa_cons pe_int pa_nil))) pe_int (nomark _))
            (pss_one (ps_asg (pe_callTy (call_dictP rfl) rfl T.z_dict boot_dict (pa_cons (pe_lc (own := [("_law_at", 7)]) (g := gName 7) rfl scLaw.nd (pi_range1 rfl T.z_range (pa_cons (pv 4) pa_nil)) (blkOk_by (N := nmLaw) (sc := defScope (top 55)) (by decide +kernel)) (fun s H C cl fp => pg_name (i := 7) scLaw.nd rfl (.inl rfl)) (fun s H C cl fp => pts_nil)
              (fun s H C cl fp => pe_tup (pa_cons (pv 7) (pa_cons (pe_op op_mod (pe_op op_add (pv 7) pe_int) (pv 4)) pa_nil)))) pa_nil)) (pg_sub (pv 5) pe_int set_list))) pss_nil)
          (pss_one (ps_if (pt_not (pt_val (pe_cG (ok_right (k := k) T) hr hg rfl T.m_lRight T.d_lRight.kp (pa_cons (pv 2) (pa_cons (pe_cR (ok_lFam (k := 0) T) (hr.mono (by omega)) rfl T.m_lFamily T.d_lFamily.kp
              (pa_cons (pe_lc (own := [("_law_table", 8)]) (g := gName 8) (te := tM0 T.CM (spMInit T.CM) (tCons (tVar 4) (tCons (tVar 8) tNil))) rfl scLaw.nd (pi_list (pv 5)) (blkOk_by (N := nmLaw) (sc := defScope (top 55)) (by decide +kernel)) (fun s H C cl fp => pg_name (i := 8) scLaw.nd rfl (.inl rfl)) (fun s H C cl fp => pts_nil)
                (fun s H C cl fp => pe_mR T.mkM (ok_mInit (k := 0) T) (hr.mono (by omega)) rfl T.mgM (pa_cons (pv 4) (pa_cons (pv 8) pa_nil)))) pa_nil)) (pa_cons (pv 5) (pa_cons (pv 4) pa_nil))))))) pss_never pss_nil)))))))))
      (pss_one (ps_ret pe_bl))), ?_⟩
    have mk : ∀ {H1 : Hp} {x dx C : Addr}, H1 x = none → H1 dx = none → dx ≠ x → Same H1 (upd (upd H1 dx (.own x)) x (.ins C dx [])) := fun nx ndx ne => Same.upd2 (Same.upd ndx) (by rw [upd_ne ne.symm]; exact nx)
    refine ⟨rfl, fun H1 s1 => ⟨_, rfl, iteF ?_⟩⟩
    have hNl : (ns.map V.int).length ≤ 63 := by rwa [List.length_map]
    refine ⟨_, rfl, a, ns.map V.int, rfl, .inl (s1.seq hS), _, _, rfl, _, _, rfl, _, rfl, ?_, ?_, ?_⟩
    · split <;> split <;> omega
    · split <;> split <;> omega
    obtain ⟨N, hN5, hNe⟩ : ∃ N : Int, N ≤ 5 ∧ (if (if (5 : Int) < (((ns.map V.int).length : Nat) : Int) then (5 : Int) else (((ns.map V.int).length : Nat) : Int)) > 2 then (if (5 : Int) < (((ns.map V.int).length : Nat) : Int) then (5 : Int) else (((ns.map V.int).length : Nat) : Int)) else 2) = N := ⟨_, by split <;> split <;> omega, rfl⟩
    rw [hNe]
    refine for_it walk_range0 (fun i σ H' => ∃ y1 y2 y3 y4 y5, σ = [some (.ref a), y1, y2, y3, y4, y5, none, none, none] ∧ Same H H') ⟨none, none, none, none, none, rfl, s1⟩ (fun _ _ _ _ _ => trivial) ?_ ?_
    · rintro i x σ Ha Hb hi ⟨y1, y2, y3, y4, y5, rfl, sa⟩ ⟨rfl, rfl⟩
      have hi5 : i < 5 := by omega
      refine ⟨_, rfl, _, rfl, a, ns, i, rfl, sa.seq hS, by omega, by omega, fun Hc pool sc npool hpool => ?_⟩
      have sac := sa.trans sc
      have nHp : H pool = none := sa.free npool
      refine ⟨3, rfl, by decide, by decide, ?_⟩
      refine for_it walk_range0 (fun t σ H' => ∃ y3 y4 y5, σ = [some (.ref a), some (.int (i : Int)), some (.ref pool), y3, y4, y5, none, none, none] ∧ PoolAt H' pool ∧ Same H H') ⟨_, _, _, rfl, hpool, sac⟩ (fun _ _ _ _ _ => trivial) ?_ ?_
      · rintro t x σ Hd He ht ⟨y3, y4, y5, rfl, hpd, sd⟩ ⟨rfl, rfl⟩
        -- the size
        refine ⟨_, rfl, pool, 7, rfl, hpd, by decide, by decide, fun H2 j0 sx2 hp2 hj0 => ⟨1, _, rfl, rfl, ?_⟩⟩
        have en : (1 : Int) + (j0 : Int) = ((1 + j0 : Nat) : Int) := rfl
        have hn1 : 1 ≤ 1 + j0 := by omega
        have hn7 : 1 + j0 ≤ 7 := by omega
        -- how many maps
        refine ⟨_, rfl, pool, 3, rfl, hp2, by decide, by decide, fun H3 j1 sx3 hp3 hj1 => ⟨1, _, rfl, rfl, (1 : Int) + (j1 : Int), rfl, by omega, by omega, fun tl ntl => ?_⟩⟩
        have hsame3 : Same H H3 := fun b o e => sx3 _ _ (ne_of_none e nHp) (sx2 _ _ (ne_of_none e nHp) (sd _ _ e))
        have htp : tl ≠ pool := by
          obtain ⟨c, s0, h1, _⟩ := hp3
          exact (ne_of_none h1 ntl).symm
        refine lc_it walk_range0 (fun m H' => ∃ ds gs, H' tl = some (.lst (ds.map V.ref)) ∧ TabsAt H' (1 + j0) ds gs ∧ gs.length = m ∧ (∀ g ∈ gs, Good (1 + j0) g) ∧ PoolAt H' pool ∧ ∀ b o, b ≠ tl → b ≠ pool → H3 b = some o → H' b = some o)
          ⟨[], [], upd_same, .nil, rfl, fun g hg => (by cases hg), hp3.same (Same.upd ntl), fun b o nb _ e => by rw [upd_ne nb]; exact e⟩ (fun _ _ _ _ => trivial) ?_ ?_
        · rintro m x G1 G2 hm ⟨ds, gs, hD, hT, hgl, hgg, hpG, hk⟩ ⟨rfl, rfl⟩
          have hm3 : m < 3 := by
            have hm' : m < ((1 : Int) + (j1 : Int)).toNat := hm
            omega
          refine ⟨rfl, ?_⟩
          refine iteT (B := True) ⟨_, rfl, _, rfl, pool, 1 + j0, rfl, hpG, hn1, by omega, fun G3 dn g sx5 hp5 ndn hdp hdn G => ?_⟩
          have hD3 := sx5 _ _ htp hD
          have hT3 := tabsAt_snoc (tabsAt_x sx5 hpG hT) hdn
          have kd : KeepT G3 (upd G3 tl (.lst (ds.map V.ref ++ [.ref dn]))) := .lst hD3
          refine ⟨_, hD3, ?_, ds ++ [dn], gs ++ [g], upd_same.trans ?_, TabsAt.keep kd hT3, ?_, ?_, ?_, fun b o nb np e => ?_⟩
          · rw [List.length_map, Paired.length hT]
            exact small1000 (by omega)
          · rw [List.map_append]
            rfl
          · rw [List.length_append, List.length_singleton, hgl]
          · intro g' hg'
            rcases List.mem_append.mp hg' with h | h
            · exact hgg g' h
            · rw [List.mem_singleton] at h
              rw [h]
              exact G
          · obtain ⟨c, s0, h1, h2⟩ := hp5
            exact ⟨c, s0, by rw [upd_ne htp.symm]; exact h1, h2⟩
          · rw [upd_ne nb]
            exact sx5 _ _ np (hk b o nb np e)
        rintro H4 ⟨ds, gs, hD, hT, hgl, hgg, hp4, hk4⟩
        have hgl' : gs.length = 1 + j1 := by
          have e : ((1 : Int) + (j1 : Int)).toNat = 1 + j1 := by omega
          rw [hgl, e]
        have nHt : H tl = none := hsame3.free ntl
        have hsame4 : Same H H4 := fun b o e => hk4 b o (ne_of_none e nHt) (ne_of_none e nHp) (hsame3 _ _ e)
        have hgne : gs ≠ [] := by
          intro e
          rw [e, List.length_nil] at hgl'
          omega
        refine law_ring (K := K) (pool := pool) (tl := tl) (n := 1 + j0) (ds := ds) (gs := gs) rfl rfl rfl (by show 7 < 9; decide) hn1 (by omega) hp4 htp hD hT hgg hgne fun H5 ds' gs' hk5 hp5 hD5 hT5 hgg5 hgne5 hgl5 => ?_
        have hsame5 : Same H H5 := fun b o e => hk5 b o (ne_of_none e nHp) (ne_of_none e nHt) (hsame4 _ _ e)
        -- the maps
        refine ⟨_, rfl, _, rfl, tl, rfl, ⟨_, SqL.of hD5⟩, fun D2 nD2 => ?_⟩
        refine lc_list (K := K) (a := tl) (xs := ds'.map V.ref) (fun m H' => ∃ ms, H' D2 = some (.lst (ms.map V.ref)) ∧ MapsAt T.CM H' (1 + j0) ms (gs'.take m) ∧ SameX D2 H5 H') ⟨[], upd_same, .nil, (Same.upd nD2).x⟩ (fun m H' _ h => ?_) ?_ ?_
        · obtain ⟨_, _, _, h⟩ := h
          exact SqL.of (h tl _ (ne_of_none hD5 nD2) hD5)
        · rintro m x G1 hx ⟨ms, hD, hM, sx⟩
          rw [List.getElem?_map] at hx
          obtain ⟨d, ed, rfl⟩ := Option.map_eq_some_iff.mp hx
          obtain ⟨g, eg, hd⟩ := TabsAt.get hT5 ed
          have hd1 := sx d _ (ne_of_none hd nD2) hd
          have hm : m < gs'.length := (List.getElem?_eq_some_iff.mp eg).1
          refine ⟨rfl, ?_⟩
          refine iteT (B := True) ⟨_, rfl, _, rfl, ?_⟩
          intro y dy ny ndy ney
          refine ⟨y, dy, 1 + j0, d, g, rfl, upd_same, mk ny ndy ney _ _ hd1, hgg5 g (List.mem_of_getElem? eg), hn1, by omega, fun G2 hmy kp => ⟨rfl, ?_⟩⟩
          have sy : Same G1 G2 := Same.made ny ndy kp
          have hD' := sy _ _ hD
          refine ⟨_, hD', ?_, ms ++ [y], upd_same.trans ?_, ?_, (sx.trans (Same.x sy)).updx⟩
          · rw [List.length_map, hM.len, List.length_take]
            exact small1000 (by omega)
          · rw [List.map_append]
            rfl
          · rw [take_snoc eg]
            exact mapsAt_updL hD' ((hM.same sy).append (.cons hmy .nil))
        rintro H6 ⟨ms, hD6, hM6, sx6⟩
        have edl : (ds'.map V.ref).length = gs'.length := by
          rw [List.length_map]
          exact Paired.length hT5
        rw [edl, List.take_length] at hM6
        have s56 : Same H5 H6 := fun b o e => sx6 b o (ne_of_none e nD2) e
        have hml := hM6.len
        refine ⟨D2, ms, 1 + j0, gs', rfl, hD6, hM6, ?_, by omega, fun H7 fm s7 hF7 => ?_⟩
        · intro e
          rw [e] at hml
          exact hgne5 (List.eq_nil_of_length_eq_zero hml.symm)
        have s57 := s56.trans s7
        have SM : Small (1 + j0) gs' := ⟨hgg5, hgne5, by omega, hn1, by omega, fun kk => by
          have h1 := bfs_few (1 + j0) gs' kk
          have h2 : (2 : Nat) ^ (1 + j0) ≤ 2 ^ 7 := Nat.pow_le_pow_right (by decide) hn7
          have h3 : (2 : Nat) ^ 7 = 128 := by decide
          omega⟩
        refine ⟨_, rfl, _, rfl, pool, fm, tl, 1 + j0, gs', ds', rfl, hp5.same s57, htp, s57 _ _ hD5, hF7, hT5.same s57, SM, hn7, fun H8 sx8 hp8 => ⟨_, rfl, iteF ?_⟩⟩
        exact ⟨_, _, _, rfl, hp8, fun b o e => sx8 _ _ (ne_of_none e nHp) (s57 _ _ (hsame5 _ _ e))⟩
      · rintro σ Hd ⟨y3, y4, y5, rfl, hpd, sd⟩
        exact ⟨_, _, _, _, _, rfl, sd⟩
    · rintro σ Ha ⟨y1, y2, y3, y4, y5, rfl, sa⟩
      exact q _
end
end K57
end

section
set_option Elab.async false
set_option linter.all false
set_option maxRecDepth 100000
set_option maxHeartbeats 4000000
namespace K57
open PySem PySem.Spec PyProof.Rows L2 StX ClX
/-! what the top leaves, from the written part -/
def mkTX {K : PySem.W.Frag} {h : Heap} {mg : Str → Option Value} (X : K.In h) (G : h.Ns mainGlobals mg) {CM CF f_isInt f_inRange f_checkSize f_areArrows f_commonSize f_firstClash f_checkMap f_checkAll f_placesAfter f_checkMany f_made f_checkWord f_checkFamily f_imageOf f_searched f_losingWord f_holdingSets f_isSet f_isHolding f_lHand f_lDraw f_lArrows f_lFamily f_lImage f_lSearch f_lIsList f_lIs f_lBent f_lRight f_lGreat f_law f_mInit cIdent f_mIdent cEmpty f_mEmpty pSize f_mSize pArrows f_mArrows f_mMul f_mOr f_mEq pMaps f_fMaps pFSize f_fSize f_fCall f_fAdd f_fLen f_fInit : Addr}
    {oc_isInt kV_isInt dc_isInt pm_isInt cd_isInt ct_isInt : Value} {od_isInt an_isInt : Option Addr} {sl_isInt : Array (Option Value)}
    {oc_inRange kV_inRange dc_inRange pm_inRange cd_inRange ct_inRange : Value} {od_inRange an_inRange : Option Addr} {sl_inRange : Array (Option Value)}
    {oc_checkSize kV_checkSize dc_checkSize pm_checkSize cd_checkSize ct_checkSize : Value} {od_checkSize an_checkSize : Option Addr} {sl_checkSize : Array (Option Value)}
    {oc_areArrows kV_areArrows dc_areArrows pm_areArrows cd_areArrows ct_areArrows : Value} {od_areArrows an_areArrows : Option Addr} {sl_areArrows : Array (Option Value)}
    {oc_commonSize kV_commonSize dc_commonSize pm_commonSize cd_commonSize ct_commonSize : Value} {od_commonSize an_commonSize : Option Addr} {sl_commonSize : Array (Option Value)}
    {oc_firstClash kV_firstClash dc_firstClash pm_firstClash cd_firstClash ct_firstClash : Value} {od_firstClash an_firstClash : Option Addr} {sl_firstClash : Array (Option Value)}
    {oc_checkMap kV_checkMap dc_checkMap pm_checkMap cd_checkMap ct_checkMap : Value} {od_checkMap an_checkMap : Option Addr} {sl_checkMap : Array (Option Value)}
    {oc_checkAll kV_checkAll dc_checkAll pm_checkAll cd_checkAll ct_checkAll : Value} {od_checkAll an_checkAll : Option Addr} {sl_checkAll : Array (Option Value)}
    {oc_placesAfter kV_placesAfter dc_placesAfter pm_placesAfter cd_placesAfter ct_placesAfter : Value} {od_placesAfter an_placesAfter : Option Addr} {sl_placesAfter : Array (Option Value)}
    {oc_checkMany kV_checkMany dc_checkMany pm_checkMany cd_checkMany ct_checkMany : Value} {od_checkMany an_checkMany : Option Addr} {sl_checkMany : Array (Option Value)}
    {oc_made kV_made dc_made pm_made cd_made ct_made : Value} {od_made an_made : Option Addr} {sl_made : Array (Option Value)}
    {oc_checkWord kV_checkWord dc_checkWord pm_checkWord cd_checkWord ct_checkWord : Value} {od_checkWord an_checkWord : Option Addr} {sl_checkWord : Array (Option Value)}
    {oc_checkFamily kV_checkFamily dc_checkFamily pm_checkFamily cd_checkFamily ct_checkFamily : Value} {od_checkFamily an_checkFamily : Option Addr} {sl_checkFamily : Array (Option Value)}
    {oc_imageOf kV_imageOf dc_imageOf pm_imageOf cd_imageOf ct_imageOf : Value} {od_imageOf an_imageOf : Option Addr} {sl_imageOf : Array (Option Value)}
    {oc_searched kV_searched dc_searched pm_searched cd_searched ct_searched : Value} {od_searched an_searched : Option Addr} {sl_searched : Array (Option Value)}
    {oc_losingWord kV_losingWord dc_losingWord pm_losingWord cd_losingWord ct_losingWord : Value} {od_losingWord an_losingWord : Option Addr} {sl_losingWord : Array (Option Value)}
    {oc_holdingSets kV_holdingSets dc_holdingSets pm_holdingSets cd_holdingSets ct_holdingSets : Value} {od_holdingSets an_holdingSets : Option Addr} {sl_holdingSets : Array (Option Value)}
    {oc_isSet kV_isSet dc_isSet pm_isSet cd_isSet ct_isSet : Value} {od_isSet an_isSet : Option Addr} {sl_isSet : Array (Option Value)}
    {oc_isHolding kV_isHolding dc_isHolding pm_isHolding cd_isHolding ct_isHolding : Value} {od_isHolding an_isHolding : Option Addr} {sl_isHolding : Array (Option Value)}
    {oc_lHand kV_lHand dc_lHand pm_lHand cd_lHand ct_lHand : Value} {od_lHand an_lHand : Option Addr} {sl_lHand : Array (Option Value)}
    {oc_lDraw kV_lDraw dc_lDraw pm_lDraw cd_lDraw ct_lDraw : Value} {od_lDraw an_lDraw : Option Addr} {sl_lDraw : Array (Option Value)}
    {oc_lArrows kV_lArrows dc_lArrows pm_lArrows cd_lArrows ct_lArrows : Value} {od_lArrows an_lArrows : Option Addr} {sl_lArrows : Array (Option Value)}
    {oc_lFamily kV_lFamily dc_lFamily pm_lFamily cd_lFamily ct_lFamily : Value} {od_lFamily an_lFamily : Option Addr} {sl_lFamily : Array (Option Value)}
    {oc_lImage kV_lImage dc_lImage pm_lImage cd_lImage ct_lImage : Value} {od_lImage an_lImage : Option Addr} {sl_lImage : Array (Option Value)}
    {oc_lSearch kV_lSearch dc_lSearch pm_lSearch cd_lSearch ct_lSearch : Value} {od_lSearch an_lSearch : Option Addr} {sl_lSearch : Array (Option Value)}
    {oc_lIsList kV_lIsList dc_lIsList pm_lIsList cd_lIsList ct_lIsList : Value} {od_lIsList an_lIsList : Option Addr} {sl_lIsList : Array (Option Value)}
    {oc_lIs kV_lIs dc_lIs pm_lIs cd_lIs ct_lIs : Value} {od_lIs an_lIs : Option Addr} {sl_lIs : Array (Option Value)}
    {oc_lBent kV_lBent dc_lBent pm_lBent cd_lBent ct_lBent : Value} {od_lBent an_lBent : Option Addr} {sl_lBent : Array (Option Value)}
    {oc_lRight kV_lRight dc_lRight pm_lRight cd_lRight ct_lRight : Value} {od_lRight an_lRight : Option Addr} {sl_lRight : Array (Option Value)}
    {oc_lGreat kV_lGreat dc_lGreat pm_lGreat cd_lGreat ct_lGreat : Value} {od_lGreat an_lGreat : Option Addr} {sl_lGreat : Array (Option Value)}
    {oc_law kV_law dc_law pm_law cd_law ct_law : Value} {od_law an_law : Option Addr} {sl_law : Array (Option Value)}
    {mc : Value}
    {oc_mInit kV_mInit dc_mInit pm_mInit cd_mInit ct_mInit : Value} {od_mInit an_mInit : Option Addr} {sl_mInit : Array (Option Value)}
    {rs_cIdent : List Value}
    {oc_mIdent kV_mIdent dc_mIdent pm_mIdent cd_mIdent ct_mIdent : Value} {od_mIdent an_mIdent : Option Addr} {sl_mIdent : Array (Option Value)}
    {rs_cEmpty : List Value}
    {oc_mEmpty kV_mEmpty dc_mEmpty pm_mEmpty cd_mEmpty ct_mEmpty : Value} {od_mEmpty an_mEmpty : Option Addr} {sl_mEmpty : Array (Option Value)}
    {rs_pSize : List Value}
    {oc_mSize kV_mSize dc_mSize pm_mSize cd_mSize ct_mSize : Value} {od_mSize an_mSize : Option Addr} {sl_mSize : Array (Option Value)}
    {rs_pArrows : List Value}
    {oc_mArrows kV_mArrows dc_mArrows pm_mArrows cd_mArrows ct_mArrows : Value} {od_mArrows an_mArrows : Option Addr} {sl_mArrows : Array (Option Value)}
    {oc_mMul kV_mMul dc_mMul pm_mMul cd_mMul ct_mMul : Value} {od_mMul an_mMul : Option Addr} {sl_mMul : Array (Option Value)}
    {oc_mOr kV_mOr dc_mOr pm_mOr cd_mOr ct_mOr : Value} {od_mOr an_mOr : Option Addr} {sl_mOr : Array (Option Value)}
    {oc_mEq kV_mEq dc_mEq pm_mEq cd_mEq ct_mEq : Value} {od_mEq an_mEq : Option Addr} {sl_mEq : Array (Option Value)}
    {rs_pMaps : List Value}
    {oc_fMaps kV_fMaps dc_fMaps pm_fMaps cd_fMaps ct_fMaps : Value} {od_fMaps an_fMaps : Option Addr} {sl_fMaps : Array (Option Value)}
    {rs_pFSize : List Value}
    {oc_fSize kV_fSize dc_fSize pm_fSize cd_fSize ct_fSize : Value} {od_fSize an_fSize : Option Addr} {sl_fSize : Array (Option Value)}
    {oc_fCall kV_fCall dc_fCall pm_fCall cd_fCall ct_fCall : Value} {od_fCall an_fCall : Option Addr} {sl_fCall : Array (Option Value)}
    {oc_fAdd kV_fAdd dc_fAdd pm_fAdd cd_fAdd ct_fAdd : Value} {od_fAdd an_fAdd : Option Addr} {sl_fAdd : Array (Option Value)}
    {oc_fLen kV_fLen dc_fLen pm_fLen cd_fLen ct_fLen : Value} {od_fLen an_fLen : Option Addr} {sl_fLen : Array (Option Value)}
    {oc_fInit kV_fInit dc_fInit pm_fInit cd_fInit ct_fInit : Value} {od_fInit an_fInit : Option Addr} {sl_fInit : Array (Option Value)}
    {tk_MAX_SIZE : Tok}
    {tk_MOST_MAPS : Tok}
    {tk_MOST_LETTERS : Tok}
    {tk_MOST_SETS : Tok}
    (nCM : PySem.W.nsIn K mainGlobals "Map" = some (some (.ref CM)))
    (nCF : PySem.W.nsIn K mainGlobals "Family" = some (some (.ref CF)))
    (n_isInt : PySem.W.nsIn K mainGlobals "is_integer" = some (some (.ref f_isInt)))
    (l_isInt : K.lookup f_isInt = some ⟨oc_isInt, od_isInt, .func (PySem.W.fnOf "is_integer" "is_integer" (defArgs (top 13)) (defBody (top 13)) (defScope (top 13)) .none kV_isInt dc_isInt pm_isInt an_isInt cd_isInt ct_isInt), sl_isInt⟩)
    (c_isInt : PySem.W.codeIn K cd_isInt "is_integer" = true)
    (k_isInt : PySem.W.keepIn K (.ref f_isInt) = true)
    (n_inRange : PySem.W.nsIn K mainGlobals "in_range" = some (some (.ref f_inRange)))
    (l_inRange : K.lookup f_inRange = some ⟨oc_inRange, od_inRange, .func (PySem.W.fnOf "in_range" "in_range" (defArgs (top 14)) (defBody (top 14)) (defScope (top 14)) .none kV_inRange dc_inRange pm_inRange an_inRange cd_inRange ct_inRange), sl_inRange⟩)
    (c_inRange : PySem.W.codeIn K cd_inRange "in_range" = true)
    (k_inRange : PySem.W.keepIn K (.ref f_inRange) = true)
    (n_checkSize : PySem.W.nsIn K mainGlobals "check_size" = some (some (.ref f_checkSize)))
    (l_checkSize : K.lookup f_checkSize = some ⟨oc_checkSize, od_checkSize, .func (PySem.W.fnOf "check_size" "check_size" (defArgs (top 15)) (defBody (top 15)) (defScope (top 15)) .none kV_checkSize dc_checkSize pm_checkSize an_checkSize cd_checkSize ct_checkSize), sl_checkSize⟩)
    (c_checkSize : PySem.W.codeIn K cd_checkSize "check_size" = true)
    (k_checkSize : PySem.W.keepIn K (.ref f_checkSize) = true)
    (n_areArrows : PySem.W.nsIn K mainGlobals "are_arrows" = some (some (.ref f_areArrows)))
    (l_areArrows : K.lookup f_areArrows = some ⟨oc_areArrows, od_areArrows, .func (PySem.W.fnOf "are_arrows" "are_arrows" (defArgs (top 16)) (defBody (top 16)) (defScope (top 16)) .none kV_areArrows dc_areArrows pm_areArrows an_areArrows cd_areArrows ct_areArrows), sl_areArrows⟩)
    (c_areArrows : PySem.W.codeIn K cd_areArrows "are_arrows" = true)
    (k_areArrows : PySem.W.keepIn K (.ref f_areArrows) = true)
    (n_commonSize : PySem.W.nsIn K mainGlobals "common_size" = some (some (.ref f_commonSize)))
    (l_commonSize : K.lookup f_commonSize = some ⟨oc_commonSize, od_commonSize, .func (PySem.W.fnOf "common_size" "common_size" (defArgs (top 17)) (defBody (top 17)) (defScope (top 17)) .none kV_commonSize dc_commonSize pm_commonSize an_commonSize cd_commonSize ct_commonSize), sl_commonSize⟩)
    (c_commonSize : PySem.W.codeIn K cd_commonSize "common_size" = true)
    (k_commonSize : PySem.W.keepIn K (.ref f_commonSize) = true)
    (n_firstClash : PySem.W.nsIn K mainGlobals "first_clash" = some (some (.ref f_firstClash)))
    (l_firstClash : K.lookup f_firstClash = some ⟨oc_firstClash, od_firstClash, .func (PySem.W.fnOf "first_clash" "first_clash" (defArgs (top 22)) (defBody (top 22)) (defScope (top 22)) .none kV_firstClash dc_firstClash pm_firstClash an_firstClash cd_firstClash ct_firstClash), sl_firstClash⟩)
    (c_firstClash : PySem.W.codeIn K cd_firstClash "first_clash" = true)
    (k_firstClash : PySem.W.keepIn K (.ref f_firstClash) = true)
    (n_checkMap : PySem.W.nsIn K mainGlobals "check_map" = some (some (.ref f_checkMap)))
    (l_checkMap : K.lookup f_checkMap = some ⟨oc_checkMap, od_checkMap, .func (PySem.W.fnOf "check_map" "check_map" (defArgs (top 23)) (defBody (top 23)) (defScope (top 23)) .none kV_checkMap dc_checkMap pm_checkMap an_checkMap cd_checkMap ct_checkMap), sl_checkMap⟩)
    (c_checkMap : PySem.W.codeIn K cd_checkMap "check_map" = true)
    (k_checkMap : PySem.W.keepIn K (.ref f_checkMap) = true)
    (n_checkAll : PySem.W.nsIn K mainGlobals "check_all" = some (some (.ref f_checkAll)))
    (l_checkAll : K.lookup f_checkAll = some ⟨oc_checkAll, od_checkAll, .func (PySem.W.fnOf "check_all" "check_all" (defArgs (top 25)) (defBody (top 25)) (defScope (top 25)) .none kV_checkAll dc_checkAll pm_checkAll an_checkAll cd_checkAll ct_checkAll), sl_checkAll⟩)
    (c_checkAll : PySem.W.codeIn K cd_checkAll "check_all" = true)
    (k_checkAll : PySem.W.keepIn K (.ref f_checkAll) = true)
    (n_placesAfter : PySem.W.nsIn K mainGlobals "places_after" = some (some (.ref f_placesAfter)))
    (l_placesAfter : K.lookup f_placesAfter = some ⟨oc_placesAfter, od_placesAfter, .func (PySem.W.fnOf "places_after" "places_after" (defArgs (top 27)) (defBody (top 27)) (defScope (top 27)) .none kV_placesAfter dc_placesAfter pm_placesAfter an_placesAfter cd_placesAfter ct_placesAfter), sl_placesAfter⟩)
    (c_placesAfter : PySem.W.codeIn K cd_placesAfter "places_after" = true)
    (k_placesAfter : PySem.W.keepIn K (.ref f_placesAfter) = true)
    (n_checkMany : PySem.W.nsIn K mainGlobals "check_many" = some (some (.ref f_checkMany)))
    (l_checkMany : K.lookup f_checkMany = some ⟨oc_checkMany, od_checkMany, .func (PySem.W.fnOf "check_many" "check_many" (defArgs (top 32)) (defBody (top 32)) (defScope (top 32)) .none kV_checkMany dc_checkMany pm_checkMany an_checkMany cd_checkMany ct_checkMany), sl_checkMany⟩)
    (c_checkMany : PySem.W.codeIn K cd_checkMany "check_many" = true)
    (k_checkMany : PySem.W.keepIn K (.ref f_checkMany) = true)
    (n_made : PySem.W.nsIn K mainGlobals "made" = some (some (.ref f_made)))
    (l_made : K.lookup f_made = some ⟨oc_made, od_made, .func (PySem.W.fnOf "made" "made" (defArgs (top 34)) (defBody (top 34)) (defScope (top 34)) .none kV_made dc_made pm_made an_made cd_made ct_made), sl_made⟩)
    (c_made : PySem.W.codeIn K cd_made "made" = true)
    (k_made : PySem.W.keepIn K (.ref f_made) = true)
    (n_checkWord : PySem.W.nsIn K mainGlobals "check_word" = some (some (.ref f_checkWord)))
    (l_checkWord : K.lookup f_checkWord = some ⟨oc_checkWord, od_checkWord, .func (PySem.W.fnOf "check_word" "check_word" (defArgs (top 35)) (defBody (top 35)) (defScope (top 35)) .none kV_checkWord dc_checkWord pm_checkWord an_checkWord cd_checkWord ct_checkWord), sl_checkWord⟩)
    (c_checkWord : PySem.W.codeIn K cd_checkWord "check_word" = true)
    (k_checkWord : PySem.W.keepIn K (.ref f_checkWord) = true)
    (n_checkFamily : PySem.W.nsIn K mainGlobals "check_family" = some (some (.ref f_checkFamily)))
    (l_checkFamily : K.lookup f_checkFamily = some ⟨oc_checkFamily, od_checkFamily, .func (PySem.W.fnOf "check_family" "check_family" (defArgs (top 36)) (defBody (top 36)) (defScope (top 36)) .none kV_checkFamily dc_checkFamily pm_checkFamily an_checkFamily cd_checkFamily ct_checkFamily), sl_checkFamily⟩)
    (c_checkFamily : PySem.W.codeIn K cd_checkFamily "check_family" = true)
    (k_checkFamily : PySem.W.keepIn K (.ref f_checkFamily) = true)
    (n_imageOf : PySem.W.nsIn K mainGlobals "image_of" = some (some (.ref f_imageOf)))
    (l_imageOf : K.lookup f_imageOf = some ⟨oc_imageOf, od_imageOf, .func (PySem.W.fnOf "image_of" "image_of" (defArgs (top 37)) (defBody (top 37)) (defScope (top 37)) .none kV_imageOf dc_imageOf pm_imageOf an_imageOf cd_imageOf ct_imageOf), sl_imageOf⟩)
    (c_imageOf : PySem.W.codeIn K cd_imageOf "image_of" = true)
    (k_imageOf : PySem.W.keepIn K (.ref f_imageOf) = true)
    (n_searched : PySem.W.nsIn K mainGlobals "searched" = some (some (.ref f_searched)))
    (l_searched : K.lookup f_searched = some ⟨oc_searched, od_searched, .func (PySem.W.fnOf "searched" "searched" (defArgs (top 38)) (defBody (top 38)) (defScope (top 38)) .none kV_searched dc_searched pm_searched an_searched cd_searched ct_searched), sl_searched⟩)
    (c_searched : PySem.W.codeIn K cd_searched "searched" = true)
    (k_searched : PySem.W.keepIn K (.ref f_searched) = true)
    (n_losingWord : PySem.W.nsIn K mainGlobals "losing_word" = some (some (.ref f_losingWord)))
    (l_losingWord : K.lookup f_losingWord = some ⟨oc_losingWord, od_losingWord, .func (PySem.W.fnOf "losing_word" "losing_word" (defArgs (top 39)) (defBody (top 39)) (defScope (top 39)) .none kV_losingWord dc_losingWord pm_losingWord an_losingWord cd_losingWord ct_losingWord), sl_losingWord⟩)
    (c_losingWord : PySem.W.codeIn K cd_losingWord "losing_word" = true)
    (k_losingWord : PySem.W.keepIn K (.ref f_losingWord) = true)
    (n_holdingSets : PySem.W.nsIn K mainGlobals "holding_sets" = some (some (.ref f_holdingSets)))
    (l_holdingSets : K.lookup f_holdingSets = some ⟨oc_holdingSets, od_holdingSets, .func (PySem.W.fnOf "holding_sets" "holding_sets" (defArgs (top 40)) (defBody (top 40)) (defScope (top 40)) .none kV_holdingSets dc_holdingSets pm_holdingSets an_holdingSets cd_holdingSets ct_holdingSets), sl_holdingSets⟩)
    (c_holdingSets : PySem.W.codeIn K cd_holdingSets "holding_sets" = true)
    (k_holdingSets : PySem.W.keepIn K (.ref f_holdingSets) = true)
    (n_isSet : PySem.W.nsIn K mainGlobals "is_set" = some (some (.ref f_isSet)))
    (l_isSet : K.lookup f_isSet = some ⟨oc_isSet, od_isSet, .func (PySem.W.fnOf "is_set" "is_set" (defArgs (top 41)) (defBody (top 41)) (defScope (top 41)) .none kV_isSet dc_isSet pm_isSet an_isSet cd_isSet ct_isSet), sl_isSet⟩)
    (c_isSet : PySem.W.codeIn K cd_isSet "is_set" = true)
    (k_isSet : PySem.W.keepIn K (.ref f_isSet) = true)
    (n_isHolding : PySem.W.nsIn K mainGlobals "is_holding" = some (some (.ref f_isHolding)))
    (l_isHolding : K.lookup f_isHolding = some ⟨oc_isHolding, od_isHolding, .func (PySem.W.fnOf "is_holding" "is_holding" (defArgs (top 42)) (defBody (top 42)) (defScope (top 42)) .none kV_isHolding dc_isHolding pm_isHolding an_isHolding cd_isHolding ct_isHolding), sl_isHolding⟩)
    (c_isHolding : PySem.W.codeIn K cd_isHolding "is_holding" = true)
    (k_isHolding : PySem.W.keepIn K (.ref f_isHolding) = true)
    (n_lHand : PySem.W.nsIn K mainGlobals "_law_hand" = some (some (.ref f_lHand)))
    (l_lHand : K.lookup f_lHand = some ⟨oc_lHand, od_lHand, .func (PySem.W.fnOf "_law_hand" "_law_hand" (defArgs (top 44)) (defBody (top 44)) (defScope (top 44)) .none kV_lHand dc_lHand pm_lHand an_lHand cd_lHand ct_lHand), sl_lHand⟩)
    (c_lHand : PySem.W.codeIn K cd_lHand "_law_hand" = true)
    (k_lHand : PySem.W.keepIn K (.ref f_lHand) = true)
    (n_lDraw : PySem.W.nsIn K mainGlobals "_law_draw" = some (some (.ref f_lDraw)))
    (l_lDraw : K.lookup f_lDraw = some ⟨oc_lDraw, od_lDraw, .func (PySem.W.fnOf "_law_draw" "_law_draw" (defArgs (top 45)) (defBody (top 45)) (defScope (top 45)) .none kV_lDraw dc_lDraw pm_lDraw an_lDraw cd_lDraw ct_lDraw), sl_lDraw⟩)
    (c_lDraw : PySem.W.codeIn K cd_lDraw "_law_draw" = true)
    (k_lDraw : PySem.W.keepIn K (.ref f_lDraw) = true)
    (n_lArrows : PySem.W.nsIn K mainGlobals "_law_arrows" = some (some (.ref f_lArrows)))
    (l_lArrows : K.lookup f_lArrows = some ⟨oc_lArrows, od_lArrows, .func (PySem.W.fnOf "_law_arrows" "_law_arrows" (defArgs (top 46)) (defBody (top 46)) (defScope (top 46)) .none kV_lArrows dc_lArrows pm_lArrows an_lArrows cd_lArrows ct_lArrows), sl_lArrows⟩)
    (c_lArrows : PySem.W.codeIn K cd_lArrows "_law_arrows" = true)
    (k_lArrows : PySem.W.keepIn K (.ref f_lArrows) = true)
    (n_lFamily : PySem.W.nsIn K mainGlobals "_law_family" = some (some (.ref f_lFamily)))
    (l_lFamily : K.lookup f_lFamily = some ⟨oc_lFamily, od_lFamily, .func (PySem.W.fnOf "_law_family" "_law_family" (defArgs (top 47)) (defBody (top 47)) (defScope (top 47)) .none kV_lFamily dc_lFamily pm_lFamily an_lFamily cd_lFamily ct_lFamily), sl_lFamily⟩)
    (c_lFamily : PySem.W.codeIn K cd_lFamily "_law_family" = true)
    (k_lFamily : PySem.W.keepIn K (.ref f_lFamily) = true)
    (n_lImage : PySem.W.nsIn K mainGlobals "_law_image" = some (some (.ref f_lImage)))
    (l_lImage : K.lookup f_lImage = some ⟨oc_lImage, od_lImage, .func (PySem.W.fnOf "_law_image" "_law_image" (defArgs (top 48)) (defBody (top 48)) (defScope (top 48)) .none kV_lImage dc_lImage pm_lImage an_lImage cd_lImage ct_lImage), sl_lImage⟩)
    (c_lImage : PySem.W.codeIn K cd_lImage "_law_image" = true)
    (k_lImage : PySem.W.keepIn K (.ref f_lImage) = true)
    (n_lSearch : PySem.W.nsIn K mainGlobals "_law_search" = some (some (.ref f_lSearch)))
    (l_lSearch : K.lookup f_lSearch = some ⟨oc_lSearch, od_lSearch, .func (PySem.W.fnOf "_law_search" "_law_search" (defArgs (top 49)) (defBody (top 49)) (defScope (top 49)) .none kV_lSearch dc_lSearch pm_lSearch an_lSearch cd_lSearch ct_lSearch), sl_lSearch⟩)
    (c_lSearch : PySem.W.codeIn K cd_lSearch "_law_search" = true)
    (k_lSearch : PySem.W.keepIn K (.ref f_lSearch) = true)
    (n_lIsList : PySem.W.nsIn K mainGlobals "_law_is_list" = some (some (.ref f_lIsList)))
    (l_lIsList : K.lookup f_lIsList = some ⟨oc_lIsList, od_lIsList, .func (PySem.W.fnOf "_law_is_list" "_law_is_list" (defArgs (top 50)) (defBody (top 50)) (defScope (top 50)) .none kV_lIsList dc_lIsList pm_lIsList an_lIsList cd_lIsList ct_lIsList), sl_lIsList⟩)
    (c_lIsList : PySem.W.codeIn K cd_lIsList "_law_is_list" = true)
    (k_lIsList : PySem.W.keepIn K (.ref f_lIsList) = true)
    (n_lIs : PySem.W.nsIn K mainGlobals "_law_is" = some (some (.ref f_lIs)))
    (l_lIs : K.lookup f_lIs = some ⟨oc_lIs, od_lIs, .func (PySem.W.fnOf "_law_is" "_law_is" (defArgs (top 51)) (defBody (top 51)) (defScope (top 51)) .none kV_lIs dc_lIs pm_lIs an_lIs cd_lIs ct_lIs), sl_lIs⟩)
    (c_lIs : PySem.W.codeIn K cd_lIs "_law_is" = true)
    (k_lIs : PySem.W.keepIn K (.ref f_lIs) = true)
    (n_lBent : PySem.W.nsIn K mainGlobals "_law_bent" = some (some (.ref f_lBent)))
    (l_lBent : K.lookup f_lBent = some ⟨oc_lBent, od_lBent, .func (PySem.W.fnOf "_law_bent" "_law_bent" (defArgs (top 52)) (defBody (top 52)) (defScope (top 52)) .none kV_lBent dc_lBent pm_lBent an_lBent cd_lBent ct_lBent), sl_lBent⟩)
    (c_lBent : PySem.W.codeIn K cd_lBent "_law_bent" = true)
    (k_lBent : PySem.W.keepIn K (.ref f_lBent) = true)
    (n_lRight : PySem.W.nsIn K mainGlobals "_law_right" = some (some (.ref f_lRight)))
    (l_lRight : K.lookup f_lRight = some ⟨oc_lRight, od_lRight, .func (PySem.W.fnOf "_law_right" "_law_right" (defArgs (top 53)) (defBody (top 53)) (defScope (top 53)) .none kV_lRight dc_lRight pm_lRight an_lRight cd_lRight ct_lRight), sl_lRight⟩)
    (c_lRight : PySem.W.codeIn K cd_lRight "_law_right" = true)
    (k_lRight : PySem.W.keepIn K (.ref f_lRight) = true)
    (n_lGreat : PySem.W.nsIn K mainGlobals "_law_great" = some (some (.ref f_lGreat)))
    (l_lGreat : K.lookup f_lGreat = some ⟨oc_lGreat, od_lGreat, .func (PySem.W.fnOf "_law_great" "_law_great" (defArgs (top 54)) (defBody (top 54)) (defScope (top 54)) .none kV_lGreat dc_lGreat pm_lGreat an_lGreat cd_lGreat ct_lGreat), sl_lGreat⟩)
    (c_lGreat : PySem.W.codeIn K cd_lGreat "_law_great" = true)
    (k_lGreat : PySem.W.keepIn K (.ref f_lGreat) = true)
    (n_law : PySem.W.nsIn K mainGlobals "law" = some (some (.ref f_law)))
    (l_law : K.lookup f_law = some ⟨oc_law, od_law, .func (PySem.W.fnOf "law" "law" (defArgs (top 55)) (defBody (top 55)) (defScope (top 55)) .none kV_law dc_law pm_law an_law cd_law ct_law), sl_law⟩)
    (c_law : PySem.W.codeIn K cd_law "law" = true)
    (k_law : PySem.W.keepIn K (.ref f_law) = true)
    (tyM : PySem.W.typeIn K (.ref CM) = some mc)
    (n_mInit : PySem.W.findIn K (.ref CM) "__init__" = some (some (.ref f_mInit)))
    (l_mInit : K.lookup f_mInit = some ⟨oc_mInit, od_mInit, .func (PySem.W.fnOf "__init__" "Map.__init__" (defArgs (inClass (top 20) 0)) (defBody (inClass (top 20) 0)) (defScope (inClass (top 20) 0)) .none kV_mInit dc_mInit pm_mInit an_mInit cd_mInit ct_mInit), sl_mInit⟩)
    (c_mInit : PySem.W.codeIn K cd_mInit "Map.__init__" = true)
    (k_mInit : PySem.W.keepIn K (.ref f_mInit) = true)
    (ca_cIdent : PySem.W.findCls K (.ref CM) mc "identity" = some (.get (.builtin "classmethod.__get__") (.ref cIdent) .none (.ref CM)))
    (n_mIdent : PySem.W.recIn K cIdent "classmethod" = some (.ref f_mIdent :: rs_cIdent))
    (l_mIdent : K.lookup f_mIdent = some ⟨oc_mIdent, od_mIdent, .func (PySem.W.fnOf "identity" "Map.identity" (defArgs (inClass (top 20) 1)) (defBody (inClass (top 20) 1)) (defScope (inClass (top 20) 1)) .none kV_mIdent dc_mIdent pm_mIdent an_mIdent cd_mIdent ct_mIdent), sl_mIdent⟩)
    (c_mIdent : PySem.W.codeIn K cd_mIdent "Map.identity" = true)
    (k_mIdent : PySem.W.keepIn K (.ref f_mIdent) = true)
    (cf_cIdent : PySem.W.fnIn K f_mIdent = true)
    (ca_cEmpty : PySem.W.findCls K (.ref CM) mc "empty" = some (.get (.builtin "classmethod.__get__") (.ref cEmpty) .none (.ref CM)))
    (n_mEmpty : PySem.W.recIn K cEmpty "classmethod" = some (.ref f_mEmpty :: rs_cEmpty))
    (l_mEmpty : K.lookup f_mEmpty = some ⟨oc_mEmpty, od_mEmpty, .func (PySem.W.fnOf "empty" "Map.empty" (defArgs (inClass (top 20) 2)) (defBody (inClass (top 20) 2)) (defScope (inClass (top 20) 2)) .none kV_mEmpty dc_mEmpty pm_mEmpty an_mEmpty cd_mEmpty ct_mEmpty), sl_mEmpty⟩)
    (c_mEmpty : PySem.W.codeIn K cd_mEmpty "Map.empty" = true)
    (k_mEmpty : PySem.W.keepIn K (.ref f_mEmpty) = true)
    (cf_cEmpty : PySem.W.fnIn K f_mEmpty = true)
    (pa_pSize : PySem.W.findIn K (.ref CM) "size" = some (some (.ref pSize)))
    (pg_pSize : PySem.W.specialIn K (.ref pSize) "__get__" = some (some (.builtin "property.__get__")))
    (pt_pSize : PySem.W.takesIn K (.ref pSize) = some true)
    (n_mSize : PySem.W.recIn K pSize "property" = some (.ref f_mSize :: rs_pSize))
    (l_mSize : K.lookup f_mSize = some ⟨oc_mSize, od_mSize, .func (PySem.W.fnOf "size" "Map.size" (defArgs (inClass (top 20) 6)) (defBody (inClass (top 20) 6)) (defScope (inClass (top 20) 6)) .none kV_mSize dc_mSize pm_mSize an_mSize cd_mSize ct_mSize), sl_mSize⟩)
    (c_mSize : PySem.W.codeIn K cd_mSize "Map.size" = true)
    (k_mSize : PySem.W.keepIn K (.ref f_mSize) = true)
    (pa_pArrows : PySem.W.findIn K (.ref CM) "arrows" = some (some (.ref pArrows)))
    (pg_pArrows : PySem.W.specialIn K (.ref pArrows) "__get__" = some (some (.builtin "property.__get__")))
    (pt_pArrows : PySem.W.takesIn K (.ref pArrows) = some true)
    (n_mArrows : PySem.W.recIn K pArrows "property" = some (.ref f_mArrows :: rs_pArrows))
    (l_mArrows : K.lookup f_mArrows = some ⟨oc_mArrows, od_mArrows, .func (PySem.W.fnOf "arrows" "Map.arrows" (defArgs (inClass (top 20) 7)) (defBody (inClass (top 20) 7)) (defScope (inClass (top 20) 7)) .none kV_mArrows dc_mArrows pm_mArrows an_mArrows cd_mArrows ct_mArrows), sl_mArrows⟩)
    (c_mArrows : PySem.W.codeIn K cd_mArrows "Map.arrows" = true)
    (k_mArrows : PySem.W.keepIn K (.ref f_mArrows) = true)
    (n_mMul : PySem.W.findIn K (.ref CM) "__mul__" = some (some (.ref f_mMul)))
    (l_mMul : K.lookup f_mMul = some ⟨oc_mMul, od_mMul, .func (PySem.W.fnOf "__mul__" "Map.__mul__" (defArgs (inClass (top 20) 8)) (defBody (inClass (top 20) 8)) (defScope (inClass (top 20) 8)) .none kV_mMul dc_mMul pm_mMul an_mMul cd_mMul ct_mMul), sl_mMul⟩)
    (c_mMul : PySem.W.codeIn K cd_mMul "Map.__mul__" = true)
    (k_mMul : PySem.W.keepIn K (.ref f_mMul) = true)
    (n_mOr : PySem.W.findIn K (.ref CM) "__or__" = some (some (.ref f_mOr)))
    (l_mOr : K.lookup f_mOr = some ⟨oc_mOr, od_mOr, .func (PySem.W.fnOf "__or__" "Map.__or__" (defArgs (inClass (top 20) 14)) (defBody (inClass (top 20) 14)) (defScope (inClass (top 20) 14)) .none kV_mOr dc_mOr pm_mOr an_mOr cd_mOr ct_mOr), sl_mOr⟩)
    (c_mOr : PySem.W.codeIn K cd_mOr "Map.__or__" = true)
    (k_mOr : PySem.W.keepIn K (.ref f_mOr) = true)
    (n_mEq : PySem.W.findIn K (.ref CM) "__eq__" = some (some (.ref f_mEq)))
    (l_mEq : K.lookup f_mEq = some ⟨oc_mEq, od_mEq, .func (PySem.W.fnOf "__eq__" "Map.__eq__" (defArgs (inClass (top 20) 25)) (defBody (inClass (top 20) 25)) (defScope (inClass (top 20) 25)) .none kV_mEq dc_mEq pm_mEq an_mEq cd_mEq ct_mEq), sl_mEq⟩)
    (c_mEq : PySem.W.codeIn K cd_mEq "Map.__eq__" = true)
    (k_mEq : PySem.W.keepIn K (.ref f_mEq) = true)
    (pa_pMaps : PySem.W.findIn K (.ref CF) "maps" = some (some (.ref pMaps)))
    (pg_pMaps : PySem.W.specialIn K (.ref pMaps) "__get__" = some (some (.builtin "property.__get__")))
    (pt_pMaps : PySem.W.takesIn K (.ref pMaps) = some true)
    (n_fMaps : PySem.W.recIn K pMaps "property" = some (.ref f_fMaps :: rs_pMaps))
    (l_fMaps : K.lookup f_fMaps = some ⟨oc_fMaps, od_fMaps, .func (PySem.W.fnOf "maps" "Family.maps" (defArgs (inClass (top 33) 2)) (defBody (inClass (top 33) 2)) (defScope (inClass (top 33) 2)) .none kV_fMaps dc_fMaps pm_fMaps an_fMaps cd_fMaps ct_fMaps), sl_fMaps⟩)
    (c_fMaps : PySem.W.codeIn K cd_fMaps "Family.maps" = true)
    (k_fMaps : PySem.W.keepIn K (.ref f_fMaps) = true)
    (pa_pFSize : PySem.W.findIn K (.ref CF) "size" = some (some (.ref pFSize)))
    (pg_pFSize : PySem.W.specialIn K (.ref pFSize) "__get__" = some (some (.builtin "property.__get__")))
    (pt_pFSize : PySem.W.takesIn K (.ref pFSize) = some true)
    (n_fSize : PySem.W.recIn K pFSize "property" = some (.ref f_fSize :: rs_pFSize))
    (l_fSize : K.lookup f_fSize = some ⟨oc_fSize, od_fSize, .func (PySem.W.fnOf "size" "Family.size" (defArgs (inClass (top 33) 3)) (defBody (inClass (top 33) 3)) (defScope (inClass (top 33) 3)) .none kV_fSize dc_fSize pm_fSize an_fSize cd_fSize ct_fSize), sl_fSize⟩)
    (c_fSize : PySem.W.codeIn K cd_fSize "Family.size" = true)
    (k_fSize : PySem.W.keepIn K (.ref f_fSize) = true)
    (n_fCall : PySem.W.findIn K (.ref CF) "__call__" = some (some (.ref f_fCall)))
    (l_fCall : K.lookup f_fCall = some ⟨oc_fCall, od_fCall, .func (PySem.W.fnOf "__call__" "Family.__call__" (defArgs (inClass (top 33) 4)) (defBody (inClass (top 33) 4)) (defScope (inClass (top 33) 4)) .none kV_fCall dc_fCall pm_fCall an_fCall cd_fCall ct_fCall), sl_fCall⟩)
    (c_fCall : PySem.W.codeIn K cd_fCall "Family.__call__" = true)
    (k_fCall : PySem.W.keepIn K (.ref f_fCall) = true)
    (n_fAdd : PySem.W.findIn K (.ref CF) "__add__" = some (some (.ref f_fAdd)))
    (l_fAdd : K.lookup f_fAdd = some ⟨oc_fAdd, od_fAdd, .func (PySem.W.fnOf "__add__" "Family.__add__" (defArgs (inClass (top 33) 5)) (defBody (inClass (top 33) 5)) (defScope (inClass (top 33) 5)) .none kV_fAdd dc_fAdd pm_fAdd an_fAdd cd_fAdd ct_fAdd), sl_fAdd⟩)
    (c_fAdd : PySem.W.codeIn K cd_fAdd "Family.__add__" = true)
    (k_fAdd : PySem.W.keepIn K (.ref f_fAdd) = true)
    (n_fLen : PySem.W.findIn K (.ref CF) "__len__" = some (some (.ref f_fLen)))
    (l_fLen : K.lookup f_fLen = some ⟨oc_fLen, od_fLen, .func (PySem.W.fnOf "__len__" "Family.__len__" (defArgs (inClass (top 33) 8)) (defBody (inClass (top 33) 8)) (defScope (inClass (top 33) 8)) .none kV_fLen dc_fLen pm_fLen an_fLen cd_fLen ct_fLen), sl_fLen⟩)
    (c_fLen : PySem.W.codeIn K cd_fLen "Family.__len__" = true)
    (k_fLen : PySem.W.keepIn K (.ref f_fLen) = true)
    (n_fInit : PySem.W.findIn K (.ref CF) "__init__" = some (some (.ref f_fInit)))
    (l_fInit : K.lookup f_fInit = some ⟨oc_fInit, od_fInit, .func (PySem.W.fnOf "__init__" "Family.__init__" (defArgs (inClass (top 33) 1)) (defBody (inClass (top 33) 1)) (defScope (inClass (top 33) 1)) .none kV_fInit dc_fInit pm_fInit an_fInit cd_fInit ct_fInit), sl_fInit⟩)
    (c_fInit : PySem.W.codeIn K cd_fInit "Family.__init__" = true)
    (k_fInit : PySem.W.keepIn K (.ref f_fInit) = true)
    (pgM : PySem.W.plainGet K CM Str.empty = true)
    (hdM : PySem.W.hasDictIn K CM = true)
    (poM : PySem.W.plainOver K CM = true)
    (saM : PySem.W.findIn K (.ref CM) "__setattr__" = some (some (.builtin "object.__setattr__")))
    (msM : PySem.W.makesIn K CM = true)
    (ifM : PySem.W.isFn K (.ref f_mInit) = true)
    (kpM : PySem.W.keepIn K (.ref CM) = true)
    (sfM : PySem.W.selfFirst K CM = true)
    (moM : PySem.W.mroIn K CM (.type "object") = some true)
    (kcM : PySem.W.findIn K (.ref CM) "__class__" = some (some (.builtin "object.__class__")))
    (pgF : PySem.W.plainGet K CF Str.empty = true)
    (hdF : PySem.W.hasDictIn K CF = true)
    (poF : PySem.W.plainOver K CF = true)
    (saF : PySem.W.findIn K (.ref CF) "__setattr__" = some (some (.builtin "object.__setattr__")))
    (msF : PySem.W.makesIn K CF = true)
    (ifF : PySem.W.isFn K (.ref f_fInit) = true)
    (kpF : PySem.W.keepIn K (.ref CF) = true)
    (sfF : PySem.W.selfFirst K CF = true)
    (moF : PySem.W.mroIn K CF (.type "object") = some true)
    (kcF : PySem.W.findIn K (.ref CF) "__class__" = some (some (.builtin "object.__class__")))
    (nM1 : PySem.W.findIn K (.ref CM) "own_size" = some none)
    (nM2 : PySem.W.findIn K (.ref CM) "own_arrows" = some none)
    (nF : PySem.W.findIn K (.ref CF) "own_maps" = some none)
    (kcn : PySem.W.specialIn K (.builtin "object.__class__") "__get__" = some (some (.builtin "getset_descriptor.__get__")))
    (kct : PySem.W.takesIn K (.builtin "object.__class__") = some true)
    (rdr : PySem.W.readsIn K CM mc = true)
    (rga : PySem.W.specialIn K (.ref CM) "__getattribute__" = some (some (.builtin "type.__getattribute__")))
    (hMulf : PySem.W.isFn K (.ref f_mMul) = true)
    (hOrf : PySem.W.isFn K (.ref f_mOr) = true)
    (hEqf : PySem.W.isFn K (.ref f_mEq) = true)
    (hAddf : PySem.W.isFn K (.ref f_fAdd) = true)
    (hLenf : PySem.W.isFn K (.ref f_fLen) = true)
    (hNe : PySem.W.findIn K (.ref CM) "__ne__" = some (some (.builtin "object.__ne__")))
    (hCf : PySem.W.isFn K (.ref f_fCall) = true)
    (hCi : PySem.W.fnIn K f_fCall = true)
    (g_MAX_SIZE : PySem.W.nsIn K mainGlobals "MAX_SIZE" = some (some (.int 300 tk_MAX_SIZE)))
    (g_MOST_MAPS : PySem.W.nsIn K mainGlobals "MOST_MAPS" = some (some (.int 10 tk_MOST_MAPS)))
    (g_MOST_LETTERS : PySem.W.nsIn K mainGlobals "MOST_LETTERS" = some (some (.int 1000 tk_MOST_LETTERS)))
    (g_MOST_SETS : PySem.W.nsIn K mainGlobals "MOST_SETS" = some (some (.int 2000 tk_MOST_SETS)))
    (z_isinstance : PySem.W.nsIn K mainGlobals "isinstance" = some none)
    (z_int : PySem.W.nsIn K mainGlobals "int" = some none)
    (z_bool : PySem.W.nsIn K mainGlobals "bool" = some none)
    (z_dict : PySem.W.nsIn K mainGlobals "dict" = some none)
    (z_range : PySem.W.nsIn K mainGlobals "range" = some none)
    (z_list : PySem.W.nsIn K mainGlobals "list" = some none)
    (z_tuple : PySem.W.nsIn K mainGlobals "tuple" = some none)
    (z_len : PySem.W.nsIn K mainGlobals "len" = some none)
    (z_all : PySem.W.nsIn K mainGlobals "all" = some none)
    (z_sorted : PySem.W.nsIn K mainGlobals "sorted" = some none)
    (z_enumerate : PySem.W.nsIn K mainGlobals "enumerate" = some none)
    (z_zip : PySem.W.nsIn K mainGlobals "zip" = some none)
    (z_min : PySem.W.nsIn K mainGlobals "min" = some none)
    (z_max : PySem.W.nsIn K mainGlobals "max" = some none)
    (z_repr : PySem.W.nsIn K mainGlobals "repr" = some none)
    : TX K mg where
  CM := CM
  mgM := PySem.W.mg_of X G nCM
  CF := CF
  mgF := PySem.W.mg_of X G nCF
  a_isInt := f_isInt
  d_isInt := ⟨_, fun_mk l_isInt c_isInt k_isInt, (fun_mk l_isInt c_isInt k_isInt).binds fun _ _ _ _ _ _ us hl => match us, hl with | [_], _ => rfl⟩
  m_isInt := PySem.W.mg_of X G n_isInt
  a_inRange := f_inRange
  d_inRange := ⟨_, fun_mk l_inRange c_inRange k_inRange, (fun_mk l_inRange c_inRange k_inRange).binds fun _ _ _ _ _ _ us hl => match us, hl with | [_, _, _], _ => rfl⟩
  m_inRange := PySem.W.mg_of X G n_inRange
  a_checkSize := f_checkSize
  d_checkSize := ⟨_, fun_mk l_checkSize c_checkSize k_checkSize, (fun_mk l_checkSize c_checkSize k_checkSize).binds fun _ _ _ _ _ _ us hl => match us, hl with | [_], _ => rfl⟩
  m_checkSize := PySem.W.mg_of X G n_checkSize
  a_areArrows := f_areArrows
  d_areArrows := ⟨_, fun_mk l_areArrows c_areArrows k_areArrows, (fun_mk l_areArrows c_areArrows k_areArrows).binds fun _ _ _ _ _ _ us hl => match us, hl with | [_, _], _ => rfl⟩
  m_areArrows := PySem.W.mg_of X G n_areArrows
  a_commonSize := f_commonSize
  d_commonSize := ⟨_, fun_mk l_commonSize c_commonSize k_commonSize, (fun_mk l_commonSize c_commonSize k_commonSize).binds fun _ _ _ _ _ _ us hl => match us, hl with | [_, _], _ => rfl⟩
  m_commonSize := PySem.W.mg_of X G n_commonSize
  a_firstClash := f_firstClash
  d_firstClash := ⟨_, fun_mk l_firstClash c_firstClash k_firstClash, (fun_mk l_firstClash c_firstClash k_firstClash).binds fun _ _ _ _ _ _ us hl => match us, hl with | [_, _], _ => rfl⟩
  m_firstClash := PySem.W.mg_of X G n_firstClash
  a_checkMap := f_checkMap
  d_checkMap := ⟨_, fun_mk l_checkMap c_checkMap k_checkMap, (fun_mk l_checkMap c_checkMap k_checkMap).binds fun _ _ _ _ _ _ us hl => match us, hl with | [_], _ => rfl⟩
  m_checkMap := PySem.W.mg_of X G n_checkMap
  a_checkAll := f_checkAll
  d_checkAll := ⟨_, fun_mk l_checkAll c_checkAll k_checkAll, (fun_mk l_checkAll c_checkAll k_checkAll).binds fun _ _ _ _ _ _ us hl => match us, hl with | [_], _ => rfl⟩
  m_checkAll := PySem.W.mg_of X G n_checkAll
  a_placesAfter := f_placesAfter
  d_placesAfter := ⟨_, fun_mk l_placesAfter c_placesAfter k_placesAfter, (fun_mk l_placesAfter c_placesAfter k_placesAfter).binds fun _ _ _ _ _ _ us hl => match us, hl with | [_, _], _ => rfl⟩
  m_placesAfter := PySem.W.mg_of X G n_placesAfter
  a_checkMany := f_checkMany
  d_checkMany := ⟨_, fun_mk l_checkMany c_checkMany k_checkMany, (fun_mk l_checkMany c_checkMany k_checkMany).binds fun _ _ _ _ _ _ us hl => match us, hl with | [_], _ => rfl⟩
  m_checkMany := PySem.W.mg_of X G n_checkMany
  a_made := f_made
  d_made := ⟨_, fun_mk l_made c_made k_made, (fun_mk l_made c_made k_made).binds fun _ _ _ _ _ _ us hl => match us, hl with | [_], _ => rfl⟩
  m_made := PySem.W.mg_of X G n_made
  a_checkWord := f_checkWord
  d_checkWord := ⟨_, fun_mk l_checkWord c_checkWord k_checkWord, (fun_mk l_checkWord c_checkWord k_checkWord).binds fun _ _ _ _ _ _ us hl => match us, hl with | [_, _], _ => rfl⟩
  m_checkWord := PySem.W.mg_of X G n_checkWord
  a_checkFamily := f_checkFamily
  d_checkFamily := ⟨_, fun_mk l_checkFamily c_checkFamily k_checkFamily, (fun_mk l_checkFamily c_checkFamily k_checkFamily).binds fun _ _ _ _ _ _ us hl => match us, hl with | [_], _ => rfl⟩
  m_checkFamily := PySem.W.mg_of X G n_checkFamily
  a_imageOf := f_imageOf
  d_imageOf := ⟨_, fun_mk l_imageOf c_imageOf k_imageOf, (fun_mk l_imageOf c_imageOf k_imageOf).binds fun _ _ _ _ _ _ us hl => match us, hl with | [_, _], _ => rfl⟩
  m_imageOf := PySem.W.mg_of X G n_imageOf
  a_searched := f_searched
  d_searched := ⟨_, fun_mk l_searched c_searched k_searched, (fun_mk l_searched c_searched k_searched).binds fun _ _ _ _ _ _ us hl => match us, hl with | [_], _ => rfl⟩
  m_searched := PySem.W.mg_of X G n_searched
  a_losingWord := f_losingWord
  d_losingWord := ⟨_, fun_mk l_losingWord c_losingWord k_losingWord, (fun_mk l_losingWord c_losingWord k_losingWord).binds fun _ _ _ _ _ _ us hl => match us, hl with | [_], _ => rfl⟩
  m_losingWord := PySem.W.mg_of X G n_losingWord
  a_holdingSets := f_holdingSets
  d_holdingSets := ⟨_, fun_mk l_holdingSets c_holdingSets k_holdingSets, (fun_mk l_holdingSets c_holdingSets k_holdingSets).binds fun _ _ _ _ _ _ us hl => match us, hl with | [_], _ => rfl⟩
  m_holdingSets := PySem.W.mg_of X G n_holdingSets
  a_isSet := f_isSet
  d_isSet := ⟨_, fun_mk l_isSet c_isSet k_isSet, (fun_mk l_isSet c_isSet k_isSet).binds fun _ _ _ _ _ _ us hl => match us, hl with | [_, _], _ => rfl⟩
  m_isSet := PySem.W.mg_of X G n_isSet
  a_isHolding := f_isHolding
  d_isHolding := ⟨_, fun_mk l_isHolding c_isHolding k_isHolding, (fun_mk l_isHolding c_isHolding k_isHolding).binds fun _ _ _ _ _ _ us hl => match us, hl with | [_, _], _ => rfl⟩
  m_isHolding := PySem.W.mg_of X G n_isHolding
  a_lHand := f_lHand
  d_lHand := ⟨_, fun_mk l_lHand c_lHand k_lHand, (fun_mk l_lHand c_lHand k_lHand).binds fun _ _ _ _ _ _ us hl => match us, hl with | [_, _], _ => rfl⟩
  m_lHand := PySem.W.mg_of X G n_lHand
  a_lDraw := f_lDraw
  d_lDraw := ⟨_, fun_mk l_lDraw c_lDraw k_lDraw, (fun_mk l_lDraw c_lDraw k_lDraw).binds fun _ _ _ _ _ _ us hl => match us, hl with | [_, _], _ => rfl⟩
  m_lDraw := PySem.W.mg_of X G n_lDraw
  a_lArrows := f_lArrows
  d_lArrows := ⟨_, fun_mk l_lArrows c_lArrows k_lArrows, (fun_mk l_lArrows c_lArrows k_lArrows).binds fun _ _ _ _ _ _ us hl => match us, hl with | [_, _], _ => rfl⟩
  m_lArrows := PySem.W.mg_of X G n_lArrows
  a_lFamily := f_lFamily
  d_lFamily := ⟨_, fun_mk l_lFamily c_lFamily k_lFamily, (fun_mk l_lFamily c_lFamily k_lFamily).binds fun _ _ _ _ _ _ us hl => match us, hl with | [_], _ => rfl⟩
  m_lFamily := PySem.W.mg_of X G n_lFamily
  a_lImage := f_lImage
  d_lImage := ⟨_, fun_mk l_lImage c_lImage k_lImage, (fun_mk l_lImage c_lImage k_lImage).binds fun _ _ _ _ _ _ us hl => match us, hl with | [_, _, _], _ => rfl⟩
  m_lImage := PySem.W.mg_of X G n_lImage
  a_lSearch := f_lSearch
  d_lSearch := ⟨_, fun_mk l_lSearch c_lSearch k_lSearch, (fun_mk l_lSearch c_lSearch k_lSearch).binds fun _ _ _ _ _ _ us hl => match us, hl with | [_, _], _ => rfl⟩
  m_lSearch := PySem.W.mg_of X G n_lSearch
  a_lIsList := f_lIsList
  d_lIsList := ⟨_, fun_mk l_lIsList c_lIsList k_lIsList, (fun_mk l_lIsList c_lIsList k_lIsList).binds fun _ _ _ _ _ _ us hl => match us, hl with | [_, _], _ => rfl⟩
  m_lIsList := PySem.W.mg_of X G n_lIsList
  a_lIs := f_lIs
  d_lIs := ⟨_, fun_mk l_lIs c_lIs k_lIs, (fun_mk l_lIs c_lIs k_lIs).binds fun _ _ _ _ _ _ us hl => match us, hl with | [_, _, _], _ => rfl⟩
  m_lIs := PySem.W.mg_of X G n_lIs
  a_lBent := f_lBent
  d_lBent := ⟨_, fun_mk l_lBent c_lBent k_lBent, (fun_mk l_lBent c_lBent k_lBent).binds fun _ _ _ _ _ _ us hl => match us, hl with | [_, _, _], _ => rfl⟩
  m_lBent := PySem.W.mg_of X G n_lBent
  a_lRight := f_lRight
  d_lRight := ⟨_, fun_mk l_lRight c_lRight k_lRight, (fun_mk l_lRight c_lRight k_lRight).binds fun _ _ _ _ _ _ us hl => match us, hl with | [_, _, _, _], _ => rfl⟩
  m_lRight := PySem.W.mg_of X G n_lRight
  a_lGreat := f_lGreat
  d_lGreat := ⟨_, fun_mk l_lGreat c_lGreat k_lGreat, (fun_mk l_lGreat c_lGreat k_lGreat).binds fun _ _ _ _ _ _ us hl => match us, hl with | [], _ => rfl⟩
  m_lGreat := PySem.W.mg_of X G n_lGreat
  a_law := f_law
  d_law := ⟨_, fun_mk l_law c_law k_law, (fun_mk l_law c_law k_law).binds fun _ _ _ _ _ _ us hl => match us, hl with | [_], _ => rfl⟩
  m_law := PySem.W.mg_of X G n_law
  a_mInit := f_mInit
  d_mInit := ⟨_, fun_mk l_mInit c_mInit k_mInit, (fun_mk l_mInit c_mInit k_mInit).binds fun _ _ _ _ _ _ us hl => match us, hl with | [_, _, _], _ => rfl⟩
  a_mIdent := f_mIdent
  cIdent := cIdent
  o_cIdent := ⟨ca_cIdent, ⟨_, n_mIdent⟩, cf_cIdent⟩
  d_mIdent := ⟨_, fun_mk l_mIdent c_mIdent k_mIdent, (fun_mk l_mIdent c_mIdent k_mIdent).binds fun _ _ _ _ _ _ us hl => match us, hl with | [_, _], _ => rfl⟩
  a_mEmpty := f_mEmpty
  cEmpty := cEmpty
  o_cEmpty := ⟨ca_cEmpty, ⟨_, n_mEmpty⟩, cf_cEmpty⟩
  d_mEmpty := ⟨_, fun_mk l_mEmpty c_mEmpty k_mEmpty, (fun_mk l_mEmpty c_mEmpty k_mEmpty).binds fun _ _ _ _ _ _ us hl => match us, hl with | [_, _], _ => rfl⟩
  a_mSize := f_mSize
  pSize := pSize
  o_pSize := ⟨pa_pSize, pg_pSize, pt_pSize, _, n_mSize⟩
  d_mSize := ⟨_, fun_mk l_mSize c_mSize k_mSize, (fun_mk l_mSize c_mSize k_mSize).binds fun _ _ _ _ _ _ us hl => match us, hl with | [_], _ => rfl⟩
  a_mArrows := f_mArrows
  pArrows := pArrows
  o_pArrows := ⟨pa_pArrows, pg_pArrows, pt_pArrows, _, n_mArrows⟩
  d_mArrows := ⟨_, fun_mk l_mArrows c_mArrows k_mArrows, (fun_mk l_mArrows c_mArrows k_mArrows).binds fun _ _ _ _ _ _ us hl => match us, hl with | [_], _ => rfl⟩
  a_mMul := f_mMul
  d_mMul := ⟨_, fun_mk l_mMul c_mMul k_mMul, (fun_mk l_mMul c_mMul k_mMul).binds fun _ _ _ _ _ _ us hl => match us, hl with | [_, _], _ => rfl⟩
  a_mOr := f_mOr
  d_mOr := ⟨_, fun_mk l_mOr c_mOr k_mOr, (fun_mk l_mOr c_mOr k_mOr).binds fun _ _ _ _ _ _ us hl => match us, hl with | [_, _], _ => rfl⟩
  a_mEq := f_mEq
  d_mEq := ⟨_, fun_mk l_mEq c_mEq k_mEq, (fun_mk l_mEq c_mEq k_mEq).binds fun _ _ _ _ _ _ us hl => match us, hl with | [_, _], _ => rfl⟩
  a_fMaps := f_fMaps
  pMaps := pMaps
  o_pMaps := ⟨pa_pMaps, pg_pMaps, pt_pMaps, _, n_fMaps⟩
  d_fMaps := ⟨_, fun_mk l_fMaps c_fMaps k_fMaps, (fun_mk l_fMaps c_fMaps k_fMaps).binds fun _ _ _ _ _ _ us hl => match us, hl with | [_], _ => rfl⟩
  a_fSize := f_fSize
  pFSize := pFSize
  o_pFSize := ⟨pa_pFSize, pg_pFSize, pt_pFSize, _, n_fSize⟩
  d_fSize := ⟨_, fun_mk l_fSize c_fSize k_fSize, (fun_mk l_fSize c_fSize k_fSize).binds fun _ _ _ _ _ _ us hl => match us, hl with | [_], _ => rfl⟩
  a_fCall := f_fCall
  d_fCall := ⟨_, fun_mk l_fCall c_fCall k_fCall, (fun_mk l_fCall c_fCall k_fCall).binds fun _ _ _ _ _ _ us hl => match us, hl with | [_, _], _ => rfl⟩
  a_fAdd := f_fAdd
  d_fAdd := ⟨_, fun_mk l_fAdd c_fAdd k_fAdd, (fun_mk l_fAdd c_fAdd k_fAdd).binds fun _ _ _ _ _ _ us hl => match us, hl with | [_, _], _ => rfl⟩
  a_fLen := f_fLen
  d_fLen := ⟨_, fun_mk l_fLen c_fLen k_fLen, (fun_mk l_fLen c_fLen k_fLen).binds fun _ _ _ _ _ _ us hl => match us, hl with | [_], _ => rfl⟩
  a_fInit := f_fInit
  d_fInit := ⟨_, fun_mk l_fInit c_fInit k_fInit⟩
  clM := ⟨pgM, hdM, poM, saM⟩
  mkM := ⟨msM, n_mInit, ifM, kpM⟩
  sfM := sfM
  moM := moM
  kcM := kcM
  clF := ⟨pgF, hdF, poF, saF⟩
  mkF := ⟨msF, n_fInit, ifF, kpF⟩
  sfF := sfF
  moF := moF
  kcF := kcF
  nM1 := nM1
  nM2 := nM2
  nF := nF
  kcn := kcn
  kct := kct
  mc := mc
  rdM := ⟨rdr, rga⟩
  hMul := n_mMul
  hMulf := hMulf
  hOr := n_mOr
  hOrf := hOrf
  hEq := n_mEq
  hEqf := hEqf
  hAdd := n_fAdd
  hAddf := hAddf
  hLen := n_fLen
  hLenf := hLenf
  hNe := hNe
  hCall := ⟨n_fCall, hCf, hCi⟩
  g_MAX_SIZE := ⟨_, PySem.W.mg_of X G g_MAX_SIZE⟩
  g_MOST_MAPS := ⟨_, PySem.W.mg_of X G g_MOST_MAPS⟩
  g_MOST_LETTERS := ⟨_, PySem.W.mg_of X G g_MOST_LETTERS⟩
  g_MOST_SETS := ⟨_, PySem.W.mg_of X G g_MOST_SETS⟩
  z_isinstance := PySem.W.mg_none_of X G z_isinstance
  z_int := PySem.W.mg_none_of X G z_int
  z_bool := PySem.W.mg_none_of X G z_bool
  z_dict := PySem.W.mg_none_of X G z_dict
  z_range := PySem.W.mg_none_of X G z_range
  z_list := PySem.W.mg_none_of X G z_list
  z_tuple := PySem.W.mg_none_of X G z_tuple
  z_len := PySem.W.mg_none_of X G z_len
  z_all := PySem.W.mg_none_of X G z_all
  z_sorted := PySem.W.mg_none_of X G z_sorted
  z_enumerate := PySem.W.mg_none_of X G z_enumerate
  z_zip := PySem.W.mg_none_of X G z_zip
  z_min := PySem.W.mg_none_of X G z_min
  z_max := PySem.W.mg_none_of X G z_max
  z_repr := PySem.W.mg_none_of X G z_repr
theorem law_end {P : Program} {w : World} {K : PySem.W.Frag} {mg mb : Str → Option Value} {fa a : Addr} {s1 : Shared} {vs : List Value} {ns : List Int}
    (KX : K.In s1.heap) (hns : s1.heap.Ns mainGlobals mg) (hb : s1.heap.Ns builtinsNs mb) (hbb : ∀ x : Str, x ≠ "__name__" → mb x = bootBuiltins x) (hlim : s1.heap.NoLimit) (hg : s1.gens = #[])
    (ha : s1.heap.get? a = some { cls := .type "list", data := .seq vs.toArray }) (hi : IntsAre vs ns) (hl : ns.length ≤ 63) (hm : mg "law" = some (.ref fa)) (T : TX K mg) :
    codeAny (model P w) callerA (.call (.ref fa) ⟨[.ref a], []⟩) (fun r s' => r = .ok (.ret (.bool true)) ∧ OldK s1.heap s'.heap ∧ s'.os = s1.os ∧ AllBare s'.gens) s1 := by
  have e : fa = T.a_law := by
    have h := hm.symm.trans T.m_law
    injection h with h
    injection h
  subst e
  exact law_callG (k := 10) (sp := spLaw K) KX hns hb hbb hlim hg ha hi (Nat.le_trans hl (by decide)) ⟨rfl, by decide, by decide⟩ (fun base _ _ => ok_law (k := 0) T) fun H hS => ⟨a, ns, rfl, hS, hl, fun _ => rfl⟩
end K57
end

section
open PySem PySem.W PyProof.Rows
set_option maxRecDepth 100000
set_option maxHeartbeats 0
open_top K57.hd for PySem.Challenge.rw_chainmaps_k57_whole_losing_words_or_evid
end
open PySem PySem.W PyProof.Rows
set_option maxRecDepth 100000 in
set_option maxHeartbeats 0 in
theorem PySem.Challenge.cw_chainmaps_k57_whole_losing_words_or_evid_holds : PySem.Challenge.rw_chainmaps_k57_whole_losing_words_or_evid.Holds := by
  refine K57.hd ?_
  k_fill
  refine Att.attach_call (n := 63) rfl rfl fun w s0 s1 mg mb fa o pm cd doc a vs ns G Y ho hd' hcd hmg hobj hints hlen hg => ?_
  refine K57.law_end (PySem.W.kIn_of Y) G.T.g G.T.b G.T.builtins G.T.nolimit hg hobj hints hlen hmg ?tx
  refine' K57.mkTX (PySem.W.kIn_of Y) G.T.g ?nCM ?nCF ?n_isInt ?l_isInt ?c_isInt ?k_isInt ?n_inRange ?l_inRange ?c_inRange ?k_inRange ?n_checkSize ?l_checkSize ?c_checkSize ?k_checkSize ?n_areArrows ?l_areArrows ?c_areArrows ?k_areArrows ?n_commonSize ?l_commonSize ?c_commonSize ?k_commonSize ?n_firstClash ?l_firstClash ?c_firstClash ?k_firstClash ?n_checkMap ?l_checkMap ?c_checkMap ?k_checkMap ?n_checkAll ?l_checkAll ?c_checkAll ?k_checkAll ?n_placesAfter ?l_placesAfter ?c_placesAfter ?k_placesAfter ?n_checkMany ?l_checkMany ?c_checkMany ?k_checkMany ?n_made ?l_made ?c_made ?k_made ?n_checkWord ?l_checkWord ?c_checkWord ?k_checkWord ?n_checkFamily ?l_checkFamily ?c_checkFamily ?k_checkFamily ?n_imageOf ?l_imageOf ?c_imageOf ?k_imageOf ?n_searched ?l_searched ?c_searched ?k_searched ?n_losingWord ?l_losingWord ?c_losingWord ?k_losingWord ?n_holdingSets ?l_holdingSets ?c_holdingSets ?k_holdingSets ?n_isSet ?l_isSet ?c_isSet ?k_isSet ?n_isHolding ?l_isHolding ?c_isHolding ?k_isHolding ?n_lHand ?l_lHand ?c_lHand ?k_lHand ?n_lDraw ?l_lDraw ?c_lDraw ?k_lDraw ?n_lArrows ?l_lArrows ?c_lArrows ?k_lArrows ?n_lFamily ?l_lFamily ?c_lFamily ?k_lFamily ?n_lImage ?l_lImage ?c_lImage ?k_lImage ?n_lSearch ?l_lSearch ?c_lSearch ?k_lSearch ?n_lIsList ?l_lIsList ?c_lIsList ?k_lIsList ?n_lIs ?l_lIs ?c_lIs ?k_lIs ?n_lBent ?l_lBent ?c_lBent ?k_lBent ?n_lRight ?l_lRight ?c_lRight ?k_lRight ?n_lGreat ?l_lGreat ?c_lGreat ?k_lGreat ?n_law ?l_law ?c_law ?k_law ?tyM ?n_mInit ?l_mInit ?c_mInit ?k_mInit ?ca_cIdent ?n_mIdent ?l_mIdent ?c_mIdent ?k_mIdent ?cf_cIdent ?ca_cEmpty ?n_mEmpty ?l_mEmpty ?c_mEmpty ?k_mEmpty ?cf_cEmpty ?pa_pSize ?pg_pSize ?pt_pSize ?n_mSize ?l_mSize ?c_mSize ?k_mSize ?pa_pArrows ?pg_pArrows ?pt_pArrows ?n_mArrows ?l_mArrows ?c_mArrows ?k_mArrows ?n_mMul ?l_mMul ?c_mMul ?k_mMul ?n_mOr ?l_mOr ?c_mOr ?k_mOr ?n_mEq ?l_mEq ?c_mEq ?k_mEq ?pa_pMaps ?pg_pMaps ?pt_pMaps ?n_fMaps ?l_fMaps ?c_fMaps ?k_fMaps ?pa_pFSize ?pg_pFSize ?pt_pFSize ?n_fSize ?l_fSize ?c_fSize ?k_fSize ?n_fCall ?l_fCall ?c_fCall ?k_fCall ?n_fAdd ?l_fAdd ?c_fAdd ?k_fAdd ?n_fLen ?l_fLen ?c_fLen ?k_fLen ?n_fInit ?l_fInit ?c_fInit ?k_fInit ?pgM ?hdM ?poM ?saM ?msM ?ifM ?kpM ?sfM ?moM ?kcM ?pgF ?hdF ?poF ?saF ?msF ?ifF ?kpF ?sfF ?moF ?kcF ?nM1 ?nM2 ?nF ?kcn ?kct ?rdr ?rga ?hMulf ?hOrf ?hEqf ?hAddf ?hLenf ?hNe ?hCf ?hCi ?g_MAX_SIZE ?g_MOST_MAPS ?g_MOST_LETTERS ?g_MOST_SETS ?z_isinstance ?z_int ?z_bool ?z_dict ?z_range ?z_list ?z_tuple ?z_len ?z_all ?z_sorted ?z_enumerate ?z_zip ?z_min ?z_max ?z_repr
  (case nCM => k_is)
  (case nCF => k_is)
  (case n_isInt => k_is)
  (case l_isInt => k_is)
  (case c_isInt => k_is)
  (case k_isInt => k_is)
  (case n_inRange => k_is)
  (case l_inRange => k_is)
  (case c_inRange => k_is)
  (case k_inRange => k_is)
  (case n_checkSize => k_is)
  (case l_checkSize => k_is)
  (case c_checkSize => k_is)
  (case k_checkSize => k_is)
  (case n_areArrows => k_is)
  (case l_areArrows => k_is)
  (case c_areArrows => k_is)
  (case k_areArrows => k_is)
  (case n_commonSize => k_is)
  (case l_commonSize => k_is)
  (case c_commonSize => k_is)
  (case k_commonSize => k_is)
  (case n_firstClash => k_is)
  (case l_firstClash => k_is)
  (case c_firstClash => k_is)
  (case k_firstClash => k_is)
  (case n_checkMap => k_is)
  (case l_checkMap => k_is)
  (case c_checkMap => k_is)
  (case k_checkMap => k_is)
  (case n_checkAll => k_is)
  (case l_checkAll => k_is)
  (case c_checkAll => k_is)
  (case k_checkAll => k_is)
  (case n_placesAfter => k_is)
  (case l_placesAfter => k_is)
  (case c_placesAfter => k_is)
  (case k_placesAfter => k_is)
  (case n_checkMany => k_is)
  (case l_checkMany => k_is)
  (case c_checkMany => k_is)
  (case k_checkMany => k_is)
  (case n_made => k_is)
  (case l_made => k_is)
  (case c_made => k_is)
  (case k_made => k_is)
  (case n_checkWord => k_is)
  (case l_checkWord => k_is)
  (case c_checkWord => k_is)
  (case k_checkWord => k_is)
  (case n_checkFamily => k_is)
  (case l_checkFamily => k_is)
  (case c_checkFamily => k_is)
  (case k_checkFamily => k_is)
  (case n_imageOf => k_is)
  (case l_imageOf => k_is)
  (case c_imageOf => k_is)
  (case k_imageOf => k_is)
  (case n_searched => k_is)
  (case l_searched => k_is)
  (case c_searched => k_is)
  (case k_searched => k_is)
  (case n_losingWord => k_is)
  (case l_losingWord => k_is)
  (case c_losingWord => k_is)
  (case k_losingWord => k_is)
  (case n_holdingSets => k_is)
  (case l_holdingSets => k_is)
  (case c_holdingSets => k_is)
  (case k_holdingSets => k_is)
  (case n_isSet => k_is)
  (case l_isSet => k_is)
  (case c_isSet => k_is)
  (case k_isSet => k_is)
  (case n_isHolding => k_is)
  (case l_isHolding => k_is)
  (case c_isHolding => k_is)
  (case k_isHolding => k_is)
  (case n_lHand => k_is)
  (case l_lHand => k_is)
  (case c_lHand => k_is)
  (case k_lHand => k_is)
  (case n_lDraw => k_is)
  (case l_lDraw => k_is)
  (case c_lDraw => k_is)
  (case k_lDraw => k_is)
  (case n_lArrows => k_is)
  (case l_lArrows => k_is)
  (case c_lArrows => k_is)
  (case k_lArrows => k_is)
  (case n_lFamily => k_is)
  (case l_lFamily => k_is)
  (case c_lFamily => k_is)
  (case k_lFamily => k_is)
  (case n_lImage => k_is)
  (case l_lImage => k_is)
  (case c_lImage => k_is)
  (case k_lImage => k_is)
  (case n_lSearch => k_is)
  (case l_lSearch => k_is)
  (case c_lSearch => k_is)
  (case k_lSearch => k_is)
  (case n_lIsList => k_is)
  (case l_lIsList => k_is)
  (case c_lIsList => k_is)
  (case k_lIsList => k_is)
  (case n_lIs => k_is)
  (case l_lIs => k_is)
  (case c_lIs => k_is)
  (case k_lIs => k_is)
  (case n_lBent => k_is)
  (case l_lBent => k_is)
  (case c_lBent => k_is)
  (case k_lBent => k_is)
  (case n_lRight => k_is)
  (case l_lRight => k_is)
  (case c_lRight => k_is)
  (case k_lRight => k_is)
  (case n_lGreat => k_is)
  (case l_lGreat => k_is)
  (case c_lGreat => k_is)
  (case k_lGreat => k_is)
  (case n_law => k_is)
  (case l_law => k_is)
  (case c_law => k_is)
  (case k_law => k_is)
  (case tyM => k_is)
  (case n_mInit => k_is)
  (case l_mInit => k_is)
  (case c_mInit => k_is)
  (case k_mInit => k_is)
  (case ca_cIdent => k_is)
  (case n_mIdent => k_is)
  (case l_mIdent => k_is)
  (case c_mIdent => k_is)
  (case k_mIdent => k_is)
  (case cf_cIdent => k_is)
  (case ca_cEmpty => k_is)
  (case n_mEmpty => k_is)
  (case l_mEmpty => k_is)
  (case c_mEmpty => k_is)
  (case k_mEmpty => k_is)
  (case cf_cEmpty => k_is)
  (case pa_pSize => k_is)
  (case pg_pSize => k_is)
  (case pt_pSize => k_is)
  (case n_mSize => k_is)
  (case l_mSize => k_is)
  (case c_mSize => k_is)
  (case k_mSize => k_is)
  (case pa_pArrows => k_is)
  (case pg_pArrows => k_is)
  (case pt_pArrows => k_is)
  (case n_mArrows => k_is)
  (case l_mArrows => k_is)
  (case c_mArrows => k_is)
  (case k_mArrows => k_is)
  (case n_mMul => k_is)
  (case l_mMul => k_is)
  (case c_mMul => k_is)
  (case k_mMul => k_is)
  (case n_mOr => k_is)
  (case l_mOr => k_is)
  (case c_mOr => k_is)
  (case k_mOr => k_is)
  (case n_mEq => k_is)
  (case l_mEq => k_is)
  (case c_mEq => k_is)
  (case k_mEq => k_is)
  (case pa_pMaps => k_is)
  (case pg_pMaps => k_is)
  (case pt_pMaps => k_is)
  (case n_fMaps => k_is)
  (case l_fMaps => k_is)
  (case c_fMaps => k_is)
  (case k_fMaps => k_is)
  (case pa_pFSize => k_is)
  (case pg_pFSize => k_is)
  (case pt_pFSize => k_is)
  (case n_fSize => k_is)
  (case l_fSize => k_is)
  (case c_fSize => k_is)
  (case k_fSize => k_is)
  (case n_fCall => k_is)
  (case l_fCall => k_is)
  (case c_fCall => k_is)
  (case k_fCall => k_is)
  (case n_fAdd => k_is)
  (case l_fAdd => k_is)
  (case c_fAdd => k_is)
  (case k_fAdd => k_is)
  (case n_fLen => k_is)
  (case l_fLen => k_is)
  (case c_fLen => k_is)
  (case k_fLen => k_is)
  (case n_fInit => k_is)
  (case l_fInit => k_is)
  (case c_fInit => k_is)
  (case k_fInit => k_is)
  (case pgM => k_is)
  (case hdM => k_is)
  (case poM => k_is)
  (case saM => k_is)
  (case msM => k_is)
  (case ifM => k_is)
  (case kpM => k_is)
  (case sfM => k_is)
  (case moM => k_is)
  (case kcM => k_is)
  (case pgF => k_is)
  (case hdF => k_is)
  (case poF => k_is)
  (case saF => k_is)
  (case msF => k_is)
  (case ifF => k_is)
  (case kpF => k_is)
  (case sfF => k_is)
  (case moF => k_is)
  (case kcF => k_is)
  (case nM1 => k_is)
  (case nM2 => k_is)
  (case nF => k_is)
  (case kcn => k_is)
  (case kct => k_is)
  (case rdr => k_is)
  (case rga => k_is)
  (case hMulf => k_is)
  (case hOrf => k_is)
  (case hEqf => k_is)
  (case hAddf => k_is)
  (case hLenf => k_is)
  (case hNe => k_is)
  (case hCf => k_is)
  (case hCi => k_is)
  (case g_MAX_SIZE => k_is)
  (case g_MOST_MAPS => k_is)
  (case g_MOST_LETTERS => k_is)
  (case g_MOST_SETS => k_is)
  (case z_isinstance => k_is)
  (case z_int => k_is)
  (case z_bool => k_is)
  (case z_dict => k_is)
  (case z_range => k_is)
  (case z_list => k_is)
  (case z_tuple => k_is)
  (case z_len => k_is)
  (case z_all => k_is)
  (case z_sorted => k_is)
  (case z_enumerate => k_is)
  (case z_zip => k_is)
  (case z_min => k_is)
  (case z_max => k_is)
  (case z_repr => k_is)
