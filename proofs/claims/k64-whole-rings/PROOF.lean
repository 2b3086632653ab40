import PyProof.Rows.All
import Wide.All
import OpenK.AllK
import Wide.FinOn
import PyProof.GenCompD
import PyProof.WalksPairs
import KE.KDictPairs
import KE.KDictDisplayH
import KE.SortData
import KE.GoesEnum
import PySem.Challenge.RW_eventcore_k64_whole_rings
import HandS.ForMost
import HandS.AnyAll
import HandS.IsInst
import HandS.Deep
import HandS.Conv
import HandS.DictTup
import HandS.Defaults
import HandS.Style
import HandS.Head0
import HandS.Head1
import HandS.Head2
import HandS.HeadEnd
import HandS.HeadHook1
import HandS.HeadHook2
import HandS.HeadHook3
import HandS.HeadHook4
import HandS.HeadWalk
set_option Elab.async false
set_option linter.all false
set_option maxRecDepth 100000
set_option maxHeartbeats 0
/-! The plain law: states of distances, what can go on without end, rings. No program in sight. -/
namespace K64
/-- the state behind a unit in which i runs -/
def nxt (d s : List Int) (i : Nat) : List Int := (List.range s.length).map fun j => if j = i then d.getD j 0 else s.getD j 0 - 1
def okS (s : List Int) (i : Nat) : Bool := (List.range s.length).all fun j => decide (j = i) || !decide (s.getD j 0 = 1)
def srv (d s : List Int) (i : Nat) : Option (List Int) := if okS s i = true then some (nxt d s i) else none
/-- distances as the law draws them -/
structure Vd (d : List Int) : Prop where
  pos : 1 ≤ d.length
  few : d.length ≤ 4
  rng : ∀ x ∈ d, 1 ≤ x ∧ x ≤ 6
/-- states -/
structure Vs (d s : List Int) : Prop where
  len : s.length = d.length
  rng : ∀ j, j < s.length → 1 ≤ s.getD j 0 ∧ s.getD j 0 ≤ d.getD j 0
theorem getD_mem {d : List Int} {j : Nat} (h : j < d.length) : d.getD j 0 ∈ d := by
  rw [List.getD_eq_getElem?_getD, List.getElem?_eq_getElem h]
  exact List.getElem_mem h
theorem Vd.at {d : List Int} (v : Vd d) {j : Nat} (h : j < d.length) : 1 ≤ d.getD j 0 ∧ d.getD j 0 ≤ 6 := v.rng _ (getD_mem h)
theorem Vd.self {d : List Int} (v : Vd d) : Vs d d := ⟨rfl, fun j h => ⟨(v.at h).1, Int.le_refl _⟩⟩
theorem nxt_len (d s : List Int) (i : Nat) : (nxt d s i).length = s.length := by simp [nxt]
theorem nxt_get {d s : List Int} {i j : Nat} (h : j < s.length) : (nxt d s i).getD j 0 = if j = i then d.getD j 0 else s.getD j 0 - 1 := by
  rw [List.getD_eq_getElem?_getD, nxt, List.getElem?_map, List.getElem?_range h]
  rfl
theorem okS_iff {s : List Int} {i : Nat} : okS s i = true ↔ ∀ j, j < s.length → j ≠ i → s.getD j 0 ≠ 1 := by
  unfold okS
  rw [List.all_eq_true]
  constructor
  · intro h j hj hne e
    have q := h j (List.mem_range.mpr hj)
    rw [decide_eq_false hne, decide_eq_true e] at q
    cases q
  · intro h j hj
    have hj' := List.mem_range.mp hj
    by_cases e : j = i
    · rw [decide_eq_true e]
      rfl
    · rw [decide_eq_false e, decide_eq_false (h j hj' e)]
      rfl
theorem srv_some {d s t : List Int} {i : Nat} (h : srv d s i = some t) : okS s i = true ∧ t = nxt d s i := by
  unfold srv at h
  split at h
  · exact ⟨‹_›, (Option.some.inj h).symm⟩
  · cases h
theorem srv_of {d s : List Int} {i : Nat} (h : okS s i = true) : srv d s i = some (nxt d s i) := if_pos h
theorem srv_no {d s : List Int} {i : Nat} (h : ¬ okS s i = true) : srv d s i = none := if_neg h
theorem Vs.step {d s t : List Int} {i : Nat} (vd : Vd d) (v : Vs d s) (h : srv d s i = some t) : Vs d t := by
  obtain ⟨ok, rfl⟩ := srv_some h
  refine ⟨by rw [nxt_len, v.len], fun j hj => ?_⟩
  rw [nxt_len] at hj
  rw [nxt_get hj]
  have r := v.rng j hj
  have rd := vd.at (j := j) (by rw [← v.len]; exact hj)
  by_cases e : j = i
  · rw [if_pos e]
    omega
  · rw [if_neg e]
    have := okS_iff.mp ok j hj e
    omega
/-! ### finitely many -/
def allN : Nat → List (List Int)
  | 0 => [[]]
  | n + 1 => [1, 2, 3, 4, 5, 6].flatMap fun v => (allN n).map fun r => v :: r
theorem allN_len (n : Nat) : (allN n).length = 6 ^ n := by
  induction n with
  | zero => rfl
  | succ n ih =>
    simp only [allN, List.flatMap_cons, List.flatMap_nil, List.length_append, List.length_map, List.length_nil, ih, Nat.pow_succ]
    omega
theorem mem_allN : ∀ {s : List Int}, (∀ x ∈ s, 1 ≤ x ∧ x ≤ 6) → s ∈ allN s.length
  | [], _ => by simp [allN]
  | x :: s, h => by
    have ih := mem_allN (s := s) fun y hy => h y (List.mem_cons_of_mem _ hy)
    have hx := h x List.mem_cons_self
    show x :: s ∈ [1, 2, 3, 4, 5, 6].flatMap fun v => (allN s.length).map fun r => v :: r
    rw [List.mem_flatMap]
    refine ⟨x, ?_, List.mem_map.mpr ⟨s, ih, rfl⟩⟩
    simp only [List.mem_cons, List.not_mem_nil, or_false]
    omega
theorem Vs.mem {d s : List Int} (vd : Vd d) (v : Vs d s) : s ∈ allN d.length := by
  rw [← v.len]
  refine mem_allN fun x hx => ?_
  obtain ⟨j, hj, e⟩ := List.getElem_of_mem hx
  have r := v.rng j hj
  have e2 : s.getD j 0 = x := by
    rw [List.getD_eq_getElem?_getD, List.getElem?_eq_getElem hj, e]
    rfl
  have rd := vd.at (j := j) (by rw [← v.len]; exact hj)
  rw [e2] at r
  omega
theorem nodup_le {α : Type} [DecidableEq α] : ∀ {l m : List α}, l.Nodup → (∀ x ∈ l, x ∈ m) → l.length ≤ m.length
  | [], _, _, _ => Nat.zero_le _
  | x :: l, m, hn, hs => by
    have hn' := List.nodup_cons.mp hn
    have hx := hs x List.mem_cons_self
    have ih := nodup_le (l := l) (m := m.erase x) hn'.2 fun y hy => by
      have ne : y ≠ x := fun e => hn'.1 (e ▸ hy)
      exact (List.mem_erase_of_ne ne).mpr (hs y (List.mem_cons_of_mem _ hy))
    rw [List.length_erase_of_mem hx] at ih
    have : 0 < m.length := List.length_pos_of_mem hx
    show l.length + 1 ≤ m.length
    omega
theorem few_states {d : List Int} {l : List (List Int)} (vd : Vd d) (hn : l.Nodup) (h : ∀ s ∈ l, Vs d s) : l.length ≤ 1296 := by
  have q := nodup_le hn fun s hs => (h s hs).mem vd
  rw [allN_len] at q
  have : 6 ^ d.length ≤ 6 ^ 4 := Nat.pow_le_pow_right (by omega) vd.few
  omega
/-! ### going on without end -/
def Good (d s : List Int) : Prop := ∃ S : List Int → Prop, S s ∧ ∀ t, S t → ∃ i, i < d.length ∧ ∃ t', srv d t i = some t' ∧ S t'
theorem Good.step {d s : List Int} (g : Good d s) : ∃ i, i < d.length ∧ ∃ t, srv d s i = some t ∧ Good d t := by
  obtain ⟨S, h0, h⟩ := g
  obtain ⟨i, hi, t, e, ht⟩ := h s h0
  exact ⟨i, hi, t, e, S, ht, h⟩
theorem good_of {d : List Int} {L : List (List Int)} (h : ∀ t ∈ L, ∃ i, i < d.length ∧ ∃ t', srv d t i = some t' ∧ t' ∈ L) {s : List Int} (hs : s ∈ L) : Good d s :=
  ⟨fun t => t ∈ L, hs, h⟩
/-! ### the states that follow, in their order -/
def succs (d s : List Int) : List (Nat × List Int) := (List.range d.length).filterMap fun i => (srv d s i).map fun t => (i, t)
theorem mem_succs {d s : List Int} {i : Nat} {t : List Int} : (i, t) ∈ succs d s ↔ i < d.length ∧ srv d s i = some t := by
  unfold succs
  rw [List.mem_filterMap]
  constructor
  · rintro ⟨j, hj, e⟩
    cases h : srv d s j with
    | none =>
      rw [h] at e
      cases e
    | some u =>
      rw [h] at e
      cases e
      exact ⟨List.mem_range.mp hj, h⟩
  · rintro ⟨hi, e⟩
    refine ⟨i, List.mem_range.mpr hi, ?_⟩
    rw [e]
    rfl
/-! ### walks -/
def walk (d : List Int) : List Int → List Nat → Option (List Int)
  | s, [] => some s
  | s, i :: r => (srv d s i).bind fun t => walk d t r
theorem walk_app (d : List Int) : ∀ (s : List Int) (a b : List Nat), walk d s (a ++ b) = (walk d s a).bind fun t => walk d t b
  | s, [], b => rfl
  | s, i :: a, b => by
    show (srv d s i).bind (fun t => walk d t (a ++ b)) = ((srv d s i).bind fun t => walk d t a).bind fun t => walk d t b
    cases h : srv d s i with
    | none => rfl
    | some t => exact walk_app d t a b
theorem walk_snoc {d s t u : List Int} {a : List Nat} {i : Nat} (h : walk d s a = some t) (e : srv d t i = some u) : walk d s (a ++ [i]) = some u := by
  rw [walk_app, h]
  show (srv d t i).bind _ = _
  rw [e]
  rfl
/-- the row since the last i = k -/
def wait (k : Nat) (l : List Nat) : Nat := l.foldl (fun w i => if i = k then 0 else w + 1) 0
theorem wait_snoc (k : Nat) (l : List Nat) (i : Nat) : wait k (l ++ [i]) = if i = k then 0 else wait k l + 1 := by
  unfold wait
  rw [List.foldl_append]
  rfl
theorem take_walk {d s t : List Int} {l : List Nat} (h : walk d s l = some t) (j : Nat) : ∃ u, walk d s (l.take j) = some u := by
  have e : l = l.take j ++ l.drop j := (List.take_append_drop j l).symm
  rw [e, walk_app] at h
  cases q : walk d s (l.take j) with
  | none =>
    rw [q] at h
    cases h
  | some u => exact ⟨u, rfl⟩
theorem walk_inv {d s : List Int} (vd : Vd d) (v : Vs d s) {k : Nat} (hk : k < d.length) : ∀ (l : List Nat) (u : List Int), walk d s l = some u → Vs d u ∧ (wait k l : Int) + u.getD k 0 ≤ d.getD k 0 ∧ (k ∉ l → u.getD k 0 = s.getD k 0 - l.length) := by
  have main : ∀ (n : Nat) (l : List Nat) (u : List Int), l.length = n → walk d s l = some u → Vs d u ∧ (wait k l : Int) + u.getD k 0 ≤ d.getD k 0 ∧ (k ∉ l → u.getD k 0 = s.getD k 0 - l.length) := by
    intro n
    induction n with
    | zero =>
      intro l u hl h
      have : l = [] := List.eq_nil_of_length_eq_zero hl
      subst this
      cases h
      refine ⟨v, ?_, fun _ => by simp⟩
      have := v.rng k (by rw [v.len]; exact hk)
      show (0 : Int) + _ ≤ _
      omega
    | succ n ih =>
      intro l u hl h
      obtain ⟨a, i, rfl⟩ : ∃ a i, l = a ++ [i] := by
        have hne : l ≠ [] := fun e => by
          rw [e] at hl
          cases hl
        exact ⟨l.dropLast, l.getLast hne, (List.dropLast_concat_getLast hne).symm⟩
      rw [walk_app] at h
      cases q : walk d s a with
      | none =>
        rw [q] at h
        cases h
      | some t =>
        rw [q] at h
        have h2 : (srv d t i).bind (fun t => walk d t []) = some u := h
        have hla : a.length = n := by
          rw [List.length_append] at hl
          exact Nat.succ.inj hl
        obtain ⟨vt, w1, w2⟩ := ih a t hla q
        cases e : srv d t i with
        | none =>
          rw [e] at h2
          cases h2
        | some u' =>
          rw [e] at h2
          cases h2
          have vu := vt.step vd e
          obtain ⟨ok, rfl⟩ := srv_some e
          have hkt : k < t.length := by rw [vt.len]; exact hk
          rw [nxt_get hkt, wait_snoc]
          refine ⟨vu, ?_, fun hn => ?_⟩
          · by_cases e2 : k = i
            · rw [if_pos e2.symm, if_pos e2]
              show (0 : Int) + _ ≤ _
              omega
            · rw [if_neg (fun z => e2 z.symm), if_neg e2]
              omega
          · have n1 : k ∉ a := fun z => hn (List.mem_append_left _ z)
            have n2 : k ≠ i := fun z => hn (List.mem_append_right _ (by rw [z]; exact List.mem_singleton_self _))
            rw [if_neg n2, w2 n1, List.length_append]
            show _ = s.getD k 0 - ((a.length + 1 : Nat) : Int)
            omega
  exact fun l u h => main l.length l u rfl h
/-- a ring, by a state that comes again -/
structure IsRing (d : List Int) (r : List Nat) : Prop where
  ne : r ≠ []
  ix : ∀ i ∈ r, i < d.length
  again : ∃ s, Vs d s ∧ walk d s r = some s
theorem IsRing.has {d : List Int} {r : List Nat} (vd : Vd d) (R : IsRing d r) {k : Nat} (hk : k < d.length) : k ∈ r := by
  obtain ⟨s, v, h⟩ := R.again
  refine Classical.byContradiction fun hn => ?_
  have q := (walk_inv vd v hk r s h).2.2 hn
  have : 0 < r.length := List.length_pos_iff.mpr R.ne
  omega
theorem IsRing.wait_lt {d : List Int} {r : List Nat} (vd : Vd d) (R : IsRing d r) {k : Nat} (hk : k < d.length) (j : Nat) : (wait k ((r ++ r).take j) : Int) < d.getD k 0 := by
  obtain ⟨s, v, h⟩ := R.again
  have h2 : walk d s (r ++ r) = some s := by
    rw [walk_app, h]
    exact h
  obtain ⟨u, hu⟩ := take_walk h2 j
  obtain ⟨vu, w1, _⟩ := walk_inv vd v hk _ u hu
  have := vu.rng k (by rw [vu.len]; exact hk)
  omega
end K64
/-! all(..), any(..) of a generator expression over a tuple, over a list of pairs -/
namespace K64
open PySem PySem.Spec PyProof.Rows L2 GxR
section
variable {X : Cx} {pins : List (Addr × Obj)} {σ : L2.St} {H : Hp} {s : Shared}
/-- the generator's code object is made or found, and the builtins -/
theorem gen_code {c P : Addr} {ps : Array Value} {gpos : Pos} {scope : Scope} {G : Value → Addr → Shared → Prop} {s1 : Shared} {H1 : Hp} {o : Obj}
    (TB : TabB X.base X.mg c P) (hcode : X.env.code = .ref c) (I1 : Inv X pins σ H1 s1) (hP : H1 P = some (.tbl ps)) (ht : TriplesOk ps.toList)
    (h : ∀ (code : Value) (h3 : Heap) (tk : Nat) (ps' : Array Value), Heap.ExtBut P (s1.heap.push o) h3 → (s1.heap.push o).objs.size ≤ h3.objs.size → h3.get? P = some { cls := .none, data := .fields ps' } → (∃ more, ps' = ps ++ more) → TriplesOk ps'.toList →
      h3.NoLimit → cStatics < s1.heap.objs.size → G code builtinsNs { s1 with heap := h3, toks := tk }) :
    wpAny (model X.prog X.w) X.A (genexprCode X.env gpos (X.env.qual ++ "<genexpr>") scope) (fun code s₃ => wpAny (model X.prog X.w) X.A (builtinsFor X.env.globals X.env.builtins) (fun bi s₄ => G code bi s₄) X.xe s₃) X.xe { s1 with heap := s1.heap.push o } := by
  have atTab : s1.heap.get? P = some { cls := .none, data := .fields ps } := I1.hok P _ hP
  have atTab2 : (s1.heap.push o).get? P = some { cls := .none, data := .fields ps } := Heap.get?_push_of_some _ atTab
  have cdAt : PySem.W.CodeHd (s1.heap.push o) c P := TB.code.keeps fun b u e => Heap.get?_push_of_some _ (I1.bk b u e)
  have noLim : (s1.heap.push o).NoLimit := I1.nolimit.push o
  have stNe : cStatics ≠ P := fun e => by
    obtain ⟨_, hns, _⟩ := I1.nolimit
    obtain ⟨o', es, ep, ho, hd, _⟩ := hns
    rw [e, atTab] at ho
    cases ho
    cases hd
  have stLt : cStatics < s1.heap.objs.size := let ⟨_, hns, _⟩ := I1.nolimit; hns.lt
  have go : ∀ (code : Value) (h3 : Heap) (tk : Nat) (ps' : Array Value), Heap.ExtBut P (s1.heap.push o) h3 → (s1.heap.push o).objs.size ≤ h3.objs.size → h3.get? P = some { cls := .none, data := .fields ps' } → (∃ more, ps' = ps ++ more) → TriplesOk ps'.toList →
      wpAny (model X.prog X.w) X.A (builtinsFor X.env.globals X.env.builtins) (fun bi s₄ => G code bi s₄) X.xe { s1 with heap := h3, toks := tk } := by
    intro code h3 tk ps' ext szle atTab3 grown ok3
    obtain ⟨bm, ob, e1, e2, e3, e4, e5, e6, e7, e8⟩ := TB.bm
    have stays : ∀ b u, b ≠ P → s1.heap.get? b = some u → h3.get? b = some u := fun b u hb e => ext b u hb (Heap.get?_push_of_some _ e)
    refine wpAny_builtinsFor (m := X.mg) (by rw [I1.ok.glob]; exact ((I1.mod.glob.keeps I1.bk).push o).extBut ext TB.gP) e1 e2 (stays _ _ e4 (I1.bk _ _ e5)) e6 e7 e8 ?_
    exact h code h3 tk ps' ext szle atTab3 grown ok3 (noLim.extBut ext stNe) stLt
  cases hf : codeAmong gpos ps.toList with
  | none =>
    refine wpAny_genexprCodeX hcode (cdAt.code atTab2 ht) (cdAt.tab atTab2) hf fun c' h' tk ext hge hlt hco' _ htab' _ => ?_
    obtain ⟨o1, vs, f1, tf, fl, tg, inF, tx, tt, op, _, _, _, _, _, _, _, _, _, says, _⟩ := hco'
    exact go _ h' tk _ ext (Nat.le_trans hge (Nat.le_of_lt hlt)) htab'.2 ⟨_, rfl⟩ says
  | some cv =>
    refine wpAny_genexprCode_hit hcode (cdAt.code atTab2 ht) hf ?_
    exact go cv (s1.heap.push o) s1.toks ps (Heap.ExtBut.refl _ _) (Nat.le_refl _) atTab2 ⟨#[], by simp⟩ ht
/-- behind the walk -/
theorem gen_back {P : Addr} {ps ps' : Array Value} {h3 h5 : Heap} {tk5 : Nat} {gs : GenState} {wr : List Addr} {s1 s' : Shared} {H1 : Hp} {o : Obj}
    (I1 : Inv X pins σ H1 s1) (hP : H1 P = some (.tbl ps)) (ext : Heap.ExtBut P (s1.heap.push o) h3) (atTab3 : h3.get? P = some { cls := .none, data := .fields ps' }) (grown : ∃ more, ps' = ps ++ more) (ok3 : TriplesOk ps'.toList)
    (stays5 : ∀ b u, h3.get? b = some u → h5.get? b = some u) (bareG : gs.bare = true) (wrNew : ∀ b ∈ wr, s1.heap.objs.size ≤ b)
    (mv : Moved wr (GenOnlyQ s1.gens.size) { s1 with gens := s1.gens.push gs, toks := tk5, heap := h5 } s') : ∃ H2, Tabbed P H1 H2 ∧ Inv X pins σ H2 s' := by
  obtain ⟨more, emore⟩ := grown
  have atTab : s1.heap.get? P = some { cls := .none, data := .fields ps } := I1.hok P _ hP
  have stays : ∀ b u, b ≠ P → s1.heap.get? b = some u → h3.get? b = some u := fun b u hb e => ext b u hb (Heap.get?_push_of_some _ e)
  have notW : ∀ b u, s1.heap.get? b = some u → b ∉ wr := fun b u e hb => by
    have hl : (b : Nat) < s1.heap.objs.size := Heap.lt_size e
    exact Nat.lt_irrefl _ (Nat.lt_of_lt_of_le hl (wrNew b hb))
  have IJ := inv_tab (more := more) (h' := s'.heap) (g' := s'.gens) (d' := s'.drawn) (t' := s'.toks) I1 hP (fun b u hb e => mv.heap b u (notW b u e) (stays5 b u (stays b u hb e)))
    (by rw [← emore]; exact mv.heap P _ (notW P _ atTab) (stays5 P _ atTab3)) (AllBare.movedS (I1.bare.push bareG) mv)
  rw [sh_eta s1 s' mv.os] at IJ
  exact ⟨upd H1 P (.tbl (ps ++ more)), ⟨⟨ps ++ more, upd_same, by rw [← emore]; exact ok3⟩, fun b hb => upd_ne hb⟩, IJ⟩
/-- the generator g of n answers tr, ready to be walked -/
def Ready2 (X : Cx) (pins : List (Addr × Obj)) (σ : L2.St) (H1 : Hp) (P : Addr) (n : Nat) (tr : Nat → Bool) (g : Addr) (s5 : Shared) : Prop :=
  ∃ (fp wr : List Addr) (G : Array GenState → Array GenState → Prop) (F : Nat → Value → Prop) (St : Nat → Shared → Prop),
    WalksS X.prog X.w X.A.in1 g fp wr G n F St ∧ St 0 s5 ∧ TruthOf X.prog X.w X.A.in1 F tr ∧ ∀ s', Moved wr G s5 s' → ∃ H2, Tabbed P H1 H2 ∧ Inv X pins σ H2 s'
/-- the answer at place j -/
def trV {α : Type} (pb : α → Bool) (l : List α) (j : Nat) : Bool := match l[j]? with
  | some b => pb b
  | none => false
theorem trV_some {α : Type} {pb : α → Bool} {l : List α} {j : Nat} {b : α} (h : l[j]? = some b) : trV pb l j = pb b := by
  unfold trV
  rw [h]
theorem any_trV {α : Type} (l : List α) (pb : α → Bool) : (List.range l.length).any (trV pb l) = l.any pb := by
  rw [Bool.eq_iff_iff, List.any_eq_true, List.any_eq_true]
  constructor
  · intro ⟨j, jlt, h⟩
    have hj' := List.mem_range.mp jlt
    rw [trV_some (List.getElem?_eq_getElem hj')] at h
    exact ⟨l[j], List.getElem_mem hj', h⟩
  · intro ⟨b, hb, h⟩
    obtain ⟨j, jlt, e⟩ := List.getElem_of_mem hb
    refine ⟨j, List.mem_range.mpr jlt, ?_⟩
    rw [trV_some (List.getElem?_eq_getElem jlt), e]
    exact h
theorem all_trV {α : Type} (l : List α) (pb : α → Bool) : (List.range l.length).all (trV pb l) = l.all pb := by
  rw [Bool.eq_iff_iff, List.all_eq_true, List.all_eq_true]
  constructor
  · intro h b hb
    obtain ⟨j, jlt, e⟩ := List.getElem_of_mem hb
    have q := h j (List.mem_range.mpr jlt)
    rw [trV_some (List.getElem?_eq_getElem jlt), e] at q
    exact q
  · intro h j jlt
    have hj' := List.mem_range.mp jlt
    rw [trV_some (List.getElem?_eq_getElem hj')]
    exact h _ (List.getElem_mem hj')
theorem truth_F {α : Type} {prog : Program} {w : World} {A : Around} {pb : α → Bool} {l : List α} {pas : List Nat} (hp : pas = List.range l.length) :
    TruthOf prog w A (fun j y => ∃ i, pas[j]? = some i ∧ ∃ v, l[i]? = some v ∧ y = .bool (pb v)) (trV pb l) := by
  intro j y sj Qj Ej hy hQj
  obtain ⟨i, hij, cc, hcc, rfl⟩ := hy
  subst hp
  obtain ⟨jlt, jeq⟩ := List.getElem?_eq_some_iff.mp hij
  rw [List.getElem_range] at jeq
  subst jeq
  rw [trV_some hcc] at hQj
  exact wpAny_truthy_bool hQj
/-- the element: a test of the item y (xs: what may come), the state as at s1 but for the table at P -/
def EltQ (X : Cx) (P : Addr) (scope : Scope) (x : Str) (elt : Expr) (s1 : Shared) (pb : V → Bool) (xs : List V) : Prop :=
  ∀ (code : Value) (C : Addr) (A' : Around) (E' : Value → Shared → Prop) (y : V) (u : Value) (s₂ : Shared) (m₂ : Str → Option Value), y ∈ xs → RelV y u → A'.handled = none → A'.depth ≤ X.A.depth + 1 → A'.units ≤ X.A.units + 8 → s₂.heap.Ns C m₂ → m₂ x = some u →
    (∀ b o, b ≠ P → s1.heap.get? b = some o → s₂.heap.get? b = some o) →
    wpAny (model X.prog X.w) A' (eval elt (genEnv scope (cloFrom X.env.cells scope.names []) C code builtinsNs X.env)) (fun r s₃ => r = .bool (pb y) ∧ Keeps s₂ s₃) E' s₂
theorem gen_tup {c P : Addr} {elt iter : Expr} {x : Str} {xpos gpos : Pos} {scope : Scope} {pb : V → Bool} {te : TE} {k : Nat} {Q' : Value → Shared → Prop} {R : List V → Hp → Prop}
    (hr : Room k X.A) (TB : TabB X.base X.mg c P) (hcode : X.env.code = .ref c) (S : GenS X.env scope x) (hi : PE X iter te)
    (hel : ∀ (s1 : Shared) (H1 : Hp) (xs : List V), Inv X pins σ H1 s1 → (∃ ps, H1 P = some (.tbl ps)) → R xs H1 → EltQ X P scope x elt s1 pb xs)
    (hs : ∀ v, genFold iter X.env v = pure v) (I : Inv X pins σ H s) (h : te σ H fun v H1 => ∃ a xs, v = .ref a ∧ SqT X.K H1 a xs ∧ TabG H1 P ∧ R xs H1)
    (hQ : ∀ xs H1 g s5, R xs H1 → Ready2 X pins σ H1 P xs.length (trV pb xs) g s5 → Q' (.ref g) s5) :
    wpAny (model X.prog X.w) X.A (eval (.GeneratorExp elt [⟨.Name x xpos, iter, [], 0⟩] scope gpos) X.env) Q' X.xe s := by
  refine wpAny_GeneratorExp_walksQD hr.hd S.co (closure_ok S.free) S.cell S.dot S.loc S.kind (by have := hr.dp; omega) ?_ hs
  refine thn (hi.run pins s σ H _ I h) fun xu s1 ⟨v, H1, I1, rx1, qx1⟩ => ?_
  obtain ⟨a, xs, rfl, hT, ⟨ps, hP, ht⟩, qx1⟩ := qx1
  cases (show xu = Value.ref a from rx1)
  obtain ⟨its, rv, tup, hlen⟩ := I1.tuple hT
  have tup2 := tup
  obtain ⟨ot, hot, hcls, ⟨n, hdat⟩⟩ := tup2
  have ist : s1.heap.IsTuple a its.toArray := ⟨ot, hot, hcls, n, hdat⟩
  refine wpAny_pyIter_tuple ist ?_
  refine ⟨I1.nolimit.push _, gen_code TB hcode I1 hP ht fun code h3 tk ps' ext szle atTab3 grown ok3 hl3 stLt => ?_⟩
  have atTab : s1.heap.get? P = some { cls := .none, data := .fields ps } := I1.hok P _ hP
  have hPlt : (P : Nat) < s1.heap.objs.size := Heap.lt_size atTab
  have haP : a ≠ P := fun e => by
    rw [e, atTab] at hot
    cases hot
    cases hdat
  have halt : (a : Nat) < s1.heap.objs.size := Heap.lt_size hot
  have sz2 : (s1.heap.push { cls := .type "tuple_iterator", data := .fields #[.ref a, .int 0 0] }).objs.size = s1.heap.objs.size + 1 := Heap.size_push ..
  have stays : ∀ b u, b ≠ P → s1.heap.get? b = some u → h3.get? b = some u := fun b u hb e => ext b u hb (Heap.get?_push_of_some _ e)
  have hlen2 : its.toArray.size = xs.length := by rw [List.size_toArray, ← rv.length]
  refine ⟨s1.heap.objs.size, [s1.heap.objs.size, a], [s1.heap.objs.size], its.toArray.size, (fun i v => its.toArray[i]? = some v), (fun i h => h.IsTupleIter s1.heap.objs.size a i ∧ h.IsTuple a its.toArray), (fun _ => true), (fun i y => ∃ v, xs[i]? = some v ∧ y = .bool (pb v)), rfl,
    (fun A' hA => Walks.tuple hA _ _ (Nat.ne_of_lt halt) its.toArray), ?_, ?_, hl3, ?_, ?_, ?_⟩
  · refine ⟨⟨_, ext _ _ (fun z => ?_) (Heap.get?_push_size _ rfl), rfl, rfl⟩, ⟨ot, stays a ot haP hot, hcls, n, hdat⟩⟩
    exact Nat.ne_of_lt hPlt z.symm
  · intro b hb
    rcases List.mem_cons.mp hb with z | z
    · rw [z]
      show s1.heap.objs.size < h3.objs.size
      omega
    · rcases List.mem_cons.mp z with z | z
      · rw [z]
        have h9 : s1.heap.objs.size ≤ h3.objs.size := by omega
        exact Nat.lt_of_lt_of_le halt h9
      · cases z
  · intro z
    rcases List.mem_cons.mp z with z | z
    · exact Nat.ne_of_lt stLt z
    · cases z
  · intro href hhref
    refine ⟨fun A' E' i v s₂ m₂ hA hD hU hPv hn mv hk => ?_, fun A' E' i v s₂ m₂ hA hD hU hPv hp hn mv hk => ?_⟩
    · simp only [List.forIn_nil]
      exact wpAny_pure ⟨rfl, keeps_refl _⟩
    · have hi2 : i < its.length := by
        have := (Array.getElem?_eq_some_iff.mp hPv).1
        rw [List.size_toArray] at this
        exact this
      have hix : i < xs.length := by rw [rv.length]; exact hi2
      obtain ⟨u, hu, ru⟩ := rv.get (List.getElem?_eq_getElem hix)
      have eu : u = v := by
        rw [List.getElem?_toArray, hu] at hPv
        exact Option.some.inj hPv
      subst eu
      refine wpAny_mono (hel s1 H1 xs I1 ⟨ps, hP⟩ qx1 code _ A' E' xs[i] u s₂ m₂ (List.getElem_mem hix) ru hA hD hU hn mv fun b o hb e => ?_) (fun y s3 r => ⟨⟨_, List.getElem?_eq_getElem hix, r.1⟩, r.2⟩) fun _ _ e => e
      have e3 := stays b o hb e
      refine hk b (List.mem_range.mpr (Heap.lt_size e3)) (fun z => ?_) o (hhref b o e3)
      rcases List.mem_cons.mp z with z | z
      · have hl : (b : Nat) < s1.heap.objs.size := Heap.lt_size e
        rw [z] at hl
        exact Nat.lt_irrefl _ hl
      · cases z
  · intro g h5 tk5 gs bareG atG sz5 stays5 wk5 atW
    have hpas : passing (fun _ => true) its.toArray.size 0 = List.range xs.length := by rw [GxR.passing_true, hlen2]
    have hplen : (passing (fun _ => true) its.toArray.size 0).length = xs.length := by rw [hpas, List.length_range]
    have W6 := wk5.in4_1
    rw [hplen] at W6
    refine hQ xs H1 g _ qx1 ⟨_, _, _, _, _, W6, atW, truth_F hpas, fun s' mv => gen_back I1 hP ext atTab3 grown ok3 stays5 bareG (fun b hb => ?_) mv⟩
    rcases List.mem_cons.mp hb with z | z
    · rw [z]
      show s1.heap.objs.size ≤ h3.objs.size
      omega
    · rcases List.mem_cons.mp z with z | z
      · rw [z]
        exact Nat.le_refl _
      · cases z
/-- all(test for x in e), e a tuple; behind it the def's table may have grown -/
def tAllT (K : PySem.W.Frag) (P : Addr) (ok : List V → Hp → Prop) (pb : V → Bool) (te : TE) : TE := fun σ H Q => te σ H fun v H1 => ∃ a xs, v = .ref a ∧ SqT K H1 a xs ∧ TabG H1 P ∧ ok xs H1 ∧ ∀ H2, Tabbed P H1 H2 → Q (.bl (xs.all pb)) H2
theorem pe_allT {c P : Addr} {elt iter : Expr} {x : Str} {xpos p pos gpos : Pos} {scope : Scope} {ok : List V → Hp → Prop} {pb : V → Bool} {te : TE} {k : Nat}
    (hr : Room k X.A) (hg : Gl X "all") (mv : X.mg "all" = none) (hb : bootBuiltins "all" = some (.builtin "all")) (TB : TabB X.base X.mg c P) (hcode : X.env.code = .ref c) (S : GenS X.env scope x) (hi : PE X iter te)
    (hel : ∀ (pins : List (Addr × Obj)) (σ : L2.St) (s1 : Shared) (H1 : Hp) (xs : List V), Inv X pins σ H1 s1 → (∃ ps, H1 P = some (.tbl ps)) → ok xs H1 → EltQ X P scope x elt s1 pb xs)
    (hs : ∀ v, genFold iter X.env v = pure v)
    (he : starEach [.GeneratorExp elt [⟨.Name x xpos, iter, [], 0⟩] scope gpos] X.env = (false, eval (.GeneratorExp elt [⟨.Name x xpos, iter, [], 0⟩] scope gpos) X.env) :: starEach [] X.env := by rfl) :
    PE X (.Call (.Name "all" p) [.GeneratorExp elt [⟨.Name x xpos, iter, [], 0⟩] scope gpos] [] pos) (tAllT X.K P ok pb te) := by
  refine ⟨fun pins s σ H Q I h => ?_⟩
  refine wpAny_Call_Name_kw (ld_blt I hg mv hb ?_)
  refine PyProof.Rows.callWith_builtin1 ?_ he (by rfl)
  rw [he]
  show wpAny _ _ (spliced ((false, eval (.GeneratorExp elt [⟨.Name x xpos, iter, [], 0⟩] scope gpos) X.env) :: backTo pos (starEach [] X.env))) _ _ s
  refine Calls.spliced_cons (gen_tup (R := fun xs H1 => ok xs H1 ∧ ∀ H2, Tabbed P H1 H2 → Q (.bl (xs.all pb)) H2) hr TB hcode S hi (fun s1 H1 xs I1 hp q => hel pins σ s1 H1 xs I1 hp q.1) hs I h fun xs H1 g s5 hR hG => ?_)
  obtain ⟨fp, wr, G, F, St, W, at0, says, back⟩ := hG
  refine Calls.spliced_nil ?_
  refine call_all_walkS (W.self 0 _ _ _ at0 ⟨g, fp, wr, G, _, F, St, _, rfl, W, at0, says, fun s' hmv => ?_⟩)
  obtain ⟨H2, hT, IJ⟩ := back s' hmv
  refine ⟨.bl _, H2, IJ, rfl, ?_⟩
  rw [all_trV]
  exact hR.2 H2 hT
end
end K64
/-! any(later in alive for index, later in pairs) -/
namespace K64
open PySem PySem.Spec PyProof.Rows L2 GxR
/-- the items of the sequence at a -/
def seqOf (h : Heap) (a : Addr) : Array Value := match h.get? a with
  | some o => (match o.data with
    | .seq xs _ => xs
    | _ => #[])
  | none => #[]
theorem seqOf_eq {h : Heap} {a : Addr} {items : Array Value} (t : h.IsTuple a items) : seqOf h a = items := by
  obtain ⟨o, h1, _, n, h2⟩ := t
  unfold seqOf
  rw [h1]
  show (match o.data with
    | .seq xs _ => xs
    | _ => #[]) = items
  rw [h2]
/-- the names of the generator's own scope -/
structure GenS2 (env : Env) (scope : Scope) (xa xb : Str) : Prop where
  kind : scope.kind = .function
  co : scope.isCoroutine = false
  cell : ∀ y ∈ scope.names, y.2 ≠ .cell
  dot : scope.names.lookup (".0" : Str) = some NameKind.local
  la : scope.names.lookup xa = some .local
  lb : scope.names.lookup xb = some .local
  ne : xa ≠ xb
  free : ∀ y ∈ scope.names, y.2 = .free → ∃ c, env.cells.lookup y.1 = some c
section
variable {X : Cx} {pins : List (Addr × Obj)} {σ : L2.St} {H : Hp} {s : Shared}
def EltQ2 (X : Cx) (P : Addr) (scope : Scope) (xa xb : Str) (elt : Expr) (s1 : Shared) (pb : V × V → Bool) (zs : List (V × V)) : Prop :=
  ∀ (code : Value) (C : Addr) (A' : Around) (E' : Value → Shared → Prop) (y : V × V) (ua ub : Value) (s₂ : Shared) (m₂ : Str → Option Value), y ∈ zs → RelV y.1 ua → RelV y.2 ub → A'.handled = none → A'.depth ≤ X.A.depth + 1 → A'.units ≤ X.A.units + 8 →
    s₂.heap.Ns C m₂ → m₂ xa = some ua → m₂ xb = some ub → (∀ b o, b ≠ P → s1.heap.get? b = some o → s₂.heap.get? b = some o) →
    wpAny (model X.prog X.w) A' (eval elt (genEnv scope (cloFrom X.env.cells scope.names []) C code builtinsNs X.env)) (fun r s₃ => r = .bool (pb y) ∧ Keeps s₂ s₃) E' s₂
/-- the list at l: tuples of the pairs zs -/
def Pairs (K : PySem.W.Frag) (H : Hp) (l : Addr) (ts : List Addr) (zs : List (V × V)) : Prop :=
  SqL K H l (ts.map V.ref) ∧ Paired (fun (t : Addr) (z : V × V) => SqT K H t [z.1, z.2]) ts zs
theorem paired_at {α β : Type} {G : α → β → Prop} : ∀ {l₁ : List α} {l₂ : List β} {i : Nat} {a : α}, Paired G l₁ l₂ → l₁[i]? = some a → ∃ b, l₂[i]? = some b ∧ G a b
  | _, _, _, _, .nil, e => by simp at e
  | _, _, 0, _, .cons g _, e => by
    cases e
    exact ⟨_, rfl, g⟩
  | _, _, i + 1, _, .cons _ t, e => paired_at (i := i) t e
theorem paired_len {α β : Type} {G : α → β → Prop} : ∀ {l₁ : List α} {l₂ : List β}, Paired G l₁ l₂ → l₁.length = l₂.length
  | _, _, .nil => rfl
  | _, _, .cons _ t => congrArg Nat.succ (paired_len t)
theorem refs_at' : ∀ {ps : List Addr} {us : List Value}, Vals (ps.map V.ref) us → us = ps.map Value.ref := L2.refs_at
theorem gen_prs {c P : Addr} {elt iter : Expr} {xa xb : Str} {pa pb' pt gpos : Pos} {kt : Nat} {scope : Scope} {te : TE} {k : Nat} {Q' : Value → Shared → Prop} {R : List (V × V) → Hp → (V × V → Bool) → Prop}
    (hr : Room k X.A) (TB : TabB X.base X.mg c P) (hcode : X.env.code = .ref c) (S : GenS2 X.env scope xa xb) (hi : PE X iter te)
    (hel : ∀ (s1 : Shared) (H1 : Hp) (zs : List (V × V)) (pb : V × V → Bool), Inv X pins σ H1 s1 → (∃ ps, H1 P = some (.tbl ps)) → R zs H1 pb → EltQ2 X P scope xa xb elt s1 pb zs)
    (hs : ∀ v, genFold iter X.env v = pure v) (I : Inv X pins σ H s) (h : te σ H fun v H1 => ∃ l ts zs pb, v = .ref l ∧ Pairs X.K H1 l ts zs ∧ TabG H1 P ∧ R zs H1 pb)
    (hQ : ∀ zs H1 pb g s5, R zs H1 pb → Ready2 X pins σ H1 P zs.length (trV pb zs) g s5 → Q' (.ref g) s5) :
    wpAny (model X.prog X.w) X.A (eval (.GeneratorExp elt [⟨.Tuple [.Name xa pa, .Name xb pb'] kt pt, iter, [], 0⟩] scope gpos) X.env) Q' X.xe s := by
  refine wpAny_GeneratorExp_walksQTD hr.hd S.co (closure_ok S.free) S.cell S.dot S.la S.lb S.ne S.kind (by have := hr.dp; omega) ?_ hs
  refine thn (hi.run pins s σ H _ I h) fun xu s1 ⟨v, H1, I1, rx1, qx1⟩ => ?_
  obtain ⟨l, ts, zs, pb, rfl, ⟨hL, hTs⟩, ⟨ps, hP, ht⟩, qx1⟩ := qx1
  cases (show xu = Value.ref l from rx1)
  obtain ⟨its, rv, lis, hlen⟩ := I1.list hL
  have eits := L2.refs_at rv
  subst eits
  obtain ⟨ol, n, hol, hlcls, hldict, hldat⟩ := lis
  have isl : s1.heap.IsList l (ts.map Value.ref).toArray := ⟨ol, hol, hlcls, n, hldat⟩
  refine wpAny_pyIter_list isl ?_
  refine ⟨I1.nolimit.push _, gen_code TB hcode I1 hP ht fun code h3 tk ps' ext szle atTab3 grown ok3 hl3 hcl => ?_⟩
  have atTab : s1.heap.get? P = some { cls := .none, data := .fields ps } := I1.hok P _ hP
  have hPlt : (P : Nat) < s1.heap.objs.size := Heap.lt_size atTab
  have lNe : l ≠ P := fun e => by
    rw [e, atTab] at hol
    cases hol
    cases hldat
  have hllt : (l : Nat) < s1.heap.objs.size := Heap.lt_size hol
  have sz2 : (s1.heap.push { cls := .type "list_iterator", data := .fields #[.ref l, .int 0 0] }).objs.size = s1.heap.objs.size + 1 := Heap.size_push ..
  have hsz9 : s1.heap.objs.size + 1 ≤ h3.objs.size := by rw [← sz2]; exact szle
  have stays : ∀ b u, b ≠ P → s1.heap.get? b = some u → h3.get? b = some u := fun b u bIn e => ext b u bIn (Heap.get?_push_of_some _ e)
  have hsize : (ts.map Value.ref).toArray.size = ts.length := by simp
  have hzl : ts.length = zs.length := paired_len hTs
  -- the tuples
  have tupAt : ∀ (i : Nat) (t : Addr), ts[i]? = some t → ∃ (z : V × V) (ua ub : Value), zs[i]? = some z ∧ RelV z.1 ua ∧ RelV z.2 ub ∧ s1.heap.IsTuple t #[ua, ub] ∧ seqOf s1.heap t = #[ua, ub] ∧ t ≠ P := by
    intro i t ei
    obtain ⟨z, ez, hz⟩ := paired_at hTs ei
    obtain ⟨jts, rz, tup, _⟩ := I1.tuple hz
    obtain ⟨ua, ub, rfl, ra, rb⟩ := Vals.two rz
    have tup2 : s1.heap.IsTuple t #[ua, ub] := tup
    refine ⟨z, ua, ub, ez, ra, rb, tup2, seqOf_eq tup2, fun e => ?_⟩
    obtain ⟨o, h1, _, m, h2⟩ := tup2
    rw [e, atTab] at h1
    cases h1
    cases h2
  let Ts : Nat → Addr := fun i => (ts[i]?).getD 0
  have TsAt : ∀ i, i < ts.length → ts[i]? = some (Ts i) := fun i hi => by
    show ts[i]? = some ((ts[i]?).getD 0)
    rw [List.getElem?_eq_getElem hi]
    rfl
  have tup3 : ∀ j, j < ts.length → h3.IsTuple (Ts j) (seqOf s1.heap (Ts j)) := fun j jlt => by
    obtain ⟨z, ua, ub, _, _, _, tt, es, nP⟩ := tupAt j _ (TsAt j jlt)
    rw [es]
    obtain ⟨o, h1, h2, h3'⟩ := tt
    exact ⟨o, stays _ _ nP h1, h2, h3'⟩
  have ltT : ∀ j, j < ts.length → (Ts j : Nat) < s1.heap.objs.size := fun j jlt => by
    obtain ⟨z, ua, ub, _, _, _, ⟨o, h1, _⟩, _, _⟩ := tupAt j _ (TsAt j jlt)
    exact Heap.lt_size h1
  have W0 : ∀ A' : Around, A'.handled = none → WalksU X.prog X.w A' s1.heap.objs.size (s1.heap.objs.size :: l :: (List.range (ts.map Value.ref).toArray.size).map Ts) [s1.heap.objs.size] (ts.map Value.ref).toArray.size (fun j v => j < (ts.map Value.ref).toArray.size ∧ v = seqOf s1.heap (Ts j)) _ _ := fun A' hA =>
    (WalksU.listOfTuples (prog := X.prog) (w := X.w) hA s1.heap.objs.size l (Nat.ne_of_lt hllt) (ts.map Value.ref).toArray Ts (fun j => seqOf s1.heap (Ts j)) (fun j jlt => by
      rw [hsize] at jlt
      rw [List.getElem?_toArray, List.getElem?_map, TsAt j jlt]
      rfl) (fun j jlt => by
      rw [hsize] at jlt
      exact Nat.ne_of_lt (ltT j jlt))).bound
  refine ⟨s1.heap.objs.size, _, [s1.heap.objs.size], _, _, _, _, (fun _ => true), (fun i y => ∃ z, zs[i]? = some z ∧ y = .bool (pb z)), rfl, W0, ?_, ?_, ?_, hl3, ?_, ?_, ?_⟩
  · rintro i vals ⟨hi, rfl⟩
    rw [hsize] at hi
    obtain ⟨z, ua, ub, _, _, _, _, es, _⟩ := tupAt i _ (TsAt i hi)
    exact ⟨ua, ub, es⟩
  · refine ⟨⟨_, ext _ _ (fun z => ?_) (Heap.get?_push_size _ rfl), rfl, rfl⟩, ⟨ol, stays l ol lNe hol, hlcls, n, hldat⟩, fun j jlt => ?_⟩
    · exact Nat.ne_of_lt hPlt z.symm
    · rw [hsize] at jlt
      exact tup3 j jlt
  · intro b bIn
    have h9 : s1.heap.objs.size ≤ h3.objs.size := by omega
    rcases List.mem_cons.mp bIn with z | z
    · rw [z]
      exact hsz9
    · rcases List.mem_cons.mp z with z | z
      · rw [z]
        exact Nat.lt_of_lt_of_le hllt h9
      · obtain ⟨j, jlt, rfl⟩ := List.mem_map.mp z
        have hj' := List.mem_range.mp jlt
        rw [hsize] at hj'
        exact Nat.lt_of_lt_of_le (ltT j hj') h9
  · intro z
    rcases List.mem_cons.mp z with z | z
    · exact Nat.ne_of_lt hcl z
    · cases z
  · intro href hhref
    refine ⟨fun A' E' i va vb s₂ m₂ hA hD hU hPv hn hma hmb hk => ?_, fun A' E' i va vb s₂ m₂ hA hD hU hPv hp hn hma hmb hk => ?_⟩
    · simp only [List.forIn_nil]
      exact wpAny_pure ⟨rfl, keeps_refl _⟩
    · obtain ⟨hi, ev⟩ := hPv
      rw [hsize] at hi
      obtain ⟨z, ua, ub, ez, ra, rb, _, es, _⟩ := tupAt i _ (TsAt i hi)
      rw [es] at ev
      cases ev
      refine wpAny_mono (hel s1 H1 zs pb I1 ⟨ps, hP⟩ qx1 code _ A' E' z va vb s₂ m₂ (List.mem_of_getElem? ez) ra rb hA hD hU hn hma hmb fun b o bIn e => ?_) (fun y s3 r => ⟨⟨_, ez, r.1⟩, r.2⟩) fun _ _ e => e
      have e3 := stays b o bIn e
      refine hk b (List.mem_range.mpr (Heap.lt_size e3)) (fun z => ?_) o (hhref b o e3)
      rcases List.mem_cons.mp z with z | z
      · have hl : (b : Nat) < s1.heap.objs.size := Heap.lt_size e
        rw [z] at hl
        exact Nat.lt_irrefl _ hl
      · cases z
  · intro g h5 tk5 gs bareG atG sz5 stays5 wk5 atW
    have hpas : passing (fun _ => true) (ts.map Value.ref).toArray.size 0 = List.range zs.length := by rw [GxR.passing_true, hsize, hzl]
    have hplen : (passing (fun _ => true) (ts.map Value.ref).toArray.size 0).length = zs.length := by rw [hpas, List.length_range]
    have W6 := wk5.in4_1
    rw [hplen] at W6
    refine hQ zs H1 pb g _ qx1 ⟨_, _, _, _, _, W6, atW, truth_F hpas, fun s' hm => gen_back I1 hP ext atTab3 grown ok3 stays5 bareG (fun b bIn => ?_) hm⟩
    rcases List.mem_cons.mp bIn with z | z
    · rw [z]
      show s1.heap.objs.size ≤ h3.objs.size
      omega
    · rcases List.mem_cons.mp z with z | z
      · rw [z]
        exact Nat.le_refl _
      · cases z
/-- any(test for a, b in e), e a list of pairs -/
def tAnyP (K : PySem.W.Frag) (P : Addr) (ok : L2.St → List (V × V) → Hp → (V × V → Bool) → Prop) (te : TE) : TE := fun σ H Q => te σ H fun v H1 => ∃ l ts zs pb, v = .ref l ∧ Pairs K H1 l ts zs ∧ TabG H1 P ∧ ok σ zs H1 pb ∧ ∀ H2, Tabbed P H1 H2 → Q (.bl (zs.any pb)) H2
theorem pe_anyP {c P : Addr} {elt iter : Expr} {xa xb : Str} {pa pb' pt p pos gpos : Pos} {kt : Nat} {scope : Scope} {ok : L2.St → List (V × V) → Hp → (V × V → Bool) → Prop} {te : TE} {k : Nat}
    (hr : Room k X.A) (hg : Gl X "any") (hm : X.mg "any" = none) (TB : TabB X.base X.mg c P) (hcode : X.env.code = .ref c) (S : ∀ (pins : List (Addr × Obj)) (σ : L2.St) (s1 : Shared) (H1 : Hp), Inv X pins σ H1 s1 → GenS2 X.env scope xa xb) (hi : PE X iter te)
    (hel : ∀ (pins : List (Addr × Obj)) (σ : L2.St) (s1 : Shared) (H1 : Hp) (zs : List (V × V)) (pb : V × V → Bool), Inv X pins σ H1 s1 → (∃ ps, H1 P = some (.tbl ps)) → ok σ zs H1 pb → EltQ2 X P scope xa xb elt s1 pb zs)
    (hs : ∀ v, genFold iter X.env v = pure v)
    (he : starEach [.GeneratorExp elt [⟨.Tuple [.Name xa pa, .Name xb pb'] kt pt, iter, [], 0⟩] scope gpos] X.env = (false, eval (.GeneratorExp elt [⟨.Tuple [.Name xa pa, .Name xb pb'] kt pt, iter, [], 0⟩] scope gpos) X.env) :: starEach [] X.env := by rfl) :
    PE X (.Call (.Name "any" p) [.GeneratorExp elt [⟨.Tuple [.Name xa pa, .Name xb pb'] kt pt, iter, [], 0⟩] scope gpos] [] pos) (tAnyP X.K P ok te) := by
  refine ⟨fun pins s σ H Q I h => ?_⟩
  refine wpAny_Call_Name_kw (ld_blt I hg hm boot_any ?_)
  refine PyProof.Rows.callWith_builtin1 ?_ he (by rfl)
  rw [he]
  show wpAny _ _ (spliced ((false, eval (.GeneratorExp elt [⟨.Tuple [.Name xa pa, .Name xb pb'] kt pt, iter, [], 0⟩] scope gpos) X.env) :: backTo pos (starEach [] X.env))) _ _ s
  refine Calls.spliced_cons (gen_prs (R := fun zs H1 pb => ok σ zs H1 pb ∧ ∀ H2, Tabbed P H1 H2 → Q (.bl (zs.any pb)) H2) hr TB hcode (S pins σ s H I) hi (fun s1 H1 zs pb I1 hp q => hel pins σ s1 H1 zs pb I1 hp q.1) hs I h fun zs H1 pb g s5 hR hG => ?_)
  obtain ⟨fp, wr, G, F, St, W, at0, says, back⟩ := hG
  refine Calls.spliced_nil ?_
  refine call_any_walkS (W.self 0 _ _ _ at0 ⟨g, fp, wr, G, _, F, St, _, rfl, W, at0, says, fun s' hmv => ?_⟩)
  obtain ⟨H2, hT, J⟩ := back s' hmv
  refine ⟨.bl _, H2, J, rfl, ?_⟩
  rw [any_trV]
  exact hR.2 H2 hT
end
end K64
/-! The text by places, the names of each def by slots. -/
namespace K64
open PySem PySem.Spec PyProof.Rows L2
def top (i : Nat) : Stmt := PySem.Challenge.pw_eventcore_k64_whole_rings.main.body.getD i (.Pass ⟨0, 0, 0, 0⟩)
abbrev sIsIn : Stmt := top 4
abbrev sNeed : Stmt := top 8
abbrev sServed : Stmt := top 9
abbrev sAlive : Stmt := top 10
abbrev sRing : Stmt := top 11
abbrev sTaken : Stmt := top 13
abbrev sPick : Stmt := top 14
abbrev sDist : Stmt := top 15
abbrev sIsRing : Stmt := top 16
abbrev sSteps : Stmt := top 17
abbrev sGoes : Stmt := top 18
abbrev sLaw : Stmt := top 19
theorem scIsIn : FnScope ["value", "least", "most"] ["value", "least", "most"] (defScope sIsIn) := ⟨rfl, rfl, rfl, by decide +kernel, rfl, by decide +kernel, by decide +kernel⟩
theorem scNeed : FnScope ["distances"] ["distances"] (defScope sNeed) := ⟨rfl, rfl, rfl, by decide +kernel, rfl, by decide +kernel, by decide +kernel⟩
theorem scServed : FnScope ["distances", "state", "index", "found", "k", "left"] ["distances", "state", "index"] (defScope sServed) := ⟨rfl, rfl, rfl, by decide +kernel, rfl, by decide +kernel, by decide +kernel⟩
theorem scAlive : FnScope ["distances", "start", "steps", "queue", "state", "index", "later", "is_changed", "gone", "alive", "one"] ["distances"] (defScope sAlive) := ⟨rfl, rfl, rfl, by decide +kernel, rfl, by decide +kernel, by decide +kernel⟩
theorem scRing : FnScope ["distances", "steps", "state", "seen", "found", "index"] ["distances"] (defScope sRing) := ⟨rfl, rfl, rfl, by decide +kernel, rfl, by decide +kernel, by decide +kernel⟩
theorem scTaken : FnScope ["_law_row", "_law_many", "_law_found", "_law_cell"] ["_law_row", "_law_many"] (defScope sTaken) := ⟨rfl, rfl, rfl, by decide +kernel, rfl, by decide +kernel, by decide +kernel⟩
theorem scPick : FnScope ["_law_row", "_law_things"] ["_law_row", "_law_things"] (defScope sPick) := ⟨rfl, rfl, rfl, by decide +kernel, rfl, by decide +kernel, by decide +kernel⟩
theorem scDist : FnScope ["_law_row", "_law_most", "_law_full", "_law_found", "_law_at", "_law_one", "_law_k"] ["_law_row", "_law_most"] (defScope sDist) := ⟨rfl, rfl, rfl, by decide +kernel, rfl, by decide +kernel, by decide +kernel⟩
theorem scIsRing : FnScope ["_law_distances_here", "_law_value", "_law_one", "_law_some", "_law_k", "_law_wait"] ["_law_distances_here", "_law_value"] (defScope sIsRing) := ⟨rfl, rfl, rfl, by decide +kernel, rfl, by decide +kernel, by decide +kernel⟩
theorem scSteps : FnScope ["_law_distances_here", "_law_state", "_law_found", "_law_k", "_law_j"] ["_law_distances_here", "_law_state"] (defScope sSteps) := ⟨rfl, rfl, rfl, by decide +kernel, rfl, by decide +kernel, by decide +kernel⟩
theorem scGoes : FnScope ["_law_distances_here", "_law_rows", "_law_queue", "_law_turn", "_law_one", "_law_alive", "_law_gone", "_law_state"] ["_law_distances_here"] (defScope sGoes) := ⟨rfl, rfl, rfl, by decide +kernel, rfl, by decide +kernel, by decide +kernel⟩
theorem scLaw : FnScope ["_law_script", "_law_row", "_law_turn", "_law_distances_here", "_law_found", "_law_one"] ["_law_script"] (defScope sLaw) := ⟨rfl, rfl, rfl, by decide +kernel, rfl, by decide +kernel, by decide +kernel⟩
/-- the name of a def -/
def nameOf (s : Stmt) : Str := match s with
  | .FunctionDef n _ _ _ _ _ _ _ _ _ => n
  | _ => "?"
example : nameOf sIsIn = "is_in" ∧ nameOf sNeed = "need_distances" ∧ nameOf sServed = "served" ∧ nameOf sAlive = "alive_states" ∧ nameOf sRing = "ring_for" ∧ nameOf sTaken = "_law_taken" ∧ nameOf sPick = "_law_pick" ∧ nameOf sDist = "_law_distances" ∧
    nameOf sIsRing = "_law_is_ring" ∧ nameOf sSteps = "_law_steps" ∧ nameOf sGoes = "_law_goes_on" ∧ nameOf sLaw = "law" := by decide +kernel
end K64
/-! The elements of the two generator expressions. -/
namespace K64
open PySem PySem.Spec PyProof.Rows L2 GxR
/-- what a name of the module wants of a state -/
structure At (X : Cx) (s : Shared) : Prop where
  kin : X.K.In s.heap
  glob : s.heap.Ns mainGlobals X.mg
  blt : ∃ mb, s.heap.Ns builtinsNs mb ∧ ∀ x : Str, x ≠ "__name__" → mb x = bootBuiltins x
  lim : s.heap.NoLimit
theorem At.of {X : Cx} {s : Shared} (m : Mod X.K X.mg X.base) (k : ∀ b o, X.base.get? b = some o → s.heap.get? b = some o) : At X s :=
  ⟨m.kin.keeps k, m.glob.keeps k, let ⟨mb, h1, h2⟩ := m.blt; ⟨mb, h1.keeps k, h2⟩, m.nolimit.keeps k⟩
theorem At.keeps {X : Cx} {s s' : Shared} (a : At X s) (k : ∀ b o, s.heap.get? b = some o → s'.heap.get? b = some o) : At X s' :=
  ⟨a.kin.keeps k, a.glob.keeps k, let ⟨mb, h1, h2⟩ := a.blt; ⟨mb, h1.keeps k, h2⟩, a.lim.keeps k⟩
theorem At.any {X : Cx} {s s' : Shared} (a : At X s) (e : s'.heap = s.heap := by rfl) : At X s' := by
  obtain ⟨k, g, b, l⟩ := a
  rw [← e] at k g b l
  exact ⟨k, g, b, l⟩
theorem keeps_trans {s s1 s2 : Shared} (a : Keeps s s1) (b : Keeps s1 s2) : Keeps s s2 := by
  obtain ⟨h1, t1, rfl, k1⟩ := a
  obtain ⟨h2, t2, rfl, k2⟩ := b
  exact ⟨h2, t2, rfl, fun b o e => k2 b o (k1 b o e)⟩
theorem keeps_k {s s' : Shared} (a : Keeps s s') : ∀ b o, s.heap.get? b = some o → s'.heap.get? b = some o := by
  obtain ⟨h1, t1, rfl, k1⟩ := a
  exact k1
section
variable {X : Cx} {s : Shared} {env : Env} {A' : Around} {E : Value → Shared → Prop} {Q : Value → Shared → Prop} {pos : Pos} {x : Str}
theorem at_glob {u : Value} (a : At X s) (hk : env.scope.kind = .function) (hg : env.globals = mainGlobals) (hx : env.kindOf x = some .globalImplicit) (hm : X.mg x = some u) (h : Q u s) (hd : (x == ("__debug__" : Str)) = false := by decide) :
    wpAny (model X.prog X.w) A' (eval (.Name x pos) env) Q E s :=
  Calls.Name_function_global hk hx (Calls.loadGlobal_global (by rw [hg]; exact a.glob) hm h) hd
theorem at_blt {u : Value} (a : At X s) (hk : env.scope.kind = .function) (hg : env.globals = mainGlobals) (hb : env.builtins = builtinsNs) (hx : env.kindOf x = some .globalImplicit) (hm : X.mg x = none) (hv : bootBuiltins x = some u) (h : Q u s)
    (hn : x ≠ "__name__" := by decide) (hd : (x == ("__debug__" : Str)) = false := by decide) : wpAny (model X.prog X.w) A' (eval (.Name x pos) env) Q E s := by
  obtain ⟨mb, h1, h2⟩ := a.blt
  exact Calls.Name_function_global hk hx (Calls.loadGlobal_builtin (by rw [hg]; exact a.glob) hm (by rw [hb]; exact h1) ((h2 x hn).trans hv) h) hd
end
/-- 1 to 8 -/
def inR : V → Bool
  | .int i => decide (1 ≤ i) && decide (i ≤ 8)
  | _ => false
section
variable {X : Cx}
theorem is_in_call {f : Addr} {fd : FuncData} (F : Fun X.K "is_in" "is_in" sIsIn f fd) (bF : L2.Binds X.K fd ["value", "least", "most"] []) (mi : X.mg "isinstance" = none) (mt : X.mg "int" = none) (mb : X.mg "bool" = none)
    {s : Shared} {A' : Around} {E : Value → Shared → Prop} {i lo hi : Int} {t1 t2 t3 : Tok} (a : At X s) (hdep : A'.depth < recursionLimit) :
    wpAny (model X.prog X.w) A' (call (.ref f) [.int i t1, .int lo t2, .int hi t3]) (fun r s' => r = .bool (decide (lo ≤ i) && decide (i ≤ hi)) ∧ Keeps s s') E s := by
  obtain ⟨⟨oc, od, kV, doc, pm, an, cdv, ct, osl, rfl, lk, hcd⟩, kp⟩ := F
  refine wpAny_call (codeAny_call_function hdep (a.kin _ _ lk) rfl scIsIn.co scIsIn.gen rfl (PySem.W.codeRec_of a.kin hcd) (bF s [.int i t1, .int lo t2, .int hi t3] a.kin rfl _ _ _ _ ?_))
  refine wpAny_newFunctionEnv_cells scIsIn.kind (fun y hy => ?_) fun env he s1 xc => ?_
  · rcases List.mem_cons.mp hy with z | z
    · rw [z]
      exact .inl rfl
    · rcases List.mem_cons.mp z with z | z
      · rw [z]
        exact .inl rfl
      · rcases List.mem_cons.mp z with z | z
        · rw [z]
          exact .inl rfl
        · cases z
  subst he
  obtain ⟨h1, tk1, rfl, k1⟩ := xc.done
  have a1 : At X { s with heap := h1, toks := tk1 } := a.keeps k1
  have hns := xc.toInCall.ns
  refine ⟨a1.lim, codeAny_func ?_⟩
  refine wpAny_execs_cons (wpAny_Return_some ?_)
  -- isinstance(value, int)
  refine BoolOp_and (wpAny_Call_Name_kw (at_blt (u := .builtin "isinstance") a1.any rfl rfl rfl rfl mi (by decide +kernel) ?_))
  refine callWith_builtin1 ?_ (by rfl) (by rfl)
  refine Calls.spliced_cons (wpAny_Name (wpAny_loadName_local rfl rfl hns rfl ?_))
  refine Calls.spliced_cons (at_blt (u := .type "int") a1.any rfl rfl rfl rfl mt (by decide +kernel) ?_)
  refine Calls.spliced_nil ?_
  refine PySem.W.kia_one (K := X.K) PySem.W.kitx_int a1.any.kin True.intro (b := true) (kit_ty (by decide +kernel)) (fun z => nomatch z) fun tk2 => ?_
  refine wpAny_truthy_bool ?_
  -- not isinstance(value, bool)
  refine BoolOp_and (UnaryOp_ (wpAny_Call_Name_kw (at_blt (u := .builtin "isinstance") a1.any rfl rfl rfl rfl mi (by decide +kernel) ?_)))
  refine callWith_builtin1 ?_ (by rfl) (by rfl)
  refine Calls.spliced_cons (wpAny_Name (wpAny_loadName_local rfl rfl hns rfl ?_))
  refine Calls.spliced_cons (at_blt (u := .type "bool") a1.any rfl rfl rfl rfl mb (by decide +kernel) ?_)
  refine Calls.spliced_nil ?_
  refine PySem.W.kia_one (K := X.K) PySem.W.kitx_int a1.any.kin True.intro (b := false) (kit_ty (by decide +kernel)) (fun z => nomatch z) fun tk3 => ?_
  refine not_of (wpAny_truthy_bool ?_)
  refine wpAny_truthy_bool ?_
  -- least <= value <= most
  refine Compare_chain (wpAny_Name (wpAny_loadName_local rfl rfl hns rfl ?_))
  refine chain_link (wpAny_Name (wpAny_loadName_local rfl rfl hns rfl ?_))
  refine le_int (wpAny_truthy_bool ?_)
  by_cases hlo : lo ≤ i
  · rw [decide_eq_true hlo]
    refine chain_last (wpAny_Name (wpAny_loadName_local rfl rfl hns rfl ?_))
    refine le_int ?_
    exact ⟨rfl, h1, _, rfl, k1⟩
  · rw [decide_eq_false hlo]
    exact ⟨rfl, h1, _, rfl, k1⟩
/-- the state ahead of an element: the base stands -/
theorem at_elt {pins : List (Addr × Obj)} {σ : L2.St} {H1 : Hp} {s1 s2 : Shared} {P : Addr} (I : Inv X pins σ H1 s1) (hP : ∃ ps, H1 P = some (.tbl ps)) (k : ∀ b o, b ≠ P → s1.heap.get? b = some o → s2.heap.get? b = some o) : At X s2 := by
  obtain ⟨ps, hP⟩ := hP
  refine At.of I.mod fun b o e => ?_
  obtain ⟨e1, e2⟩ := I.bs b o e
  refine k b o (fun z => ?_) e1
  rw [z, hP] at e2
  cases e2
/-- is_in(one, 1, MOST_DISTANCE) -/
theorem elt_isin {f : Addr} {fd : FuncData} {P : Addr} {scope : Scope} {x : Str} {p0 p1 p2 p3 p4 : Pos} {j k : Nat} {t : Tok} (F : Fun X.K "is_in" "is_in" sIsIn f fd) (bF : L2.Binds X.K fd ["value", "least", "most"] []) (gF : X.mg "is_in" = some (.ref f)) (gM : X.mg "MOST_DISTANCE" = some (.int 8 t))
    (mi : X.mg "isinstance" = none) (mt : X.mg "int" = none) (mb : X.mg "bool" = none) (hr : Room k X.A) (hk : scope.kind = .function) (hx : scope.names.lookup x = some .local) (hf : scope.names.lookup ("is_in" : Str) = some .globalImplicit) (hM : scope.names.lookup ("MOST_DISTANCE" : Str) = some .globalImplicit)
    (hd : (x == ("__debug__" : Str)) = false) (hs : ∀ env : Env, starEach [.Name x p1, .Constant (.int 1) j p2, .Name "MOST_DISTANCE" p3] env = (false, eval (.Name x p1) env) :: starEach [.Constant (.int 1) j p2, .Name "MOST_DISTANCE" p3] env)
    {pins : List (Addr × Obj)} {σ : L2.St} {s1 : Shared} {H1 : Hp} {ns : List Int} (I : Inv X pins σ H1 s1) (hP : ∃ ps, H1 P = some (.tbl ps)) :
    EltQ X P scope x (.Call (.Name "is_in" p0) [.Name x p1, .Constant (.int 1) j p2, .Name "MOST_DISTANCE" p3] [] p4) s1 inR (ns.map V.int) := by
  intro code C A' E' y u s₂ m₂ hy ru hA hD hU hn hm hk2
  obtain ⟨i, hi, rfl⟩ := List.mem_map.mp hy
  obtain ⟨ti, rfl⟩ := (show ∃ t, u = Value.int i t from ru)
  have a2 : At X s₂ := at_elt I hP hk2
  refine wpAny_Call_Name_kw (at_glob a2 hk I.ok.glob hf gF ?_)
  refine PySem.W.callWith_K (h₀ := X.base) I.ok.mod.kin F.kp ?_ (hs _) (by rfl)
  rw [hs]
  refine Calls.spliced_cons (wpAny_Name (wpAny_loadName_local hk hx hn hm ?_) hd)
  refine Calls.spliced_cons (wpAny_Constant_int (i := 1) (k := j) (pos := p2) ?_)
  refine Calls.spliced_cons (at_glob a2.any hk I.ok.glob hM gM ?_)
  refine Calls.spliced_nil ⟨a2.any.kin, ?_⟩
  have a3 : At X { s₂ with toks := s₂.toks + 1 } := a2.any
  refine wpAny_mono (is_in_call F bF mi mt mb (i := i) (lo := 1) (hi := 8) a3 (by have := hr.dp; omega)) (fun r s' q => ?_) fun _ _ e => e
  exact ⟨q.1, keeps_trans (keeps_tok s₂ _) q.2⟩
/-- what is tracked, but for the tables -/
def offT (H : Hp) : Hp := fun b => match H b with
  | some (.tbl _) => none
  | o => o
theorem offT_some {H : Hp} {b : Addr} {o : HO} (h : H b = some o) (n : ∀ ps, o ≠ .tbl ps) : offT H b = some o := by
  unfold offT
  rw [h]
  cases o with
  | tbl ps => exact absurd rfl (n ps)
  | _ => rfl
theorem of_offT {H : Hp} {b : Addr} {o : HO} (h : offT H b = some o) : H b = some o ∧ ∀ ps, o ≠ .tbl ps := by
  unfold offT at h
  cases e : H b with
  | none =>
    rw [e] at h
    cases h
  | some u =>
    rw [e] at h
    cases u with
    | tbl ps => cases h
    | _ =>
      cases h
      exact ⟨rfl, fun ps z => nomatch z⟩
theorem hok_off {Pr : Program} {w : World} {H : Hp} {h h' : Heap} {P : Addr} (ok : HOk Pr w H h) (hP : ∃ ps, H P = some (.tbl ps)) (k : ∀ b o, b ≠ P → h.get? b = some o → h'.get? b = some o) : HOk Pr w (offT H) h' := by
  obtain ⟨ps, hP⟩ := hP
  have ne : ∀ b o, H b = some o → (∀ ps, o ≠ .tbl ps) → b ≠ P := fun b o e n z => by
    rw [z, hP] at e
    exact n ps (Option.some.inj e).symm
  intro a o e
  obtain ⟨e1, e2⟩ := of_offT e
  refine (ok a o e1).stay (fun b u hb q => k b u ?_ q) (fun b q => offT_some q (fun ps z => nomatch z)) fun b xs q => offT_some q (fun ps z => nomatch z)
  rcases hb with rfl | hb
  · exact ne _ o e1 e2
  · exact ne b _ hb (fun ps z => nomatch z)
/-- later in alive, alive a captured dict with tuple keys -/
theorem elt_in {P : Addr} {scope : Scope} {xa xb xd : Str} {p1 p2 p3 : Pos} {k : Nat} (hr : Room k X.A) (hk : scope.kind = .function) (hb : scope.names.lookup xb = some .local) (hd : scope.names.lookup xd = some .free) (hbd : (xb == ("__debug__" : Str)) = false) (hdd : (xd == ("__debug__" : Str)) = false) (hdc : (xd == ("__classdict__" : Str)) = false)
    (hm : behindInMarks .In (.Name xd p2) = false) (hcl : ∀ cells : List (Str × Addr), (cloFrom cells scope.names []).lookup xd = some ((cells.lookup xd).getD 0)) (hXd : X.env.kindOf xd = some .free ∨ X.env.kindOf xd = some .cell) {id : Nat} (hN : X.N[id]? = some xd)
    {pins : List (Addr × Obj)} {σ : L2.St} {s1 : Shared} {H1 : Hp} {zs : List (V × V)} {pb : V × V → Bool} (I : Inv X pins σ H1 s1) (hP : ∃ ps, H1 P = some (.tbl ps))
    {d : Addr} {kvs : List (List Key × V)} (hσ : σ[id]? = some (some (.ref d))) (hD : Rd H1 d (.dT kvs)) (hz : ∀ y ∈ zs, ∃ b kk, y.2 = .ref b ∧ H1 b = some (.tup (kk.map kV)) ∧ pb y = (valV kvs kk).isSome) :
    EltQ2 X P scope xa xb (.Compare (.Name xb p1) [.In] [.Name xd p2] p3) s1 pb zs := by
  intro code C A' E' y ua ub s₂ m₂ hy ra rb hA hDp hU hn hma hmb hk2
  obtain ⟨b, kk, eb, hb1, ep⟩ := hz y hy
  rw [eb] at rb
  cases (show ub = Value.ref b from rb)
  have ok2 := hok_off I.hok hP hk2
  have hD2 : Rd (offT H1) d (.dT kvs) := by
    rcases hD with q | ⟨o, q⟩
    · exact .inl (offT_some q (fun ps z => nomatch z))
    · exact .inr ⟨o, offT_some q (fun ps z => nomatch z)⟩
  have hb2 : offT H1 b = some (.tup (kk.map kV)) := offT_some hb1 (fun ps z => nomatch z)
  obtain ⟨_, hsys, xs, rel, dd⟩ := dt_rd ok2 hD2
  -- the captured name
  obtain ⟨m, _, hl⟩ := I.loc
  obtain ⟨u, ru, l⟩ := hl id xd (.ref d) hN hσ (by
    rcases hXd with q | q
    · exact .inr (.inr q)
    · exact .inr (.inl q))
  cases (show u = Value.ref d from ru)
  obtain ⟨c, hc, hcell⟩ : ∃ c, X.env.cells.lookup xd = some c ∧ s1.heap.IsCell c (some (.ref d)) := by
    rcases l with ⟨hk', _⟩ | ⟨_, c, hc, hcell⟩
    · rcases hXd with q | q
      · rw [q] at hk'
        cases hk'
      · rw [q] at hk'
        cases hk'
    · exact ⟨c, hc, hcell⟩
  have hcell2 : s₂.heap.IsCell c (some (.ref d)) := by
    obtain ⟨ps, hP⟩ := hP
    have hPs : s1.heap.get? P = some { cls := .none, data := .fields ps } := I.hok P _ hP
    obtain ⟨o, ho, hr'⟩ := hcell
    refine ⟨o, hk2 c o (fun z => ?_) ho, hr'⟩
    rw [z, hPs] at ho
    cases ho
    cases hr'
  refine wpAny_Compare1 ?_ hm
  refine wpAny_Name (wpAny_loadName_local hk hb hn hmb ?_) hbd
  refine wpAny_Name (wpAny_loadName_free (c := c) hk hd (by rw [show (genEnv scope (cloFrom X.env.cells scope.names []) C code builtinsNs X.env).cells = cloFrom X.env.cells scope.names [] from rfl, hcl, hc]; rfl) hcell2 ?_ hdc) hdd
  refine wpAny_in_heap (tupleKind_room_in1 (by have := hr.un; omega)) (key_of ok2 hb2) hsys dd ?_
  have q := (rel.val kk).isSome_eq
  rw [Option.isSome_map] at q
  rw [← q, ← ep]
  exact ⟨rfl, keeps_tok _ _⟩
end
end K64
/-! Rules that the hand layer lacks: dicts keyed by tuples of ints (display, dict(pairs), del), sorted of such tuples, enumerate of a tuple, == and in of lists of them. -/
namespace K64
open PySem PySem.Spec PyProof.Rows L2
/-! ### states as keys -/
def ik (s : List Int) : List Key := s.map Sum.inl
theorem ik_kV (s : List Int) : (ik s).map kV = s.map V.int := by
  unfold ik
  rw [List.map_map]
  rfl
theorem ik_inj : ∀ {a b : List Int}, ik a = ik b → a = b
  | [], [], _ => rfl
  | [], _ :: _, h => by cases h
  | _ :: _, [], h => by cases h
  | x :: a, y :: b, h => by
    have h1 : (Sum.inl x : Key) = Sum.inl y := (List.cons.inj h).1
    have h2 : ik a = ik b := (List.cons.inj h).2
    cases h1
    rw [ik_inj h2]
/-- a table over states, as the dict holds it -/
def dS (m : List (List Int × V)) : List (List Key × V) := m.map fun p => (ik p.1, p.2)
theorem dS_cons (p : List Int × V) (m : List (List Int × V)) : dS (p :: m) = (ik p.1, p.2) :: dS m := rfl
theorem valV_dS (s : List Int) : ∀ m : List (List Int × V), valV (dS m) (ik s) = valV m s
  | [] => rfl
  | p :: m => by
    rw [dS_cons]
    by_cases e : p.1 = s
    · rw [valV_pos e, valV_pos (show ik p.1 = ik s by rw [e])]
    · rw [valV_neg e, valV_neg (fun z => e (ik_inj z))]
      exact valV_dS s m
theorem any_dS (s : List Int) (m : List (List Int × V)) : ((dS m).any fun kv => decide (kv.1 = ik s)) = m.any fun kv => decide (kv.1 = s) := by
  rw [valV_any, valV_any, valV_dS]
theorem putK_dS (s : List Int) (v : V) (m : List (List Int × V)) : putK (dS m) (ik s) v = dS (putK m s v) := by
  unfold putK
  rw [any_dS]
  split
  · unfold dS
    rw [List.map_map, List.map_map]
    refine List.map_congr_left fun p _ => ?_
    show (if ik p.1 = ik s then (ik p.1, v) else (ik p.1, p.2)) = (ik (if p.1 = s then (p.1, v) else p).1, (if p.1 = s then (p.1, v) else p).2)
    by_cases e : p.1 = s
    · rw [if_pos e, if_pos (by rw [e])]
    · rw [if_neg e, if_neg (fun z => e (ik_inj z))]
  · unfold dS
    rw [List.map_append]
    rfl
theorem dropK_dS (s : List Int) : ∀ m : List (List Int × V), dropK (dS m) (ik s) = dS (dropK m s)
  | [] => rfl
  | p :: m => by
    rw [dS_cons]
    by_cases e : p.1 = s
    · rw [dropK_pos e, dropK_pos (show ik p.1 = ik s by rw [e])]
      exact dropK_dS s m
    · rw [dropK_neg e, dropK_neg (fun z => e (ik_inj z)), dS_cons, dropK_dS s m]
theorem dS_len (m : List (List Int × V)) : (dS m).length = m.length := List.length_map ..
theorem dS_get {m : List (List Int × V)} {i : Nat} {k : List Key} {v : V} (h : (dS m)[i]? = some (k, v)) : ∃ s, m[i]? = some (s, v) ∧ k = ik s := by
  unfold dS at h
  rw [List.getElem?_map] at h
  cases e : m[i]? with
  | none =>
    rw [e] at h
    cases h
  | some p =>
    rw [e] at h
    cases h
    exact ⟨p.1, rfl, rfl⟩
theorem valV_mem {κ : Type} [DecidableEq κ] {k : κ} {v : V} : ∀ {m : List (κ × V)}, valV m k = some v → (k, v) ∈ m
  | [], h => by cases h
  | p :: m, h => by
    by_cases e : p.1 = k
    · rw [valV_pos e] at h
      cases h
      rw [← e]
      exact List.mem_cons_self
    · rw [valV_neg e] at h
      exact List.mem_cons_of_mem _ (valV_mem h)
theorem valV_of_mem {κ : Type} [DecidableEq κ] {k : κ} {v : V} : ∀ {m : List (κ × V)}, (m.map (·.1)).Nodup → (k, v) ∈ m → valV m k = some v
  | [], _, h => by cases h
  | p :: m, hn, h => by
    have hn' := List.nodup_cons.mp hn
    rcases List.mem_cons.mp h with e | e
    · rw [← e]
      exact valV_pos rfl
    · have ne : ¬ p.1 = k := fun z => hn'.1 (List.mem_map.mpr ⟨(k, v), e, z.symm⟩)
      rw [valV_neg ne]
      exact valV_of_mem hn'.2 e
theorem valV_isSome {κ : Type} [DecidableEq κ] {k : κ} {m : List (κ × V)} : (valV m k).isSome = true ↔ k ∈ m.map (·.1) := by
  constructor
  · intro h
    obtain ⟨v, hv⟩ := Option.isSome_iff_exists.mp h
    exact valV_in hv
  · intro h
    cases e : valV m k with
    | none => exact absurd h (valV_not e)
    | some v => rfl
/-! ### KT without a key, storing new keys -/
theorem KT_wo {H : Hp} (k : List Key) : ∀ {kvs : List (List Key × V)} {xs : List (List Key × Addr × Value)}, KT H kvs xs → KT H (dropK kvs k) (withoutH xs k)
  | _, _, .nil => .nil
  | _, _, .cons (a := p) (b := q) (l₁ := kvs) (l₂ := xs) h t => by
    have ih := KT_wo k t
    by_cases e : p.1 = k
    · have e2 : q.1 = k := h.1 ▸ e
      rw [dropK_pos e, show withoutH (q :: xs) k = withoutH xs k from List.filter_cons_of_neg (by simp [e2])]
      exact ih
    · have e2 : ¬ q.1 = k := fun z => e (h.1.trans z)
      rw [dropK_neg e, show withoutH (q :: xs) k = q :: withoutH xs k from List.filter_cons_of_pos (by simp [e2])]
      exact .cons h ih
theorem atKey_some {H : Hp} {kvs : List (List Key × V)} {xs : List (List Key × Addr × Value)} (r : KT H kvs xs) {k : List Key} (h : (valV kvs k).isSome = true) : ∃ p, atKey xs k = some p := by
  have q := (r.val k).isSome_eq
  rw [h, Option.isSome_map] at q
  exact Option.isSome_iff_exists.mp q.symm
theorem stored_new : ∀ {ps acc : List (List Key × Addr × Value)}, ((acc ++ ps).map (·.1)).Nodup → storedAllH acc ps = acc ++ ps
  | [], acc, _ => (List.append_nil acc).symm
  | p :: ps, acc, h => by
    have hno : atKey acc p.1 = none := by
      unfold atKey
      rw [Option.map_eq_none_iff, List.find?_eq_none]
      intro x hx z
      have e : x.1 = p.1 := of_decide_eq_true z
      rw [List.map_append, List.nodup_append] at h
      exact h.2.2 x.1 (List.mem_map.mpr ⟨x, hx, rfl⟩) p.1 (List.mem_map.mpr ⟨p, List.mem_cons_self, rfl⟩) e
    have e1 : storedAllH acc (p :: ps) = storedAllH (acc ++ [p]) ps := by
      show List.foldl _ (storedH acc p.1 p.2.1 p.2.2) ps = _
      rw [storedH_new hno]
      rfl
    have e2 : acc ++ p :: ps = (acc ++ [p]) ++ ps := by simp
    rw [e1, e2]
    exact stored_new (by rw [← e2]; exact h)
section
variable {X : Cx} {pins : List (Addr × Obj)} {σ : L2.St} {H : Hp} {s : Shared}
/-- a dict with tuple keys at d, off the library's table -/
theorem dt_ok {Pr : Program} {w : World} {H' : Hp} {h' : Heap} {a : Addr} {kvs : List (List Key × V)} {xs : List (List Key × Addr × Value)} (z : kvs.length ≤ sizeLine) (hd : (a == sysModules) = false) (rel : KT H' kvs xs) (dd : h'.DictOfH (tupleKind (mixKind Pr w)) a xs) :
    ObjOk Pr w H' h' a (.dT kvs) := by
  obtain ⟨q, es, ep, hq, h2, h3, h4, _, h5⟩ := dd
  exact ⟨z, hd, _, rel, q, es, ep, hq, h2, h3, h4, h5⟩
/-! ### del d[k] -/
def sDDelT (td ty : TE) : TS := fun D σ H => td σ H fun x H1 => ty σ H1 fun y H2 => ∃ a kvs k b, x = .ref a ∧ H2 a = some (.dT kvs) ∧ y = .ref b ∧ H2 b = some (.tup (k.map kV)) ∧ (valV kvs k).isSome = true ∧ D.nx σ (upd H2 a (.dT (dropK kvs k)))
theorem ps_ddelT {o i : Expr} {pos tpos : Pos} {td ty : TE} (hu : X.A.units + 1 < cLine) (ho : PE X o td) (hi : PE X i ty) : PS X (.Delete [.Subscript o i tpos] pos) (sDDelT td ty) := by
  refine ⟨fun pins s σ H D I h => ?_⟩
  refine wpAny_Delete (wpAny_deleteEach_cons (wpAny_delete_Subscript (thn (ho.run pins s σ H _ I h) fun u s1 ⟨x, H1, I1, rx, q1⟩ => thn (hi.run pins s1 σ H1 _ I1 q1) fun iv s2 ⟨y, H2, I2, ry, a, kvs, k, b, ex, e, ey, eb, l, q2⟩ => ?_)))
  subst ex ey
  cases (show u = Value.ref a from rx)
  cases (show iv = Value.ref b from ry)
  obtain ⟨z, hd, xs, rel, dd⟩ := dt_of I2.hok e
  have hz : xs.length ≤ sizeLine := by rw [← Paired.length rel]; exact z
  obtain ⟨p, hp⟩ := atKey_some rel l
  refine wpAny_delItem_heap (hsz := hz) (tupleKind_room_in1 hu) (key_of I2.hok eb) hd dd hp fun h' dd' hs => wpAny_deleteEach_nil ⟨σ, _, ?_, q2⟩
  have he : ∃ q, h'.get? a = some q := let ⟨q, _, _, hq, _⟩ := dd'; ⟨q, hq⟩
  refine d_write I2 (by rw [e]; exact True.intro) hs he (dt_ok (Nat.le_trans (dropK_le kvs k) z) hd ((KT_wo k rel).keeps fun c ys ec => ?_) dd')
  rw [upd_ne (ne_of ec e (fun z => nomatch z))]
  exact ec
/-! ### dict(pairs), keys that differ -/
/-- the pairs of the list: a key's tuple, a value -/
def PrsT (H : Hp) : List Addr → List (List Key × Addr × V) → Prop := Paired fun t z => H t = some (.tup [.ref z.2.1, z.2.2]) ∧ H z.2.1 = some (.tup (z.1.map kV))
theorem prsT_get {H : Hp} : ∀ {ts : List Addr} {zs : List (List Key × Addr × V)} {j : Nat} {z : List Key × Addr × V}, PrsT H ts zs → zs[j]? = some z → ∃ t, ts[j]? = some t ∧ H t = some (.tup [.ref z.2.1, z.2.2]) ∧ H z.2.1 = some (.tup (z.1.map kV))
  | _, _, _, _, .nil, e => by simp at e
  | _, _, 0, _, .cons g _, e => by
    cases e
    exact ⟨_, rfl, g⟩
  | _, _, j + 1, _, .cons _ t, e => prsT_get (j := j) t e
/-- the raw pairs of it -/
theorem prsT_raw (I : Inv X pins σ H s) : ∀ {ts : List Addr} {zs : List (List Key × Addr × V)}, PrsT H ts zs → ∃ ps : List (List Key × Addr × Value), KT H (zs.map fun z => (z.1, z.2.2)) ps ∧ ps.length = zs.length ∧ ts.length = zs.length ∧ ps.map (·.1) = zs.map (·.1) ∧
    ∀ (j : Nat) (p : List Key × Addr × Value), ps[j]? = some p → ∃ t, ts[j]? = some t ∧ IsTup s.heap t #[.ref p.2.1, p.2.2] ∧ H t ≠ none ∧ H p.2.1 = some (.tup (p.1.map kV))
  | _, _, .nil => ⟨[], .nil, rfl, rfl, rfl, fun j p e => by simp at e⟩
  | _, _, .cons (a := t) (b := z) h r => by
    obtain ⟨ps, kt, hl, hl2, hk, hp⟩ := prsT_raw I r
    obtain ⟨its, rv, ht, _⟩ := I.tuple (SqT.of h.1)
    obtain ⟨u, y, ei, ru, ry⟩ := vals2 rv
    subst ei
    cases (show u = Value.ref z.2.1 from ru)
    refine ⟨(z.1, z.2.1, y) :: ps, .cons ⟨rfl, h.2, ry⟩ kt, by rw [List.length_cons, List.length_cons, hl], by rw [List.length_cons, List.length_cons, hl2], by rw [List.map_cons, List.map_cons, hk], fun j p e => ?_⟩
    cases j with
    | zero =>
      have e' : (z.1, z.2.1, y) = p := Option.some.inj e
      subst e'
      exact ⟨t, rfl, ht, (by rw [h.1]; intro q; cases q), h.2⟩
    | succ j =>
      obtain ⟨b, e1, e2, e3, e4⟩ := hp j p (by simpa using e)
      exact ⟨b, by simpa using e1, e2, e3, e4⟩
def rDictT (K : PySem.W.Frag) : List V → Hp → VK → Prop := fun xs H Q => ∃ (a : Addr) (ts : List Addr) (zs : List (List Key × Addr × V)), xs = [.ref a] ∧ SqL K H a (ts.map V.ref) ∧ PrsT H ts zs ∧ (zs.map (·.1)).Nodup ∧
  ∀ p, H p = none → Q (.ref p) (upd H p (.dT (zs.map fun z => (z.1, z.2.2))))
theorem call_dictT (hu : X.A.units + 8 < cLine) (hcalm : X.calm = true) : CallR X (.type "dict") (rDictT X.K) := by
  intro pins s σ H xs us Q I r q
  obtain ⟨a, ts, zs, rfl, hq, hp, hnd, q⟩ := q
  obtain ⟨u, rfl, rx⟩ := vals1 r
  cases (show u = Value.ref a from rx)
  obtain ⟨its, rv, pl, hz⟩ := I.list hq
  have ei := L2.refs_at rv
  subst ei
  rw [List.length_map] at hz
  obtain ⟨ps, kt, hl, hl2, hk, hpr⟩ := prsT_raw I hp
  obtain ⟨o, n, ho, hc, hd, hdat⟩ := pl
  have key : ∀ x ∈ ps, H x.2.1 = some (.tup (x.1.map kV)) := fun x hx => by
    obtain ⟨j, hj⟩ := List.getElem?_of_mem hx
    obtain ⟨t, _, _, _, e4⟩ := hpr j x hj
    exact e4
  refine call_dict_pairsH (knd := tupleKind (mixKind X.prog X.w)) (ps := ps) (PairArg.list a (ts.map Value.ref).toArray (fun j => (ts[j]?).getD 0) (ps.map fun p => (Value.ref p.2.1, p.2.2))) (I.ok.hd hcalm)
    (by show X.A.units + 2 < cLine; omega) ⟨⟨o, n, ho, hc, hd, hdat⟩, ?_, fun j k v e => ?_⟩ ⟨by rw [List.length_map], fun i k v e => ?_⟩ ?_ (by rw [List.length_map, hl, ← hl2]; exact hz) fun h' tk dd kk => ?_
  · rw [List.size_toArray, List.length_map, List.length_map, hl, hl2]
  · rw [List.getElem?_map] at e
    cases ep : ps[j]? with
    | none =>
      rw [ep] at e
      cases e
    | some p =>
      rw [ep] at e
      cases e
      obtain ⟨t, e1, e2, _, _⟩ := hpr j p ep
      have eT : (ts[j]?).getD 0 = t := by rw [e1]; rfl
      refine ⟨?_, .inl ?_⟩
      · rw [List.getElem?_toArray, List.getElem?_map, e1]
        show some (Value.ref t) = some (Value.ref ((ts[j]?).getD 0))
        rw [eT]
      · show s.heap.IsTuple ((ts[j]?).getD 0) _
        rw [eT]
        exact e2
  · rw [show (PairRel (ps.map fun p => (Value.ref p.2.1, p.2.2)) i k v) = ((ps.map fun p => (Value.ref p.2.1, p.2.2))[i]? = some (k, v)) from rfl, List.getElem?_map] at e
    cases ep : ps[i]? with
    | none =>
      rw [ep] at e
      cases e
    | some p =>
      rw [ep] at e
      cases e
      exact ⟨p.1, p.2.1, rfl, rfl⟩
  · intro h' k' x hx
    obtain ⟨o2, it2, n2, h2, h3⟩ := key_of I.hok (key x hx)
    have hlt : (x.2.1 : Nat) < s.heap.objs.size := Heap.lt_size h2
    exact ⟨o2, it2, n2, k' _ _ (Nat.ne_of_lt hlt) (fun z => by cases z) h2, h3⟩
  · rw [stored_new (by rw [List.nil_append, hk]; exact hnd), List.nil_append] at dd
    have hm : (s.heap.objs.size == sysModules) = false := beq_eq_false_iff_ne.mpr (Nat.ne_of_gt I.big)
    have hfree := I.hok.fresh (Nat.le_refl s.heap.objs.size)
    refine ⟨.ref s.heap.objs.size, _, I.laid (t' := tk) (fun b u e => kk b u (fun z => by cases z) e) (Nat.le_refl _) (dt_ok ?_ hm (kt.keeps fun c ys ec => ?_) dd), rfl, q _ hfree⟩
    · rw [List.length_map, ← hl2]
      exact hz
    · rw [upd_ne (ne_of_none ec hfree)]
      exact ec
end
end K64
/-! More rules: {t: v}, sorted(tuples of ints), enumerate(tuple), == and in of lists of such tuples. -/
namespace K64
open PySem PySem.Spec PyProof.Rows L2
section
variable {X : Cx}
/-! ### {k: v}, k a tuple -/
def tDispT1 (tk tv : TE) : TE := fun σ H Q => ∀ p, H p = none → tPairs [(tk, tv)] σ (upd H p (.dT [])) fun ps H2 => ∃ b kk y, ps = [(.ref b, y)] ∧ H2 p = some (.dT []) ∧ H2 b = some (.tup (kk.map kV)) ∧ Q (.ref p) (upd H2 p (.dT [(kk, y)]))
theorem pe_dispT1 {k v : Expr} {pos : Pos} {tk tv : TE} (hu : X.A.units + 8 < cLine) (hk : PE X k tk) (hv : PE X v tv) : PE X (.Dict [some k] [v] pos) (tDispT1 tk tv) := by
  refine ⟨fun pins s σ H Q I q => ?_⟩
  have hn := I.hok.fresh (Nat.le_refl s.heap.objs.size)
  have I1 := I.laid (a := s.heap.objs.size) (o := .dT []) (h' := s.heap.push { cls := .type "dict", data := .dict #[] }) (t' := s.toks) (fun _ _ q => Heap.get?_push_of_some _ q) (Nat.le_refl _) (dt_empty s.heap I.big)
  have q1 := q _ hn
  rw [arm_eval_Dict, zip_pairTrees [some k] [v] X.env pos rfl rfl, dictDisplay_pairs (pairTrees [some k] [v] X.env pos) (by intro z; cases z) (by show 1 < 17; decide)]
  refine wpAny_bind (wpAny_standAt (wpAny_bind (wpAny_subDictH (knd := tupleKind (mixKind X.prog X.w)) (Q := fun d s' => wpAny (model X.prog X.w) X.A (pure (Value.ref d)) (EP X pins σ Q) X.xe s') (by show X.A.units < cLine; omega) (by show 1 ≤ 15; decide) ?_)))
  refine thn ((pps_cons hk hv pps_nil).run pins _ σ _ _ I1 q1) fun ws s2 ⟨ps, H2, I2, rel, b, kk, y, ep, e, eb, q2⟩ => ?_
  · subst ep
    obtain ⟨⟨u, w'⟩, rfl, ru, rw'⟩ : ∃ p : Value × Value, ws = [p] ∧ RelV (.ref b) p.1 ∧ RelV y p.2 := by
      cases rel with
      | cons h t =>
        cases t
        exact ⟨_, rfl, h.1, h.2⟩
    cases (show u = Value.ref b from ru)
    obtain ⟨z, hd, xs, r0, dd⟩ := dt_of I2.hok e
    cases r0
    refine ⟨[(kk, b, w')], ⟨rfl, rfl, key_of I2.hok eb, True.intro⟩, dd, fun h' tk dd' hs => wpAny_pure ⟨.ref s.heap.objs.size, _, ?_, rfl, q2⟩⟩
    have he : ∃ q, h'.get? s.heap.objs.size = some q := let ⟨q, _, _, hq, _⟩ := dd'; ⟨q, hq⟩
    have dd2 : h'.DictOfH (tupleKind (mixKind X.prog X.w)) s.heap.objs.size [(kk, b, w')] := dd'
    have nb : b ≠ s.heap.objs.size := ne_of eb e (fun z => nomatch z)
    refine d_write I2 (by rw [e]; exact True.intro) hs he (dt_ok (by show 1 ≤ sizeLine; decide) hd (.cons ⟨rfl, ?_, rw'⟩ .nil) dd2)
    rw [upd_ne nb]
    exact eb
/-! ### lists of tuples of ints -/
/-- the tuples at bs hold ss -/
def Tps (H : Hp) : List Addr → List (List Int) → Prop := Paired fun b s => H b = some (.tup (s.map V.int))
theorem Tps.len {H : Hp} : ∀ {bs : List Addr} {ss : List (List Int)}, Tps H bs ss → bs.length = ss.length
  | _, _, .nil => rfl
  | _, _, .cons _ t => congrArg Nat.succ (Tps.len t)
theorem Tps.imp {H H' : Hp} : ∀ {bs : List Addr} {ss : List (List Int)}, Tps H bs ss → (∀ (b : Addr) (s : List Int), H b = some (.tup (s.map V.int)) → H' b = some (.tup (s.map V.int))) → Tps H' bs ss
  | _, _, .nil, _ => .nil
  | _, _, .cons g t, k => .cons (k _ _ g) (Tps.imp t k)
theorem Tps.get {H : Hp} : ∀ {bs : List Addr} {ss : List (List Int)} {i : Nat} {b : Addr}, Tps H bs ss → bs[i]? = some b → ∃ s, ss[i]? = some s ∧ H b = some (.tup (s.map V.int))
  | _, _, _, _, .nil, e => by simp at e
  | _, _, 0, _, .cons g _, e => by
    cases e
    exact ⟨_, rfl, g⟩
  | _, _, i + 1, _, .cons _ t, e => Tps.get (i := i) t e
theorem Tps.get2 {H : Hp} : ∀ {bs : List Addr} {ss : List (List Int)} {i : Nat} {s : List Int}, Tps H bs ss → ss[i]? = some s → ∃ b, bs[i]? = some b ∧ H b = some (.tup (s.map V.int))
  | _, _, _, _, .nil, e => by simp at e
  | _, _, 0, _, .cons g _, e => by
    cases e
    exact ⟨_, rfl, g⟩
  | _, _, i + 1, _, .cons _ t, e => Tps.get2 (i := i) t e
theorem Tps.app {H : Hp} : ∀ {bs cs : List Addr} {ss rs : List (List Int)}, Tps H bs ss → Tps H cs rs → Tps H (bs ++ cs) (ss ++ rs)
  | _, _, _, _, .nil, h => h
  | _, _, _, _, .cons g t, h => .cons g (Tps.app t h)
theorem Tps.snoc {H : Hp} {bs : List Addr} {ss : List (List Int)} {b : Addr} {s : List Int} (h : Tps H bs ss) (e : H b = some (.tup (s.map V.int))) : Tps H (bs ++ [b]) (ss ++ [s]) := h.app (.cons e .nil)
theorem Tps.take {H : Hp} : ∀ (n : Nat) {bs : List Addr} {ss : List (List Int)}, Tps H bs ss → Tps H (bs.take n) (ss.take n)
  | 0, _, _, _ => by
    rw [List.take_zero, List.take_zero]
    exact .nil
  | n + 1, _, _, .nil => .nil
  | n + 1, _, _, .cons g t => .cons g (Tps.take n t)
theorem int_inj : ∀ {a b : List Int}, a.map V.int = b.map V.int → a = b
  | [], [], _ => rfl
  | [], _ :: _, h => by cases h
  | _ :: _, [], h => by cases h
  | x :: a, y :: b, h => by
    have h1 : V.int x = V.int y := (List.cons.inj h).1
    cases h1
    rw [int_inj (List.cons.inj h).2]
theorem tup_inj {H : Hp} {b : Addr} {s r : List Int} (h : H b = some (.tup (s.map V.int))) (h' : H b = some (.tup (r.map V.int))) : s = r := by
  rw [h] at h'
  exact int_inj (HO.tup.inj (Option.some.inj h'))
/-- as data -/
def iD (s : List Int) : PyData := .tuple (s.map PyData.int)
theorem dpAll_ints (K : PySem.W.Frag) (H : Hp) : ∀ s : List Int, DpAll K H (s.map V.int) (s.map PyData.int)
  | [] => .nil
  | x :: s => .cons (.int x) (dpAll_ints K H s)
theorem dp_tup {K : PySem.W.Frag} {H : Hp} {b : Addr} {s : List Int} (h : H b = some (.tup (s.map V.int))) : Dp K H (.ref b) (iD s) := .tup (SqT.of h) (dpAll_ints K H s)
theorem dpAll_tps {K : PySem.W.Frag} {H : Hp} : ∀ {bs : List Addr} {ss : List (List Int)}, Tps H bs ss → DpAll K H (bs.map V.ref) (ss.map iD)
  | _, _, .nil => .nil
  | _, _, .cons g t => .cons (dp_tup g) (dpAll_tps t)
theorem dp_tps {K : PySem.W.Frag} {H : Hp} {l : Addr} {bs : List Addr} {ss : List (List Int)} (hl : SqL K H l (bs.map V.ref)) (h : Tps H bs ss) : Dp K H (.ref l) (.list (ss.map iD)) := .lst hl (dpAll_tps h)
theorem lay_ints : ∀ s : List Int, PyData.canLayAll0 (s.map PyData.int) = true
  | [] => rfl
  | x :: s => by
    show (PyData.canLay0 (.int x) && PyData.canLayAll0 (s.map PyData.int)) = true
    rw [lay_ints s]
    rfl
theorem depth_is : ∀ s : List Int, PyData.depthAll (s.map PyData.int) = 0
  | [] => rfl
  | x :: s => by
    show max (PyData.depth (.int x)) (PyData.depthAll (s.map PyData.int)) = 0
    rw [depth_is s]
    rfl
theorem lay_iD (s : List Int) : (iD s).canLay0 = true := lay_ints s
theorem depth_iD (s : List Int) : (iD s).depth = 1 := by
  show PyData.depthAll (s.map PyData.int) + 1 = 1
  rw [depth_is]
theorem lay_iDs : ∀ ss : List (List Int), PyData.canLayAll0 (ss.map iD) = true
  | [] => rfl
  | s :: ss => by
    show ((iD s).canLay0 && PyData.canLayAll0 (ss.map iD)) = true
    rw [lay_iD, lay_iDs ss]
    rfl
theorem depth_iDs : ∀ ss : List (List Int), PyData.depthAll (ss.map iD) ≤ 1
  | [] => Nat.zero_le _
  | s :: ss => by
    show max (iD s).depth (PyData.depthAll (ss.map iD)) ≤ 1
    rw [depth_iD]
    have := depth_iDs ss
    omega
theorem shaped_iD (s : List Int) : SeqAt.shaped (iD s) = true := by
  unfold SeqAt.shaped
  rw [lay_iD, depth_iD]
  rfl
theorem shaped_iDs (ss : List (List Int)) : SeqAt.shaped (.list (ss.map iD)) = true := by
  unfold SeqAt.shaped
  rw [show (PyData.list (ss.map iD)).canLay0 = PyData.canLayAll0 (ss.map iD) from rfl, lay_iDs, Bool.true_and]
  refine decide_eq_true ?_
  show PyData.depthAll (ss.map iD) + 1 ≤ 64
  have := depth_iDs ss
  omega
theorem shaped_ints (s : List Int) : SeqAt.shaped (.list (s.map PyData.int)) = true := by
  unfold SeqAt.shaped
  rw [show (PyData.list (s.map PyData.int)).canLay0 = PyData.canLayAll0 (s.map PyData.int) from rfl, lay_ints, Bool.true_and]
  refine decide_eq_true ?_
  show PyData.depthAll (s.map PyData.int) + 1 ≤ 64
  rw [depth_is]
  decide
theorem eqv_ints : ∀ s r : List Int, PyData.eqvAll (s.map PyData.int) (r.map PyData.int) = decide (s = r)
  | [], [] => rfl
  | [], _ :: _ => rfl
  | _ :: _, [] => rfl
  | x :: s, y :: r => by
    show ((x == y) && PyData.eqvAll (s.map PyData.int) (r.map PyData.int)) = decide (x :: s = y :: r)
    rw [eqv_ints s r]
    by_cases e : x = y
    · by_cases e2 : s = r
      · rw [e, e2, decide_eq_true rfl, decide_eq_true rfl]
        simp
      · rw [decide_eq_false e2, decide_eq_false (fun z => e2 (List.cons.inj z).2), Bool.and_false]
    · rw [show (x == y) = false from beq_eq_false_iff_ne.mpr e, decide_eq_false (fun z => e (List.cons.inj z).1), Bool.false_and]
theorem eqv_iD (s r : List Int) : PyData.eqv (iD s) (iD r) = decide (s = r) := eqv_ints s r
theorem any_iD (s : List Int) : ∀ ss : List (List Int), ((ss.map iD).any fun z => PyData.eqv z (iD s)) = decide (s ∈ ss)
  | [] => rfl
  | r :: ss => by
    rw [List.map_cons, List.any_cons, any_iD s ss, eqv_iD]
    by_cases e : r = s
    · subst e
      rw [decide_eq_true rfl, decide_eq_true List.mem_cons_self, Bool.true_or]
    · rw [decide_eq_false e, Bool.false_or]
      by_cases e2 : s ∈ ss
      · rw [decide_eq_true e2, decide_eq_true (List.mem_cons_of_mem _ e2)]
      · rw [decide_eq_false e2, decide_eq_false (fun z => (List.mem_cons.mp z).elim (fun q => e q.symm) e2)]
theorem eqv_nil (ds : List PyData) : PyData.eqv (.list ds) (.list []) = ds.isEmpty := by
  cases ds with
  | nil => rfl
  | cons d ds => rfl
/-- xs == [], xs a list of ints, of tuples of ints -/
theorem isEmpty_map {α β : Type} (f : α → β) (l : List α) : (l.map f).isEmpty = l.isEmpty := by
  cases l with
  | nil => rfl
  | cons _ _ => rfl
/-! ### sorted(xs), tuples of ints, any number -/
def enT (z : Addr × List Int) : PyData := iD z.2
theorem tps_zip {H : Hp} : ∀ {bs : List Addr} {ss : List (List Int)}, Tps H bs ss → ∃ zs : List (Addr × List Int), zs.map (·.1) = bs ∧ zs.map (·.2) = ss ∧ ∀ z ∈ zs, H z.1 = some (.tup (z.2.map V.int))
  | _, _, .nil => ⟨[], rfl, rfl, fun z hz => by cases hz⟩
  | _, _, .cons (a := b) (b := s) g t => by
    obtain ⟨zs, e1, e2, h⟩ := tps_zip t
    refine ⟨(b, s) :: zs, by rw [List.map_cons, e1], by rw [List.map_cons, e2], fun z hz => ?_⟩
    rcases List.mem_cons.mp hz with q | q
    · rw [q]
      exact g
    · exact h z q
theorem zip_tps {H : Hp} : ∀ {zs : List (Addr × List Int)}, (∀ z ∈ zs, H z.1 = some (.tup (z.2.map V.int))) → Tps H (zs.map (·.1)) (zs.map (·.2))
  | [], _ => .nil
  | z :: zs, h => .cons (h z List.mem_cons_self) (zip_tps fun y hy => h y (List.mem_cons_of_mem _ hy))
theorem eachIs_of {R : Value → Addr × List Int → Prop} : ∀ {zs : List (Addr × List Int)}, (∀ z ∈ zs, R (.ref z.1) z) → PySem.W.EachIs R ((zs.map (·.1)).map Value.ref) zs
  | [], _ => .nil
  | z :: zs, h => .cons (h z List.mem_cons_self) (eachIs_of fun y hy => h y (List.mem_cons_of_mem _ hy))
theorem eachIs_refs : ∀ {vs : List Value} {zs : List (Addr × List Int)}, PySem.W.EachIs (fun v z => v = Value.ref z.1) vs zs → vs = (zs.map (·.1)).map Value.ref
  | _, _, .nil => rfl
  | _, _, .cons h t => by
    rw [h, eachIs_refs t]
    rfl
def rSortedT (K : PySem.W.Frag) : List V → Hp → VK → Prop := fun vs H Q => ∃ (a : Addr) (bs : List Addr) (ss : List (List Int)), vs = [.ref a] ∧ SqL K H a (bs.map V.ref) ∧ Tps H bs ss ∧ (∀ s ∈ ss, s ≠ []) ∧
  ∀ (p : Addr) (cs : List Addr) (rs : List (List Int)), H p = none → Tps H cs rs → rs.Perm ss → Q (.ref p) (upd H p (.lst (cs.map V.ref)))
theorem cr_sortedT (hu : X.A.units + 8 < cLine) : CallR X (.builtin "sorted") (rSortedT X.K) := by
  intro pins s σ H xs us Q I r h
  obtain ⟨a, bs, ss, rfl, hL, hT, hne, q⟩ := h
  obtain ⟨u, rfl, rx⟩ := vals1 r
  cases (show u = Value.ref a from rx)
  obtain ⟨zs, rfl, rfl, hz⟩ := tps_zip hT
  obtain ⟨its, rv, pl, hlen⟩ := I.list hL
  have ei := L2.refs_at rv
  subst ei
  rw [List.length_map, List.length_map] at hlen
  obtain ⟨o, n, ho, hc, hd, hdat⟩ := pl
  have isl : s.heap.IsList a ((zs.map (·.1)).map Value.ref).toArray := ⟨o, ho, hc, n, hdat⟩
  refine PySem.W.sorted_data (R := fun v z => v = Value.ref z.1) (enc := enT) (bs := zs) isl (eachIs_of fun z _ => rfl) (eachIs_of fun z hzm => Dp.reads I _ _ _ (dp_tup (K := X.K) (hz z hzm)) rfl) (fun d hd' d' hd2 => ?_) (.inl fun d hd' => ?_) hlen (fun z hzm => ?_) fun out hol heo => ?_
  · obtain ⟨z1, _, rfl⟩ := List.mem_map.mp hd'
    obtain ⟨z2, _, rfl⟩ := List.mem_map.mp hd2
    exact PySem.W.alike_ints z1.2 z2.2
  · obtain ⟨z1, h1, rfl⟩ := List.mem_map.mp hd'
    have hn := hne z1.2 (List.mem_map.mpr ⟨z1, h1, rfl⟩)
    cases e : z1.2 with
    | nil => exact absurd e hn
    | cons y r =>
      refine ⟨.int y, r.map PyData.int, ?_⟩
      show iD z1.2 = _
      rw [e]
      rfl
  · rw [show (enT z).depth = 1 from depth_iD z.2]
    omega
  · have eo := eachIs_refs heo
    subst eo
    obtain ⟨c, hc2⟩ := sortedAll_at s.heap ((zs.map (·.1)).map Value.ref) (((zs.mergeSort (PySem.W.dataLe false enT)).map (·.1)).map Value.ref).toArray
    have hsz : H (s.heap.objs.size + 1) = none := I.hok.fresh (Nat.le_succ _)
    have hp : (zs.mergeSort (PySem.W.dataLe false enT)).Perm zs := List.mergeSort_perm _ _
    have hl2 : (zs.mergeSort (PySem.W.dataLe false enT)).length = zs.length := hp.length_eq
    refine ⟨.ref (s.heap.objs.size + 1), _, I.laid (a := s.heap.objs.size + 1) (o := .lst (((zs.mergeSort (PySem.W.dataLe false enT)).map (·.1)).map V.ref)) (t' := s.toks) (fun b u e => sortedAll_old e) (Nat.le_succ _) ⟨?_, _, c, vals_refs _, hc2⟩, rfl, q _ _ _ hsz (zip_tps fun z hzm => hz z (hp.mem_iff.mp hzm)) (hp.map _)⟩
    rw [List.length_map, List.length_map, hl2]
    exact hlen
end
end K64
/-! for i, x in enumerate(t), t a tuple -/
namespace K64
open PySem PySem.Spec PyProof.Rows L2
abbrev tupIt (t : Addr) : Obj := { cls := .type "tuple_iterator", data := .fields #[.ref t, .int 0 0] }
theorem meets_enumT (t : Addr) (items : Array Value) :
    Meets (Builtin.«enumerate.__new__» ⟨[.type "enumerate", .ref t], []⟩) (fun _ R s => s.heap.IsTuple t items ∧
      R (.ok (.ret (.ref (s.heap.push (tupIt t)).objs.size))) { s with heap := (s.heap.push (tupIt t)).push { cls := .type "enumerate", data := .fields #[.none, .bool false, .ref s.heap.objs.size, rawInt 0, .none, .none] } }) :=
  .of_wp fun prog w A R s h => by
    obtain ⟨hp, gs, dr, tk, os⟩ := s
    obtain ⟨ht, h⟩ := h
    have hsub := sub_enumerate
    have go : ∀ {A' : Around} {E : Value → Shared → Prop} {Q : Value → Shared → Prop}, Q (.ref hp.objs.size) ⟨hp.push (tupIt t), gs, dr, tk, os⟩ → wpAny (model prog w) A' (pyIter (.ref t)) Q E ⟨hp, gs, dr, tk, os⟩ := fun q => wpAny_pyIter_tuple (s := ⟨hp, gs, dr, tk, os⟩) ht q
    wp_walk using go
    refine wpAny_stack_any fun now => wpAny_pure ?_
    split
    · rename_i cl _ _ _ _ _
      cases (cl == Value.type "enumerate") <;> (wp_walk using go; exact ⟨_, rfl, h⟩)
    · wp_walk using go
      exact ⟨_, rfl, h⟩
theorem call_enumT {prog : Program} {w : World} {A : Around} {E : Value → Shared → Prop} {s : Shared} {t : Addr} {items : Array Value} {Q : Value → Shared → Prop} (ht : s.heap.IsTuple t items)
    (h : ∀ h', IsEnum h' (s.heap.objs.size + 1) s.heap.objs.size 0 .none → h'.IsTupleIter s.heap.objs.size t 0 → (∀ b o, s.heap.get? b = some o → h'.get? b = some o) → Q (.ref (s.heap.objs.size + 1)) { s with heap := h' }) :
    wpAny (model prog w) A (call (.type "enumerate") [.ref t]) Q E s := by
  refine callType_new F.called_enumerate (by decide) (F.typeCall_enumerate_1 _) (F.newCall_enumerate_1 _) (fun obj => F.args_object_init_2 obj _) F.entry_enumerate_new (meets_enumT t items) ⟨ht, ?_⟩
  have hsz : (s.heap.push (tupIt t)).objs.size = s.heap.objs.size + 1 := Heap.size_push ..
  have e1 := Heap.get?_push_size (s.heap.push (tupIt t)) (o := { cls := .type "enumerate", data := .fields #[.none, .bool false, .ref s.heap.objs.size, rawInt 0, .none, .none] }) rfl
  rw [hsz] at e1
  have e2 : ((s.heap.push (tupIt t)).push { cls := .type "enumerate", data := .fields #[.none, .bool false, .ref s.heap.objs.size, rawInt 0, .none, .none] }).get? s.heap.objs.size = some (tupIt t) := Heap.get?_push_of_some _ (Heap.get?_push_size _ rfl)
  show _ ∧ _
  rw [hsz]
  exact ⟨⟨_, e1, rfl⟩, h _ e1 ⟨_, e2, rfl, rfl⟩ fun b o q => Heap.get?_push_of_some _ (Heap.get?_push_of_some _ q)⟩
/-- the tuple at a, each item in a newT pair -/
def Itet (K : PySem.W.Frag) (a : Addr) : It :=
  ⟨fun i H => ∃ (xs : List V) (x : V), SqT K H a xs ∧ xs[i]? = some x, fun i H v H' => ∃ T x, v = .ref T ∧ H T = none ∧ H' = upd H T (.tup [.int (i : Nat), x]) ∧ ∀ xs, SqT K H a xs → xs[i]? = some x, fun i H => ∃ xs : List V, SqT K H a xs ∧ xs.length = i⟩
theorem apart_cls {h : Heap} {a b : Addr} {o u : Obj} (h1 : h.get? a = some o) (h2 : h.get? b = some u) (hc : o.cls ≠ u.cls) : a ≠ b := fun e => by
  rw [e, h2] at h1
  cases h1
  exact hc rfl
theorem turn_enumT {P : Program} {w : World} {K : PySem.W.Frag} {elts : List Expr} {kk : Nat} {tpos : Pos} (a e it : Addr) :
    Turn P w K (.Tuple elts kk tpos) (Itet K a) [e, it] e (fun i h => (∃ old, IsEnum h e it ((i : Nat) : Int) old) ∧ h.IsTupleIter it a i ∧ e ≠ it) where
  mem := List.mem_cons_self
  obj := fun i h now b hb => by
    obtain ⟨⟨old, oldE⟩, ⟨o, ho, hc, hd⟩, _⟩ := now
    rcases List.mem_cons.mp hb with z | z
    · rw [z]
      exact ⟨_, oldE, fun v q => nomatch q⟩
    · rcases List.mem_cons.mp z with z | z
      · rw [z]
        exact ⟨o, ho, fun v q => by rw [hd] at q; cases q⟩
      · cases z
  keep := fun i h h' now k => by
    obtain ⟨⟨old, oldE⟩, ht, neE⟩ := now
    exact ⟨⟨old, k e List.mem_cons_self _ oldE⟩, ht.at fun o q => k it (List.mem_cons_of_mem _ List.mem_cons_self) o q, neE⟩
  item := by
    intro X hPr hWd hFr hc i pins s σ H E I hf now hg
    subst hPr hWd hFr
    obtain ⟨⟨old, oldE⟩, itE, neE⟩ := now
    obtain ⟨xs, x, hq, hx⟩ := hg
    obtain ⟨its, rv, tup, hsz⟩ := I.tuple hq
    obtain ⟨u, hu, rU⟩ := rv.get hx
    obtain ⟨ot, hot, hcls, nt, hdt⟩ := tup
    have hT : s.heap.IsTuple a its.toArray := ⟨ot, hot, hcls, nt, hdt⟩
    have hae : a ≠ e := apart_cls hot oldE (by rw [hcls]; exact fun z => absurd (Value.type.inj z) (by decide))
    have hait : a ≠ it := by
      obtain ⟨oi, hoi, hci, _⟩ := itE
      exact apart_cls hot hoi (by rw [hcls, hci]; exact fun z => absurd (Value.type.inj z) (by decide))
    have hel : (e : Nat) < s.heap.objs.size := Heap.lt_size oldE
    have hil : (it : Nat) < s.heap.objs.size := by
      obtain ⟨_, q, _⟩ := itE
      exact Heap.lt_size q
    have hlt : i < its.toArray.size := by
      have := (List.getElem?_eq_some_iff.mp hu).1
      rw [List.size_toArray]
      exact this
    have D := Draws.tuple (prog := X.prog) (w := X.w) (A := X.A.in1) (I.ok.hd hc) it a hait its.toArray
    refine wpAny_pyNext_enum_itemD D oldE ⟨itE, hT⟩ hlt neE (fun z => ?_) fun y h' tk hy ho hit' hT' hsz kp => ?_
    · rcases List.mem_cons.mp z with z | z
      · exact neE z
      · rcases List.mem_cons.mp z with z | z
        · exact hae z.symm
        · cases z
    · have ey : u = y := by
        rw [List.getElem?_toArray, hu] at hy
        exact Option.some.inj hy
      subst ey
      refine ⟨_, rfl, wpAny_letOwnedTupleGo_enum (s := { s with heap := h', toks := tk + 1 }) ho fun h'' he' sb => ?_⟩
      have hT2 : h''.get? s.heap.objs.size = some { cls := .type "tuple", data := .seq #[.int i tk, u] } := (sb.2 _ (Nat.ne_of_gt hel)).trans hT'
      have newT : ObjOk X.prog X.w (upd H s.heap.objs.size (.tup [.int (i : Nat), x])) h'' s.heap.objs.size (.tup [.int (i : Nat), x]) :=
        ⟨by show 2 ≤ sizeLine; decide, [.int i tk, u], .cons ⟨_, rfl⟩ (.cons rU .nil), ⟨_, hT2, rfl, _, rfl⟩⟩
      have I1 : Inv X pins σ (upd H s.heap.objs.size (.tup [.int (i : Nat), x])) { s with heap := h'', toks := tk + 1 } := by
        refine I.turnedNew (ch := [e, it]) (fun b ob hb q => ?_) hf (Nat.le_refl _) newT
        have n1 : b ≠ e := fun z => hb (by rw [z]; exact List.mem_cons_self)
        have n2 : b ≠ it := fun z => hb (by rw [z]; exact List.mem_cons_of_mem _ List.mem_cons_self)
        exact (sb.2 b n1).trans (kp b ob n1 n2 q)
      refine ⟨.ref s.heap.objs.size, _, I1, rfl, ⟨_, x, rfl, I.hok.fresh (Nat.le_refl _), rfl, fun ys hy => by rw [I.tuple_inj hy hq]; exact hx⟩, ⟨⟨u, ?_⟩, hit'.1.at fun o q => (sb.2 it (Ne.symm neE)).trans q, neE⟩, fun b hb => ?_⟩
      · rw [show ((i + 1 : Nat) : Int) = (i : Int) + 1 by omega]
        exact he'
      · have hb' : (b : Nat) < s.heap.objs.size := by
          rcases List.mem_cons.mp hb with z | z
          · rw [z]
            exact hel
          · rcases List.mem_cons.mp z with z | z
            · rw [z]
              exact hil
            · cases z
        rw [upd_ne (Nat.ne_of_lt hb')]
        exact (hf b hb).1
  done := by
    intro X hPr hWd hFr hc i pins s σ H E I hf now hg
    subst hPr hWd hFr
    obtain ⟨⟨old, oldE⟩, itE, neE⟩ := now
    obtain ⟨xs, hq, hx⟩ := hg
    obtain ⟨its, rv, tup, hsz⟩ := I.tuple hq
    obtain ⟨f0, f1, f2, f3, f4, f5⟩ := hf it (List.mem_cons_of_mem _ List.mem_cons_self)
    obtain ⟨ot, hot, hcls, nt, hdt⟩ := tup
    have hT : s.heap.IsTuple a its.toArray := ⟨ot, hot, hcls, nt, hdt⟩
    have hait : a ≠ it := by
      obtain ⟨oi, hoi, hci, _⟩ := itE
      exact apart_cls hot hoi (by rw [hcls, hci]; exact fun z => absurd (Value.type.inj z) (by decide))
    have hsi : i = its.toArray.size := by
      rw [List.size_toArray, ← rv.length]
      exact hx.symm
    subst hsi
    have D := Draws.tuple (prog := X.prog) (w := X.w) (A := X.A.in1) (I.ok.hd hc) it a hait its.toArray
    exact wpAny_pyNext_enum_endD D oldE ⟨itE, hT⟩ fun h' eb => ⟨rfl, I.turned (t' := s.toks) (fun b o hb q => eb b o hb q) f0 f1 f3 f4 f5⟩
  self := fun A i s Q E now h => let ⟨⟨_, oldE⟩, _⟩ := now; wpAny_pyIter_enum oldE h
def iEnumT (K : PySem.W.Frag) (ta : TA) : TI := fun σ H R => ta σ H fun vv H1 => ∃ a xs, vv = [.ref a] ∧ SqT K H1 a xs ∧ R (Itet K a) H1
theorem pi_enumT {X : Cx} {e : Expr} {ta : TA} {p pos tpos : Pos} {elts : List Expr} {kk : Nat} (hg : Gl X "enumerate") (hm : X.mg "enumerate" = none) (ha : PA X [e] ta) (hs : starEach [e] X.env = [(false, eval e X.env)] := by rfl) :
    PI X (.Tuple elts kk tpos) (.Call (.Name "enumerate" p) [e] [] pos) (iEnumT X.K ta) := by
  refine ⟨fun pins s σ H R I h => ?_⟩
  refine Call_ (ld_blt I hg hm boot_enumerate (PyProof.Rows.callWith_type1 (thn (ha.run pos pins s σ H _ I h) fun uu s1 ⟨vv, H1, I1, rx1, qx1⟩ => ?_) hs rfl))
  obtain ⟨a, xs, rfl, hq, q⟩ := qx1
  obtain ⟨u, rfl, rU⟩ := vals1 rx1
  cases (show u = Value.ref a from rU)
  obtain ⟨its, rv, tup, hsz⟩ := I1.tuple hq
  obtain ⟨ot, hot, hcls, nt, hdt⟩ := tup
  have hT : s1.heap.IsTuple a its.toArray := ⟨ot, hot, hcls, nt, hdt⟩
  refine call_enumT hT fun h' oldE itE kp => wpAny_pyIter_enum oldE ?_
  have IN : Inv X pins σ H1 { s1 with heap := h' } := I1.kept (t' := s1.toks) kp
  refine ⟨s1.heap.objs.size + 1, [s1.heap.objs.size + 1, s1.heap.objs.size], _, _, H1, rfl, IN, turn_enumT a (s1.heap.objs.size + 1) s1.heap.objs.size, ⟨⟨.none, oldE⟩, itE, Nat.succ_ne_self _⟩, fun b hb => ?_, q⟩
  have leB : s1.heap.objs.size ≤ b := by
    rcases List.mem_cons.mp hb with z | z
    · rw [z]
      exact Nat.le_succ _
    · rcases List.mem_cons.mp z with z | z
      · rw [z]
        exact Nat.le_refl _
      · cases z
  exact I1.fpOk leB (I1.hok.fresh leB)
/-- the loop's reading, the tuple known -/
theorem for_enumT {K : PySem.W.Frag} {a : Addr} {xs : List V} {g : TG} {tb : TS} {D : Ends} {σ : L2.St} {H : Hp} (Pv : Nat → L2.St → Hp → Prop) (h0 : Pv 0 σ H) (hl : ∀ i σ H, i ≤ xs.length → Pv i σ H → SqT K H a xs)
    (hs : ∀ (i : Nat) x σ H T, xs[i]? = some x → Pv i σ H → H T = none → g (.ref T) σ (upd H T (.tup [.int (i : Nat), x])) fun σ2 H2 => tb { D with nx := Pv (i + 1), ct := Pv (i + 1), bk := D.nx } σ2 H2) (hd : ∀ σ H, Pv xs.length σ H → D.nx σ H) :
    ∃ W : Nat → Nat → L2.St → Hp → Prop, (∃ m, W 0 m σ H) ∧ ∀ i m σ H, W i m σ H →
      ((Itet K a).stop i H ∧ D.nx σ H) ∨ ((Itet K a).go i H ∧ ∃ N : L2.St → Hp → Prop, (∀ σ' H', N σ' H' → ∃ m', m' < m ∧ W (i + 1) m' σ' H') ∧ ∀ x H', (Itet K a).yld i H x H' → g x σ H' fun σ2 H2 => tb { D with nx := N, ct := N, bk := D.nx } σ2 H2) := by
  refine ⟨fun i m σ H => i + m = xs.length ∧ Pv i σ H, ⟨xs.length, by omega, h0⟩, fun i m σ H hW => ?_⟩
  obtain ⟨em, hp⟩ := hW
  have hT := hl i σ H (by omega) hp
  by_cases hi : i < xs.length
  · have hx : xs[i]? = some xs[i] := List.getElem?_eq_getElem hi
    refine .inr ⟨⟨xs, _, hT, hx⟩, Pv (i + 1), fun σ' H' hN => ⟨m - 1, by omega, by omega, hN⟩, fun v H' hy => ?_⟩
    obtain ⟨T, x, rfl, hn, rfl, hall⟩ := hy
    have ex : xs[i]? = some x := hall xs hT
    exact hs i x σ H T ex hp hn
  · have e : i = xs.length := by omega
    subst e
    exact .inl ⟨⟨xs, hT, rfl⟩, hd σ H hp⟩
end K64
/-! Heaps: what stays but for the tables of code objects; defs whose code object is known. -/
namespace K64
open PySem PySem.Spec PyProof.Rows L2 GxR
/-- all but the tables stays -/
structure Kept (H H' : Hp) : Prop where
  at1 : ∀ b o, H b = some o → (∀ ps, o ≠ .tbl ps) → H' b = some o
  old : ∀ b, H b ≠ none → H' b ≠ none
theorem Kept.refl (H : Hp) : Kept H H := ⟨fun _ _ e _ => e, fun _ e => e⟩
theorem Kept.trans {H H1 H2 : Hp} (a : Kept H H1) (b : Kept H1 H2) : Kept H H2 := ⟨fun c o e n => b.at1 c o (a.at1 c o e n) n, fun c e => b.old c (a.old c e)⟩
theorem old_of {H H' : Hp} (h : ∀ b o, H b = some o → ∃ o', H' b = some o') : ∀ b, H b ≠ none → H' b ≠ none := fun b e z => by
  cases q : H b with
  | none => exact e q
  | some o =>
    obtain ⟨o', h'⟩ := h b o q
    rw [z] at h'
    cases h'
theorem Kept.of {H H' : Hp} (h : Same H H') : Kept H H' := ⟨fun b o e _ => h b o e, old_of fun b o e => ⟨o, h b o e⟩⟩
theorem Kept.tab {P : Addr} {H H' : Hp} (h : Tabbed P H H') (hP : TabG H P) : Kept H H' := by
  refine ⟨fun b o e n => ?_, old_of fun b o e => ?_⟩
  · obtain ⟨ps, hP, _⟩ := hP
    rw [h.2 b (fun z => by rw [z, hP] at e; exact n ps (Option.some.inj e).symm)]
    exact e
  · by_cases z : b = P
    · obtain ⟨ps, h1, _⟩ := h.1
      exact ⟨_, by rw [z]; exact h1⟩
    · exact ⟨o, by rw [h.2 b z]; exact e⟩
theorem Kept.tup {H H' : Hp} {b : Addr} {xs : List V} (k : Kept H H') (h : H b = some (.tup xs)) : H' b = some (.tup xs) := k.at1 b _ h (fun ps z => nomatch z)
theorem Kept.lst {H H' : Hp} {b : Addr} {xs : List V} (k : Kept H H') (h : H b = some (.lst xs)) : H' b = some (.lst xs) := k.at1 b _ h (fun ps z => nomatch z)
theorem Kept.dT {H H' : Hp} {b : Addr} {kvs : List (List Key × V)} (k : Kept H H') (h : H b = some (.dT kvs)) : H' b = some (.dT kvs) := k.at1 b _ h (fun ps z => nomatch z)
theorem Kept.frz {H H' : Hp} {b : Addr} {o : Obj} {u : HO} (k : Kept H H') (h : H b = some (.frz o u)) : H' b = some (.frz o u) := k.at1 b _ h (fun ps z => nomatch z)
theorem Kept.sqL {K : PySem.W.Frag} {H H' : Hp} {a : Addr} {xs : List V} (k : Kept H H') (h : SqL K H a xs) : SqL K H' a xs := by
  rcases h with (h | ⟨o, h⟩) | h
  · exact .inl (.inl (k.lst h))
  · exact .inl (.inr ⟨o, k.frz h⟩)
  · exact .inr h
theorem Kept.tps {H H' : Hp} {bs : List Addr} {ss : List (List Int)} (k : Kept H H') (h : Tps H bs ss) : Tps H' bs ss := h.imp fun b s e => k.tup e
theorem Kept.free {H H' : Hp} {b : Addr} (k : Kept H H') (h : H' b = none) : H b = none := Classical.byContradiction fun z => k.old b z h
theorem old_upd {H : Hp} {p : Addr} {o : HO} : ∀ b, H b ≠ none → (upd H p o) b ≠ none := fun b e z => by
  by_cases q : b = p
  · rw [q, upd_same] at z
    cases z
  · rw [upd_ne q] at z
    exact e z
/-- a new object -/
theorem kept_new {H : Hp} {p : Addr} {o : HO} (h : H p = none) : Kept H (upd H p o) := ⟨fun b u e _ => by
  rw [upd_ne (ne_of_none e h)]
  exact e, old_upd⟩
theorem tabG_new {H : Hp} {p P : Addr} {o : HO} (h : H p = none) (hP : TabG H P) : TabG (upd H p o) P := by
  obtain ⟨ps, hP, ht⟩ := hP
  exact ⟨ps, by rw [upd_ne (ne_of_none hP h)]; exact hP, ht⟩
theorem tabG_tab {P P' : Addr} {H H' : Hp} (h : Tabbed P H H') (hP : TabG H P') : TabG H' P' := by
  by_cases e : P' = P
  · rw [e]
    exact h.1
  · obtain ⟨ps, h1, h2⟩ := hP
    exact ⟨ps, by rw [h.2 P' e]; exact h1, h2⟩
/-- an object that is no table is written -/
theorem tabG_upd {H : Hp} {p P : Addr} {o u : HO} (h : H p = some u) (n : ∀ ps, u ≠ .tbl ps) (hP : TabG H P) : TabG (upd H p o) P := by
  obtain ⟨ps, hP, ht⟩ := hP
  exact ⟨ps, by rw [upd_ne (fun z => by rw [z, h] at hP; exact n ps (Option.some.inj hP))]; exact hP, ht⟩
/-- both tables -/
def Tabs2 (P1 P2 : Addr) (H : Hp) : Prop := TabG H P1 ∧ TabG H P2
theorem Tabs2.new {P1 P2 p : Addr} {H : Hp} {o : HO} (t : Tabs2 P1 P2 H) (h : H p = none) : Tabs2 P1 P2 (upd H p o) := ⟨tabG_new h t.1, tabG_new h t.2⟩
theorem Tabs2.upd {P1 P2 p : Addr} {H : Hp} {o u : HO} (t : Tabs2 P1 P2 H) (h : H p = some u) (n : ∀ ps, u ≠ .tbl ps) : Tabs2 P1 P2 (L2.upd H p o) := ⟨tabG_upd h n t.1, tabG_upd h n t.2⟩
theorem Tabs2.tab {P1 P2 P : Addr} {H H' : Hp} (t : Tabs2 P1 P2 H) (h : Tabbed P H H') : Tabs2 P1 P2 H' := ⟨tabG_tab h t.1, tabG_tab h t.2⟩
section
variable {P : Program} {w : World} {K : PySem.W.Frag} {mg : Str → Option Value} {base : Heap}
/-- a def whose code object stands at c -/
theorem okC {x qual : Str} {st : Stmt} {f c : Addr} {fd : FuncData} {N ps : List Str} {k : Nat} {sp : Sp} (F : Fun K x qual st f fd) (hc : fd.code = .ref c) (S : FnScope N ps (defScope st)) (len : ∀ vs H Q E, sp vs H Q E → vs.length = ps.length)
    (hbody : ∀ (A : Around) (outer : List Env) (s : Shared) (H : Hp) (vs : List V) (Q : VK) (E : XK), Room k (A.deeper (envOfC qual (defScope st) s.heap.objs.size f (.ref c))) → sp vs H Q E →
      ∃ t, PSs (cxOf CX0 P w K mg base N qual (defScope st) f (.ref c) A outer s H E).nox (defBody st) t ∧ t { nx := fun _ H' => Q .non H', rt := Q } (start N vs) H) : FnOk P w K mg base CX0 (k + 1) f fd ps sp := by
  obtain ⟨⟨oc, od, kV, doc, pm, an, cdv, ct, osl, rfl, lk, hcd⟩, kp⟩ := F
  cases (show cdv = Value.ref c from hc)
  exact fn_of lk hcd S len fun A outer s H vs Q E hr h => by
    obtain ⟨t, ht, hq⟩ := hbody A outer s H vs Q E hr h
    exact ⟨t, ht.nox, hq⟩
theorem fun_ofD {x qual : Str} {st : Stmt} {f : Addr} {fd : FuncData} (F : FunD K x qual (defArgs st) (defBody st) (defScope st) [] [] f fd) : Fun K x qual st f fd := by
  obtain ⟨⟨oc, od, dV, kV, doc, pm, an, cdv, ct, osl, e, lk, hcd, hd, _⟩, kp⟩ := F
  rcases hd with ⟨_, rfl⟩ | ⟨h, _⟩
  · exact ⟨⟨oc, od, kV, doc, pm, an, cdv, ct, osl, e, lk, hcd⟩, kp⟩
  · exact absurd rfl h
end
theorem hu8 {A : Around} {k : Nat} (hr : Room k A) : A.units + 8 < cLine := by
  have := hr.un
  omega
theorem hu65 {A : Around} {k : Nat} (hr : Room k A) : A.units + 65 < cLine := by
  have := hr.un
  omega
theorem bl_true {p : Prop} [Decidable p] (h : p) : V.bl (decide p) = V.bl true := by rw [decide_eq_true h]
theorem bl_false {p : Prop} [Decidable p] (h : ¬ p) : V.bl (decide p) = V.bl false := by rw [decide_eq_false h]
theorem ite_same {c A B : Prop} [Decidable c] (h1 : c → A) (h2 : ¬ c → B) : if c then A else B := by
  by_cases e : c
  · rw [if_pos e]
    exact h1 e
  · rw [if_neg e]
    exact h2 e
/-! ### need_distances -/
theorem all_inR {d : List Int} (h : ∀ x ∈ d, 1 ≤ x ∧ x ≤ 8) : (d.map V.int).all inR = true := by
  rw [List.all_eq_true]
  intro y hy
  obtain ⟨x, hx, rfl⟩ := List.mem_map.mp hy
  have := h x hx
  show (decide (1 ≤ x) && decide (x ≤ 8)) = true
  rw [decide_eq_true this.1, decide_eq_true this.2]
  rfl
def spNeed (P1 : Addr) : Sp := fun vs H Q _ => ∃ (a : Addr) (d : List Int), vs = [.ref a] ∧ H a = some (.tup (d.map V.int)) ∧ 1 ≤ d.length ∧ d.length ≤ 4 ∧ (∀ x ∈ d, 1 ≤ x ∧ x ≤ 8) ∧ TabG H P1 ∧ ∀ H', Tabbed P1 H H' → Q .non H'
/-- the names that the program's defs find -/
structure Nm (mg : Str → Option Value) : Prop where
  isinstance : mg "isinstance" = none
  tuple : mg "tuple" = none
  int : mg "int" = none
  bool : mg "bool" = none
  len : mg "len" = none
  all : mg "all" = none
  any : mg "any" = none
  range : mg "range" = none
  dict : mg "dict" = none
  enumerate : mg "enumerate" = none
  list : mg "list" = none
  sorted : mg "sorted" = none
  max : mg "max" = none
  min : mg "min" = none
  m4 : ∃ t, mg "MOST_DISTANCES" = some (.int 4 t)
  m8 : ∃ t, mg "MOST_DISTANCE" = some (.int 8 t)
section
variable {P : Program} {w : World} {K : PySem.W.Frag} {mg : Str → Option Value} {base : Heap}
theorem ok_need {f fI c P1 : Addr} {fd fdI : FuncData} (F : Fun K "need_distances" "need_distances" sNeed f fd) (hc : fd.code = .ref c) (TB : TabB base mg c P1) (FI : Fun K "is_in" "is_in" sIsIn fI fdI) (bI : L2.Binds K fdI ["value", "least", "most"] []) (gI : mg "is_in" = some (.ref fI)) (M : Nm mg) :
    FnOk P w K mg base CX0 2 f fd ["distances"] (spNeed P1) := by
  refine okC F hc scNeed (fun vs H Q E h => ?_) (fun A outer s H vs Q E hr h => ?_)
  · obtain ⟨a, d, rfl, _⟩ := h
    rfl
  · obtain ⟨a, d, rfl, ha, h1, h4, h8, hT, q⟩ := h
    obtain ⟨t4, g4⟩ := M.m4
    obtain ⟨t8, g8⟩ := M.m8
    refine ⟨_, pss_cons (ps_if (PW.pt (pw_or (pt_not (pt_val (pe_callB call_isi (by rfl) M.isinstance (by decide +kernel) (pa_cons (pv 0) (pa_cons (pe_bltn (v := .ty "tuple") (u := .type "tuple") (by rfl) M.tuple (by decide +kernel) rfl) pa_nil)))))
        (pw_or1 (pt_not (pt_chain op_le op_le pe_int (pe_callB call_len_seq (by rfl) M.len PySem.boot_len (pa_cons (pv 0) pa_nil)) (pe_glob (v := .int 4) (by rfl) g4 ⟨_, rfl⟩))))))
        (pss_one ps_never) pss_nil)
      (pss_one (ps_if (pt_not (pt_val (pe_allT (pb := inR) (ok := fun xs _ => ∃ ns : List Int, xs = ns.map V.int) hr (by rfl) M.all (by decide +kernel) TB rfl ⟨by decide +kernel, by decide +kernel, by decide +kernel, by decide +kernel, by decide +kernel, fun y hy e => absurd e ((by decide +kernel : ∀ y ∈ [((".0" : Str), NameKind.local), ("one", .local), ("is_in", .globalImplicit), ("MOST_DISTANCE", .globalImplicit)], y.2 ≠ NameKind.free) y hy)⟩ (pv 0)
          (fun pins σ s1 H1 xs I hP hx => by
            obtain ⟨ns, rfl⟩ := hx
            exact elt_isin FI bI gI g8 M.isinstance M.int M.bool hr (by decide +kernel) (by decide +kernel) (by decide +kernel) (by decide +kernel) (by decide) (fun env => rfl) I hP) (fun v => rfl))))
        (pss_one ps_never) pss_nil)), ?_⟩
    -- not isinstance(distances, tuple) or not 1 <= len(distances) <= MOST_DISTANCES
    refine ⟨.ref a, rfl, .ref a, .ty "tuple", .type "tuple", .type "tuple", true, rfl, .ty "tuple", .base (.tup ha), kit_ty (by decide +kernel), true, rfl, ?_⟩
    refine iteF ?_
    refine ⟨.ref a, rfl, a, d.map V.int, rfl, .inr (SqT.of ha), 1, _, rfl, rfl, true, ?_, ?_⟩
    · exact bl_true (by rw [List.length_map]; omega)
    refine iteT ⟨_, 4, rfl, rfl, true, ?_, ?_⟩
    · exact bl_true (by rw [List.length_map]; omega)
    refine iteF ?_
    -- not all(..)
    refine ⟨.ref a, rfl, a, d.map V.int, rfl, SqT.of ha, hT, ⟨d, rfl⟩, fun H2 h2 => ⟨_, rfl, ?_⟩⟩
    rw [all_inR h8]
    exact iteF (q H2 h2)
end
end K64
/-! served -/
namespace K64
open PySem PySem.Spec PyProof.Rows L2 GxR
theorem getD_get {s : List Int} {j : Nat} (h : j < s.length) : s[j]? = some (s.getD j 0) := by
  rw [List.getD_eq_getElem?_getD, List.getElem?_eq_getElem h]
  rfl
theorem int_at {s : List Int} {j : Nat} {x : V} (h : (s.map V.int)[j]? = some x) : j < s.length ∧ x = .int (s.getD j 0) := by
  have hj := (List.getElem?_eq_some_iff.mp h).1
  rw [List.length_map] at hj
  rw [List.getElem?_map, getD_get hj] at h
  exact ⟨hj, (Option.some.inj h).symm⟩
theorem nxt_at {d s : List Int} {i j : Nat} (h : j < s.length) : (nxt d s i)[j]? = some (if j = i then d.getD j 0 else s.getD j 0 - 1) := by
  rw [getD_get (by rw [nxt_len]; exact h), nxt_get h]
theorem take_at {α β : Type} {l : List α} {j : Nat} {x : α} (f : α → β) (h : l[j]? = some x) : (l.take j).map f ++ [f x] = (l.take (j + 1)).map f := by
  rw [List.take_add_one, h, List.map_append]
  rfl
theorem small_len {n : Nat} (h : n ≤ 100000) : n < sizeLine := Nat.lt_of_le_of_lt h (by decide)
def spServed : Sp := fun vs H Q _ => ∃ (a b : Addr) (d s : List Int) (i : Nat), vs = [.ref a, .ref b, .int i] ∧ H a = some (.tup (d.map V.int)) ∧ H b = some (.tup (s.map V.int)) ∧ s.length = d.length ∧ i < d.length ∧ d.length ≤ 1000 ∧
  (srv d s i = none → ∀ H', Same H H' → Q .non H') ∧ ∀ t, srv d s i = some t → ∀ H' p, Same H H' → H p = none → H' p = some (.tup (t.map V.int)) → Q (.ref p) H'
section
variable {P : Program} {w : World} {K : PySem.W.Frag} {mg : Str → Option Value} {base : Heap}
theorem ok_served {f : Addr} {fd : FuncData} (F : Fun K "served" "served" sServed f fd) (M : Nm mg) : FnOk P w K mg base CX0 1 f fd ["distances", "state", "index"] spServed := by
  refine F.ok scServed (fun vs H Q E h => ?_) (fun cdv A outer st0 H vs Q E hr h => ?_)
  · obtain ⟨a, b, d, s, i, rfl, _⟩ := h
    rfl
  · obtain ⟨a, b, d, s, i, rfl, ha, hb, hl, hi, hbig, q0, q1⟩ := h
    refine ⟨_, pss_cons (ps_set (i := 3) scServed.nd rfl (.inl rfl) (pe_lst pa_nil))
      (pss_cons (ps_for PassesOwn.never rfl (pi_enumT (by rfl) M.enumerate (pa_cons (pv 1) pa_nil)) (pg_tup rfl (pgs_cons (pg_name (i := 4) scServed.nd rfl (.inl rfl)) (pgs_cons (pg_name (i := 5) scServed.nd rfl (.inl rfl)) pgs_nil)))
        (pss_one (ps_if (pt_cmpR op_eq (pv 4) (pv 2) (nomark _))
          (pss_one (ps_expr (pe_bm PySem.F.plainAttrs_list PySem.F.slot_list_append PySem.F.type_list_append mt_append (pv 3) (pa_cons (pe_ix ix_tup (pv 0) (pv 4) (fun _ _ => rfl)) pa_nil))))
          (pss_one (ps_if (pt_cmpR op_eq (pv 5) pe_int (nomark _)) (pss_one (ps_ret pe_non))
            (pss_one (ps_expr (pe_bm PySem.F.plainAttrs_list PySem.F.slot_list_append PySem.F.type_list_append mt_append (pv 3) (pa_cons (pe_op op_sub (pv 5) pe_int) pa_nil)))))))))
      (pss_one (ps_ret (pe_callTy call_tuple_of (by rfl) M.tuple (by decide +kernel) (pa_cons (pv 3) pa_nil))))), ?_⟩
    refine ⟨Nat.zero_le _, fun o no => ?_⟩
    have s1 : Same H (upd H o (.lst [])) := fun c u e => by
      rw [upd_ne (ne_of_none e no)]
      exact e
    refine ⟨.ref b, rfl, b, s.map V.int, rfl, SqT.of (s1 _ _ hb), for_enumT (K := K) (a := b) (xs := s.map V.int) (fun j σ H' => ∃ y4 y5, σ = [some (.ref a), some (.ref b), some (.int i), some (.ref o), y4, y5] ∧ Same H H' ∧ H' o = some (.lst (((nxt d s i).take j).map V.int)) ∧ ∀ m, m < j → m ≠ i → s.getD m 0 ≠ 1)
      ⟨none, none, rfl, s1, ?_, fun m hm => absurd hm (Nat.not_lt_zero m)⟩ (fun j σ H' _ ⟨_, _, _, sm, _⟩ => SqT.of (sm _ _ hb)) ?_ ?_⟩
    · rw [upd_same]
      rfl
    · rintro j x σ H' T hx ⟨y4, y5, rfl, sm, eo, hno⟩ nT
      obtain ⟨hj, rfl⟩ := int_at hx
      have smT : Same H' (upd H' T (.tup [.int (j : Nat), .int (s.getD j 0)])) := fun c u e => by
        rw [upd_ne (ne_of_none e nT)]
        exact e
      have eo2 := smT _ _ eo
      have ha2 := smT _ _ (sm _ _ ha)
      -- k, left
      refine ⟨T, _, rfl, .inl (.inl upd_same), rfl, _, _, rfl, _, _, rfl, rfl, ?_⟩
      have smU : ∀ ys : List V, Same H (upd (upd H' T (.tup [.int (j : Nat), .int (s.getD j 0)])) o (.lst ys)) := fun ys c u e => by
        rw [upd_ne (ne_of_none e no)]
        exact smT _ _ (sm _ _ e)
      have hlen : (((nxt d s i).take j).map V.int).length < sizeLine := small_len (by rw [List.length_map, List.length_take, nxt_len]; omega)
      -- k == index
      refine ⟨_, rfl, _, rfl, rfl, _, rfl, ?_⟩
      refine ite_same (fun e => ?_) (fun e => ?_)
      · have ej : j = i := by
          have := V.int.inj (of_decide_eq_true e)
          omega
        refine ⟨_, rfl, .inl ⟨rfl, _, SqL.of eo2⟩, _, rfl, _, rfl, a, d.map V.int, _, .int (d.getD j 0), rfl, rfl, SqT.of ha2, atI_nat (by rw [List.getElem?_map, getD_get (by omega)]; rfl), o, _, _, rfl, rfl, eo2, hlen, _, _, rfl, smU _, ?_, fun m hm hne => ?_⟩
        · rw [upd_same]
          refine congrArg some (congrArg HO.lst ?_)
          refine take_at V.int ?_
          rw [nxt_at hj, if_pos ej]
        · exact hno m (by omega) hne
      · have ej : j ≠ i := fun z => e (decide_eq_true (by rw [z]))
        -- left == 1
        refine ⟨_, rfl, rfl, _, rfl, ?_⟩
        refine ite_same (fun e1 => ?_) (fun e1 => ?_)
        · have el : s.getD j 0 = 1 := V.int.inj (of_decide_eq_true e1)
          exact q0 (srv_no fun z => okS_iff.mp z j hj ej el) _ (fun c u e => smT _ _ (sm _ _ e))
        · have el : s.getD j 0 ≠ 1 := fun z => e1 (decide_eq_true (by rw [z]))
          refine ⟨_, rfl, .inl ⟨rfl, _, SqL.of eo2⟩, _, rfl, _, _, rfl, rfl, o, _, _, rfl, rfl, eo2, hlen, _, _, rfl, smU _, ?_, fun m hm hne => ?_⟩
          · rw [upd_same]
            refine congrArg some (congrArg HO.lst ?_)
            refine take_at V.int ?_
            rw [nxt_at hj, if_neg ej]
          · by_cases em : m = j
            · rw [em]
              exact el
            · exact hno m (by omega) hne
    · rintro σ H' ⟨y4, y5, rfl, sm, eo, hno⟩
      have et : ((nxt d s i).take (s.map V.int).length).map V.int = (nxt d s i).map V.int := by
        rw [List.take_of_length_le (by rw [nxt_len, List.length_map]; exact Nat.le_refl _)]
      rw [et] at eo
      have hok : srv d s i = some (nxt d s i) := srv_of (okS_iff.mpr fun m hm hne => hno m (by rw [List.length_map]; exact hm) hne)
      refine ⟨.ref o, rfl, o, _, rfl, .inl ⟨SqL.of eo, fun p np => ?_⟩⟩
      refine q1 _ hok _ p (fun c u e => ?_) (Same.free sm np) upd_same
      rw [upd_ne (ne_of_none (sm _ _ e) np)]
      exact sm _ _ e
end
end K64
/-! What alive_states holds: the dict of rows. -/
namespace K64
open PySem PySem.Spec PyProof.Rows L2 GxR
/-- tuples stay -/
def TupK (H H' : Hp) : Prop := ∀ b xs, H b = some (.tup xs) → H' b = some (.tup xs)
theorem TupK.refl (H : Hp) : TupK H H := fun _ _ e => e
theorem TupK.trans {H H1 H2 : Hp} (a : TupK H H1) (b : TupK H1 H2) : TupK H H2 := fun c xs e => b c xs (a c xs e)
theorem TupK.of {H H' : Hp} (k : Kept H H') : TupK H H' := fun b xs e => k.tup e
theorem tupK_new {H : Hp} {p : Addr} {o : HO} (h : H p = none) : TupK H (upd H p o) := fun b u e => by
  rw [upd_ne (ne_of_none e h)]
  exact e
theorem tupK_upd {H : Hp} {p : Addr} {o u : HO} (h : H p = some u) (n : ∀ xs, u ≠ .tup xs) : TupK H (upd H p o) := fun b xs e => by
  rw [upd_ne (fun z => by rw [z, h] at e; exact n xs (Option.some.inj e))]
  exact e
theorem TupK.tps {H H' : Hp} {bs : List Addr} {ss : List (List Int)} (k : TupK H H') (h : Tps H bs ss) : Tps H' bs ss := h.imp fun b s e => k b _ e
/-- keys and their rows -/
def mkR (ks : List (List Int)) (rows : List Int → Addr) : List (List Int × V) := ks.map fun s => (s, V.ref (rows s))
theorem mkR_keys (ks : List (List Int)) (rows : List Int → Addr) : (mkR ks rows).map (·.1) = ks := by
  unfold mkR
  rw [List.map_map]
  exact List.map_id _
theorem mkR_len (ks : List (List Int)) (rows : List Int → Addr) : (mkR ks rows).length = ks.length := List.length_map ..
theorem valV_map {κ : Type} [DecidableEq κ] {f : κ → V} {s : κ} : ∀ {ks : List κ}, s ∈ ks → valV (ks.map fun s => (s, f s)) s = some (f s)
  | [], h => by cases h
  | r :: ks, h => by
    by_cases e : r = s
    · rw [List.map_cons, valV_pos e]
      rw [e]
    · rw [List.map_cons, valV_neg e]
      exact valV_map ((List.mem_cons.mp h).elim (fun z => absurd z.symm e) id)
theorem valV_map_no {κ : Type} [DecidableEq κ] {f : κ → V} {s : κ} : ∀ {ks : List κ}, s ∉ ks → valV (ks.map fun s => (s, f s)) s = none
  | [], _ => rfl
  | r :: ks, h => by
    have e : ¬ r = s := fun z => h (by rw [z]; exact List.mem_cons_self)
    rw [List.map_cons, valV_neg e]
    exact valV_map_no fun z => h (List.mem_cons_of_mem _ z)
theorem valV_map_is (f : List Int → V) (s : List Int) (ks : List (List Int)) : (valV (ks.map fun s => (s, f s)) s).isSome = decide (s ∈ ks) := by
  by_cases h : s ∈ ks
  · rw [valV_map h, decide_eq_true h]
    rfl
  · rw [valV_map_no h, decide_eq_false h]
    rfl
theorem putK_map_new {κ : Type} [DecidableEq κ] {f : κ → V} {s : κ} {v : V} {ks : List κ} (h : s ∉ ks) (g : κ → V) (hg : g s = v) (hf : ∀ r ∈ ks, g r = f r) : putK (ks.map fun s => (s, f s)) s v = (ks ++ [s]).map fun s => (s, g s) := by
  rw [putK_new v (valV_map_no h), List.map_append, List.map_cons, List.map_nil, hg]
  refine congrArg (· ++ [(s, v)]) (List.map_congr_left fun r hr => ?_)
  rw [hf r hr]
/-- the row at l: pairs (index, state) -/
def Row (H : Hp) (l : Addr) (L : List (Nat × List Int)) : Prop := ∃ ts : List Addr, H l = some (.lst (ts.map V.ref)) ∧ Paired (fun (t : Addr) (z : Nat × List Int) => ∃ q, H t = some (.tup [.int (z.1 : Nat), .ref q]) ∧ H q = some (.tup (z.2.map V.int))) ts L
theorem rowP_imp {H H' : Hp} (k : TupK H H') : ∀ {ts : List Addr} {L : List (Nat × List Int)}, Paired (fun (t : Addr) (z : Nat × List Int) => ∃ q, H t = some (.tup [.int (z.1 : Nat), .ref q]) ∧ H q = some (.tup (z.2.map V.int))) ts L → Paired (fun (t : Addr) (z : Nat × List Int) => ∃ q, H' t = some (.tup [.int (z.1 : Nat), .ref q]) ∧ H' q = some (.tup (z.2.map V.int))) ts L
  | _, _, .nil => .nil
  | _, _, .cons ⟨q, h1, h2⟩ t => .cons ⟨q, k _ _ h1, k _ _ h2⟩ (rowP_imp k t)
theorem Row.imp {H H' : Hp} {l : Addr} {L : List (Nat × List Int)} (r : Row H l L) (k : TupK H H') (e : H' l = H l) : Row H' l L := by
  obtain ⟨ts, h1, h2⟩ := r
  exact ⟨ts, by rw [e]; exact h1, rowP_imp k h2⟩
theorem rowP_snoc {H : Hp} {t q : Addr} {z : Nat × List Int} (h1 : H t = some (.tup [.int (z.1 : Nat), .ref q])) (h2 : H q = some (.tup (z.2.map V.int))) : ∀ {ts : List Addr} {L : List (Nat × List Int)},
    Paired (fun (t : Addr) (z : Nat × List Int) => ∃ q, H t = some (.tup [.int (z.1 : Nat), .ref q]) ∧ H q = some (.tup (z.2.map V.int))) ts L → Paired (fun (t : Addr) (z : Nat × List Int) => ∃ q, H t = some (.tup [.int (z.1 : Nat), .ref q]) ∧ H q = some (.tup (z.2.map V.int))) (ts ++ [t]) (L ++ [z])
  | _, _, .nil => .cons ⟨q, h1, h2⟩ .nil
  | _, _, .cons g t => .cons g (rowP_snoc h1 h2 t)
theorem rowP_len {H : Hp} {ts : List Addr} {L : List (Nat × List Int)} (h : Paired (fun (t : Addr) (z : Nat × List Int) => ∃ q, H t = some (.tup [.int (z.1 : Nat), .ref q]) ∧ H q = some (.tup (z.2.map V.int))) ts L) : ts.length = L.length := Paired.length h
theorem rowP_at {H : Hp} : ∀ {ts : List Addr} {L : List (Nat × List Int)} {i : Nat} {t : Addr}, Paired (fun (t : Addr) (z : Nat × List Int) => ∃ q, H t = some (.tup [.int (z.1 : Nat), .ref q]) ∧ H q = some (.tup (z.2.map V.int))) ts L → ts[i]? = some t →
    ∃ z q, L[i]? = some z ∧ H t = some (.tup [.int (z.1 : Nat), .ref q]) ∧ H q = some (.tup (z.2.map V.int))
  | _, _, _, _, .nil, e => by simp at e
  | _, _, 0, _, .cons ⟨q, h1, h2⟩ _, e => by
    cases e
    exact ⟨_, q, rfl, h1, h2⟩
  | _, _, i + 1, _, .cons _ t, e => rowP_at (i := i) t e
/-- the dict at e: the keys ks with the rows L -/
structure Stp (d : List Int) (H0 H : Hp) (e : Addr) (ks : List (List Int)) (rows : List Int → Addr) (L : List Int → List (Nat × List Int)) : Prop where
  dict : H e = some (.dT (dS (mkR ks rows)))
  nd : ks.Nodup
  vs : ∀ s ∈ ks, Vs d s
  row : ∀ s ∈ ks, Row H (rows s) (L s)
  inj : ∀ s ∈ ks, ∀ r ∈ ks, rows s = rows r → s = r
  fresh : ∀ s ∈ ks, H0 (rows s) = none
section
variable {d : List Int} {H0 H H' : Hp} {e : Addr} {ks : List (List Int)} {rows : List Int → Addr} {L : List Int → List (Nat × List Int)}
theorem Stp.imp (S : Stp d H0 H e ks rows L) (k : TupK H H') (he : H' e = H e) (hr : ∀ s ∈ ks, H' (rows s) = H (rows s)) : Stp d H0 H' e ks rows L :=
  ⟨by rw [he]; exact S.dict, S.nd, S.vs, fun s hs => (S.row s hs).imp k (hr s hs), S.inj, S.fresh⟩
theorem Stp.lst (S : Stp d H0 H e ks rows L) {s : List Int} (hs : s ∈ ks) : ∃ xs, H (rows s) = some (.lst xs) := let ⟨_, h, _⟩ := S.row s hs; ⟨_, h⟩
theorem Stp.rne (S : Stp d H0 H e ks rows L) {s : List Int} (hs : s ∈ ks) : rows s ≠ e := by
  obtain ⟨xs, h⟩ := S.lst hs
  exact ne_of h S.dict (fun z => nomatch z)
theorem Stp.kept (S : Stp d H0 H e ks rows L) (k : Kept H H') : Stp d H0 H' e ks rows L := by
  refine S.imp (.of k) ?_ fun s hs => ?_
  · rw [k.dT S.dict, S.dict]
  · obtain ⟨xs, h⟩ := S.lst hs
    rw [k.lst h, h]
theorem Stp.few (vd : Vd d) (S : Stp d H0 H e ks rows L) : ks.length ≤ 1296 := few_states vd S.nd S.vs
/-- steps[s] -/
theorem Stp.get (S : Stp d H0 H e ks rows L) {s : List Int} (hs : s ∈ ks) {b : Addr} (hb : H b = some (.tup (s.map V.int))) : DGet H e (.ref b) (some (.ref (rows s))) := by
  have h := DGet.t (k := ik s) S.dict (by rw [ik_kV]; exact hb)
  rw [valV_dS, show valV (mkR ks rows) s = some (V.ref (rows s)) from valV_map (f := fun s => V.ref (rows s)) hs] at h
  exact h
/-- s in steps -/
theorem Stp.has (S : Stp d H0 H e ks rows L) {s : List Int} {b : Addr} (hb : H b = some (.tup (s.map V.int))) : ∃ o, DGet H e (.ref b) o ∧ o.isSome = decide (s ∈ ks) := by
  refine ⟨_, DGet.t (k := ik s) S.dict (by rw [ik_kV]; exact hb), ?_⟩
  rw [valV_dS]
  exact valV_map_is (fun s => V.ref (rows s)) s ks
/-- a pair is appended to the row of s -/
theorem Stp.push (S : Stp d H0 H e ks rows L) {s : List Int} (hs : s ∈ ks) {t q : Addr} {z : Nat × List Int} {xs : List V} (hl : H (rows s) = some (.lst xs)) (h1 : H t = some (.tup [.int (z.1 : Nat), .ref q])) (h2 : H q = some (.tup (z.2.map V.int))) :
    Stp d H0 (upd H (rows s) (.lst (xs ++ [.ref t]))) e ks rows (fun r => if r = s then L s ++ [z] else L r) := by
  have k : TupK H (upd H (rows s) (.lst (xs ++ [.ref t]))) := tupK_upd hl (fun _ z => nomatch z)
  refine ⟨by rw [upd_ne (S.rne hs).symm]; exact S.dict, S.nd, S.vs, fun r hr => ?_, S.inj, S.fresh⟩
  by_cases er : r = s
  · subst er
    obtain ⟨ts, g1, g2⟩ := S.row r hr
    rw [hl] at g1
    cases g1
    show Row _ _ (if r = r then L r ++ [z] else L r)
    rw [if_pos rfl]
    refine ⟨ts ++ [t], by rw [upd_same, List.map_append]; rfl, rowP_imp k (rowP_snoc h1 h2 g2)⟩
  · show Row _ _ (if r = s then L s ++ [z] else L r)
    rw [if_neg er]
    exact (S.row r hr).imp k (upd_ne fun z => er (S.inj r hr s hs z))
/-- a new key with an empty row -/
theorem Stp.add (S : Stp d H0 H e ks rows L) {s : List Int} (hs : s ∉ ks) (v : Vs d s) {l : Addr} (hl : H l = none) (h0 : H0 l = none) :
    putK (dS (mkR ks rows)) (ik s) (.ref l) = dS (mkR (ks ++ [s]) (fun r => if r = s then l else rows r)) ∧
    Stp d H0 (upd (upd H l (.lst [])) e (.dT (dS (mkR (ks ++ [s]) (fun r => if r = s then l else rows r))))) e (ks ++ [s]) (fun r => if r = s then l else rows r) (fun r => if r = s then [] else L r) := by
  have hf : ∀ r ∈ ks, (if r = s then l else rows r) = rows r := fun r hr => if_neg (fun z : r = s => hs (z ▸ hr))
  have hle : l ≠ e := (ne_of_none S.dict hl).symm
  have k : TupK H (upd (upd H l (.lst [])) e (.dT (dS (mkR (ks ++ [s]) (fun r => if r = s then l else rows r))))) :=
    (tupK_new hl).trans (tupK_upd (u := .dT (dS (mkR ks rows))) (by rw [upd_ne hle.symm]; exact S.dict) (fun _ z => nomatch z))
  refine ⟨?_, upd_same, ?_, fun r hr => ?_, fun r hr => ?_, fun r hr t ht z => ?_, fun r hr => ?_⟩
  · rw [putK_dS]
    refine congrArg dS (putK_map_new (f := fun s => V.ref (rows s)) hs (fun r => V.ref (if r = s then l else rows r)) ?_ fun r hr => ?_)
    · rw [if_pos rfl]
    · rw [hf r hr]
  · exact nd_snoc S.nd hs
  · rcases List.mem_append.mp hr with q | q
    · exact S.vs r q
    · rw [List.mem_singleton.mp q]
      exact v
  · rcases List.mem_append.mp hr with q | q
    · have er : r ≠ s := fun z => hs (z ▸ q)
      show Row _ (if r = s then l else rows r) (if r = s then [] else L r)
      rw [if_neg er, if_neg er]
      refine (S.row r q).imp k ?_
      rw [upd_ne (S.rne q), upd_ne ?_]
      obtain ⟨xs, h⟩ := S.lst q
      exact ne_of_none h hl
    · rw [List.mem_singleton.mp q]
      show Row _ (if s = s then l else rows s) (if s = s then [] else L s)
      rw [if_pos rfl, if_pos rfl]
      exact ⟨[], by rw [upd_ne hle, upd_same]; rfl, .nil⟩
  · have nl : ∀ r ∈ ks, rows r ≠ l := fun r hr => by
      obtain ⟨xs, h⟩ := S.lst hr
      exact ne_of_none h hl
    rcases List.mem_append.mp hr with q | q <;> rcases List.mem_append.mp ht with q2 | q2
    · have z2 : (if r = s then l else rows r) = (if t = s then l else rows t) := z
      rw [hf r q, hf t q2] at z2
      exact S.inj r q t q2 z2
    · have e2 := List.mem_singleton.mp q2
      have z2 : (if r = s then l else rows r) = (if t = s then l else rows t) := z
      rw [hf r q, if_pos e2] at z2
      exact absurd z2 (nl r q)
    · have e2 := List.mem_singleton.mp q
      have z2 : (if r = s then l else rows r) = (if t = s then l else rows t) := z
      rw [hf t q2, if_pos e2] at z2
      exact absurd z2.symm (nl t q2)
    · rw [List.mem_singleton.mp q, List.mem_singleton.mp q2]
  · show H0 (if r = s then l else rows r) = none
    rcases List.mem_append.mp hr with q | q
    · rw [hf r q]
      exact S.fresh r q
    · rw [if_pos (List.mem_singleton.mp q)]
      exact h0
end
/-! ### the first phase: all states that can be reached -/
def succsN (d s : List Int) (j : Nat) : List (Nat × List Int) := (List.range j).filterMap fun i => (srv d s i).map fun t => (i, t)
theorem succsN_all (d s : List Int) : succsN d s d.length = succs d s := rfl
theorem succsN_none {d s : List Int} {j : Nat} (h : srv d s j = none) : succsN d s (j + 1) = succsN d s j := by
  unfold succsN
  rw [List.range_succ, List.filterMap_append, List.filterMap_cons, h]
  exact List.append_nil _
theorem succsN_some {d s t : List Int} {j : Nat} (h : srv d s j = some t) : succsN d s (j + 1) = succsN d s j ++ [(j, t)] := by
  unfold succsN
  rw [List.range_succ, List.filterMap_append, List.filterMap_cons, h]
  rfl
structure Ph (d : List Int) (H0 H : Hp) (e u : Addr) (ks : List (List Int)) (rows : List Int → Addr) (L : List Int → List (Nat × List Int)) (bs : List Addr) (qs : List (List Int)) : Prop where
  kept : Kept H0 H
  he : H0 e = none
  hu : H0 u = none
  stp : Stp d H0 H e ks rows L
  que : H u = some (.lst (bs.map V.ref))
  tps : Tps H bs qs
  une : ∀ s ∈ ks, rows s ≠ u
  start : d ∈ ks
  qnd : qs.Nodup
  qok : ∀ q ∈ qs, q ∈ ks ∧ L q = []
section
variable {d : List Int} {H0 H H' : Hp} {e u : Addr} {ks : List (List Int)} {rows : List Int → Addr} {L : List Int → List (Nat × List Int)} {bs : List Addr} {qs : List (List Int)}
theorem Ph.ne (p : Ph d H0 H e u ks rows L bs qs) : u ≠ e := ne_of p.que p.stp.dict (fun z => nomatch z)
/-- nothing of ours is touched -/
theorem Ph.same (p : Ph d H0 H e u ks rows L bs qs) (k : Kept H H') : Ph d H0 H' e u ks rows L bs qs :=
  ⟨p.kept.trans k, p.he, p.hu, p.stp.kept k, k.lst p.que, k.tps p.tps, p.une, p.start, p.qnd, p.qok⟩
/-- what is written is ours -/
theorem kept_own {H0 H : Hp} {x : Addr} {o : HO} (k : Kept H0 H) (h : H0 x = none) : Kept H0 (upd H x o) := ⟨fun b v e n => by
  rw [upd_ne (ne_of_none e h)]
  exact k.at1 b v e n, fun b e => old_upd b (k.old b e)⟩
theorem Ph.pop {b : Addr} {s : List Int} (p : Ph d H0 H e u ks rows L (bs ++ [b]) (qs ++ [s])) : Ph d H0 (upd H u (.lst (bs.map V.ref))) e u ks rows L bs qs ∧ s ∈ ks ∧ L s = [] ∧ s ∉ qs ∧ (upd H u (.lst (bs.map V.ref))) b = some (.tup (s.map V.int)) := by
  have k : TupK H (upd H u (.lst (bs.map V.ref))) := tupK_upd p.que (fun _ z => nomatch z)
  have tl : bs.length = qs.length := by
    have := p.tps.len
    rw [List.length_append, List.length_append] at this
    exact Nat.succ.inj this
  have t1 : Tps H bs qs := by
    have := p.tps.take bs.length
    rw [List.take_left, tl, List.take_left] at this
    exact this
  have t2 : H b = some (.tup (s.map V.int)) := by
    obtain ⟨s', e1, e2⟩ := p.tps.get (i := bs.length) (b := b) (by rw [List.getElem?_append_right (Nat.le_refl _), Nat.sub_self]; rfl)
    rw [tl, List.getElem?_append_right (Nat.le_refl _), Nat.sub_self] at e1
    cases (show some s = some s' from e1)
    exact e2
  have qn := List.nodup_append.mp p.qnd
  refine ⟨⟨kept_own p.kept p.hu, p.he, p.hu, p.stp.imp k (upd_ne p.ne.symm) (fun r hr => upd_ne (p.une r hr)), upd_same, k.tps t1, p.une, p.start, qn.1, fun q hq => p.qok q (List.mem_append_left _ hq)⟩, (p.qok s (List.mem_append_right _ (List.mem_singleton_self _))).1, (p.qok s (List.mem_append_right _ (List.mem_singleton_self _))).2, fun hq => qn.2.2 s hq s (List.mem_singleton_self _) rfl, k _ _ t2⟩
theorem Ph.push (p : Ph d H0 H e u ks rows L bs qs) {s : List Int} (hs : s ∈ ks) (hq : s ∉ qs) {t q : Addr} {z : Nat × List Int} {xs : List V} (hl : H (rows s) = some (.lst xs)) (h1 : H t = some (.tup [.int (z.1 : Nat), .ref q])) (h2 : H q = some (.tup (z.2.map V.int))) :
    Ph d H0 (upd H (rows s) (.lst (xs ++ [.ref t]))) e u ks rows (fun r => if r = s then L s ++ [z] else L r) bs qs := by
  have k : TupK H (upd H (rows s) (.lst (xs ++ [.ref t]))) := tupK_upd hl (fun _ z => nomatch z)
  refine ⟨kept_own p.kept (p.stp.fresh s hs), p.he, p.hu, p.stp.push hs hl h1 h2, ?_, k.tps p.tps, p.une, p.start, p.qnd, fun r hr => ⟨(p.qok r hr).1, ?_⟩⟩
  · rw [upd_ne (p.une s hs).symm]
    exact p.que
  · show (if r = s then L s ++ [z] else L r) = []
    rw [if_neg (fun z2 : r = s => hq (z2 ▸ hr))]
    exact (p.qok r hr).2
/-- a new key, its empty row at l; then it is appended to the queue -/
theorem Ph.add (p : Ph d H0 H e u ks rows L bs qs) {s : List Int} (hs : s ∉ ks) (v : Vs d s) {b l : Addr} (hb : H b = some (.tup (s.map V.int))) (hl : H l = none) (h0 : H0 l = none) :
    Ph d H0 (upd (upd (upd H l (.lst [])) e (.dT (putK (dS (mkR ks rows)) (ik s) (.ref l)))) u (.lst ((bs ++ [b]).map V.ref))) e u (ks ++ [s]) (fun r => if r = s then l else rows r) (fun r => if r = s then [] else L r) (bs ++ [b]) (qs ++ [s]) := by
  obtain ⟨e1, S⟩ := p.stp.add hs v hl h0
  rw [e1]
  have hle : l ≠ e := (ne_of_none p.stp.dict hl).symm
  have hlu : l ≠ u := (ne_of_none p.que hl).symm
  have hue := p.ne
  have quu : (upd (upd H l (.lst [])) e (.dT (dS (mkR (ks ++ [s]) (fun r => if r = s then l else rows r))))) u = some (.lst (bs.map V.ref)) := by
    rw [upd_ne hue, upd_ne hlu.symm]
    exact p.que
  have k1 : TupK H (upd (upd H l (.lst [])) e (.dT (dS (mkR (ks ++ [s]) (fun r => if r = s then l else rows r))))) :=
    (tupK_new hl).trans (tupK_upd (u := .dT (dS (mkR ks rows))) (by rw [upd_ne hle.symm]; exact p.stp.dict) (fun _ z => nomatch z))
  have k2 : TupK _ (upd (upd (upd H l (.lst [])) e (.dT (dS (mkR (ks ++ [s]) (fun r => if r = s then l else rows r))))) u (.lst ((bs ++ [b]).map V.ref))) := tupK_upd quu (fun _ z => nomatch z)
  have une : ∀ r ∈ ks ++ [s], (if r = s then l else rows r) ≠ u := fun r hr => by
    rcases List.mem_append.mp hr with q | q
    · rw [if_neg (fun z : r = s => hs (z ▸ q))]
      exact p.une r q
    · rw [if_pos (List.mem_singleton.mp q)]
      exact hlu
  have nq : s ∉ qs := fun hq => hs (p.qok s hq).1
  refine ⟨kept_own (kept_own (kept_own p.kept h0) p.he) p.hu, p.he, p.hu, S.imp k2 (upd_ne hue.symm) (fun r hr => upd_ne (une r hr)), upd_same, (k1.trans k2).tps (p.tps.snoc hb), une, List.mem_append_left _ p.start, nd_snoc p.qnd nq, fun q hq => ?_⟩
  rcases List.mem_append.mp hq with z | z
  · refine ⟨List.mem_append_left _ (p.qok q z).1, ?_⟩
    show (if q = s then [] else L q) = []
    rw [if_neg (fun z2 : q = s => nq (z2 ▸ z))]
    exact (p.qok q z).2
  · refine ⟨List.mem_append_right _ z, ?_⟩
    show (if q = s then [] else L q) = []
    rw [if_pos (List.mem_singleton.mp z)]
/-- the states that are done have their rows in full -/
def Done (d : List Int) (ks : List (List Int)) (L : List Int → List (Nat × List Int)) (r : List Int) : Prop := L r = succs d r ∧ ∀ z ∈ succs d r, z.2 ∈ ks
/-- within the row of s: the first j indexes are through -/
structure In1 (d : List Int) (H0 H : Hp) (e u b : Addr) (s : List Int) (j m : Nat) (ks : List (List Int)) (rows : List Int → Addr) (L : List Int → List (Nat × List Int)) (bs : List Addr) (qs : List (List Int)) : Prop where
  ph : Ph d H0 H e u ks rows L bs qs
  hb : H b = some (.tup (s.map V.int))
  hs : s ∈ ks
  hq : s ∉ qs
  row : L s = succsN d s j
  cl : ∀ z ∈ succsN d s j, z.2 ∈ ks
  oth : ∀ r ∈ ks, r ∉ qs → r ≠ s → Done d ks L r
  lt : 2 * (1296 - ks.length) + qs.length < m
theorem Done.more {ks' : List (List Int)} {L' : List Int → List (Nat × List Int)} {r : List Int} (h : Done d ks L r) (hk : ∀ x ∈ ks, x ∈ ks') (hl : L' r = L r) : Done d ks' L' r := ⟨by rw [hl]; exact h.1, fun z hz => hk _ (h.2 z hz)⟩
theorem In1.skip {b : Addr} {s : List Int} {j m : Nat} (I : In1 d H0 H e u b s j m ks rows L bs qs) (h : srv d s j = none) (k : Kept H H') : In1 d H0 H' e u b s (j + 1) m ks rows L bs qs :=
  ⟨I.ph.same k, k.tup I.hb, I.hs, I.hq, by rw [succsN_none h]; exact I.row, by rw [succsN_none h]; exact I.cl, I.oth, I.lt⟩
/-- the pair (j, t) is appended to the row, t a key already -/
theorem In1.push {b : Addr} {s t : List Int} {j m : Nat} (I : In1 d H0 H e u b s j m ks rows L bs qs) (h : srv d s j = some t) {T q : Addr} {xs : List V} (hl : H (rows s) = some (.lst xs)) (h1 : H T = some (.tup [.int (j : Nat), .ref q])) (h2 : H q = some (.tup (t.map V.int))) :
    Ph d H0 (upd H (rows s) (.lst (xs ++ [.ref T]))) e u ks rows (fun r => if r = s then L s ++ [(j, t)] else L r) bs qs ∧ (t ∈ ks → In1 d H0 (upd H (rows s) (.lst (xs ++ [.ref T]))) e u b s (j + 1) m ks rows (fun r => if r = s then L s ++ [(j, t)] else L r) bs qs) := by
  have p := I.ph.push I.hs I.hq (z := (j, t)) hl h1 h2
  have k : TupK H (upd H (rows s) (.lst (xs ++ [.ref T]))) := tupK_upd hl (fun _ z => nomatch z)
  refine ⟨p, fun ht => ⟨p, k _ _ I.hb, I.hs, I.hq, ?_, ?_, fun r hr hrq hne => (I.oth r hr hrq hne).more (fun _ h => h) (if_neg hne), I.lt⟩⟩
  · show (if s = s then L s ++ [(j, t)] else L s) = _
    rw [if_pos rfl, succsN_some h, I.row]
  · rw [succsN_some h]
    intro z hz
    rcases List.mem_append.mp hz with w | w
    · exact I.cl z w
    · rw [List.mem_singleton.mp w]
      exact ht
/-- .. and where t is new: a key with an empty row, in the queue -/
theorem In1.grow (vd : Vd d) {b : Addr} {s t : List Int} {j m : Nat} (I : In1 d H0 H e u b s j m ks rows L bs qs) (h : srv d s j = some t) {T q l : Addr} {xs : List V} (hl : H (rows s) = some (.lst xs)) (h1 : H T = some (.tup [.int (j : Nat), .ref q])) (h2 : H q = some (.tup (t.map V.int))) (ht : t ∉ ks)
    (nl : (upd H (rows s) (.lst (xs ++ [.ref T]))) l = none) (n0 : H0 l = none) :
    ∃ rows' L', In1 d H0 (upd (upd (upd (upd H (rows s) (.lst (xs ++ [.ref T]))) l (.lst [])) e (.dT (putK (dS (mkR ks rows)) (ik t) (.ref l)))) u (.lst ((bs ++ [q]).map V.ref))) e u b s (j + 1) m (ks ++ [t]) rows' L' (bs ++ [q]) (qs ++ [t]) := by
  obtain ⟨p, _⟩ := I.push h hl h1 h2
  have k : TupK H (upd H (rows s) (.lst (xs ++ [.ref T]))) := tupK_upd hl (fun _ z => nomatch z)
  have v : Vs d t := (I.ph.stp.vs s I.hs).step vd h
  have p2 := p.add ht v (b := q) (l := l) (k _ _ h2) nl n0
  have hst : s ≠ t := fun z => ht (z ▸ I.hs)
  have hne1 : l ≠ e := (ne_of_none p.stp.dict nl).symm
  have hb2 : (upd (upd (upd (upd H (rows s) (.lst (xs ++ [.ref T]))) l (.lst [])) e (.dT (putK (dS (mkR ks rows)) (ik t) (.ref l)))) u (.lst ((bs ++ [q]).map V.ref))) b = some (.tup (s.map V.int)) := by
    have hb1 := k _ _ I.hb
    have hbl : b ≠ l := ne_of_none hb1 nl
    have hbe : b ≠ e := ne_of hb1 p.stp.dict (fun z => nomatch z)
    have hbu : b ≠ u := ne_of hb1 p.que (fun z => nomatch z)
    rw [upd_ne hbu, upd_ne hbe, upd_ne hbl]
    exact hb1
  have few := p2.stp.few vd
  rw [List.length_append, List.length_singleton] at few
  refine ⟨_, _, p2, hb2, List.mem_append_left _ I.hs, fun z => ?_, ?_, ?_, fun r hr hrq hne => ?_, ?_⟩
  · rcases List.mem_append.mp z with w | w
    · exact I.hq w
    · exact hst (List.mem_singleton.mp w)
  · show (if s = t then [] else (if s = s then L s ++ [(j, t)] else L s)) = _
    rw [if_neg hst, if_pos rfl, succsN_some h, I.row]
  · rw [succsN_some h]
    intro z hz
    rcases List.mem_append.mp hz with w | w
    · exact List.mem_append_left _ (I.cl z w)
    · rw [List.mem_singleton.mp w]
      exact List.mem_append_right _ (List.mem_singleton_self _)
  · rcases List.mem_append.mp hr with w | w
    · have hrt : r ≠ t := fun z => ht (z ▸ w)
      refine (I.oth r w (fun z => hrq (List.mem_append_left _ z)) hne).more (fun _ h => List.mem_append_left _ h) ?_
      show (if r = t then [] else (if r = s then L s ++ [(j, t)] else L r)) = _
      rw [if_neg hrt, if_neg hne]
    · exact absurd (List.mem_append_right _ w) hrq
  · have := I.lt
    rw [List.length_append, List.length_append, List.length_singleton]
    show 2 * (1296 - (ks.length + 1)) + (qs.length + 1) < m
    omega
end
/-- the state ahead of the first turn -/
theorem ph_init {d : List Int} (vd : Vd d) {H : Hp} {a e l u T : Addr} (ha : H a = some (.tup (d.map V.int))) (he : H e = none) (hl : (upd H e (.dT [])) l = none)
    (hu : (upd (upd (upd H e (.dT [])) l (.lst [])) e (.dT [(ik d, .ref l)])) u = none) (hT : (upd (upd (upd (upd H e (.dT [])) l (.lst [])) e (.dT [(ik d, .ref l)])) u (.lst [.ref a])) T = none) (xs : List V) :
    Ph d H (upd (upd (upd (upd (upd H e (.dT [])) l (.lst [])) e (.dT [(ik d, .ref l)])) u (.lst [.ref a])) T (.tup xs)) e u [d] (fun _ => l) (fun _ => []) [a] [d] := by
  have hle : l ≠ e := fun z => by
    rw [z, upd_same] at hl
    cases hl
  have hue : u ≠ e := fun z => by
    rw [z, upd_same] at hu
    cases hu
  have hul : u ≠ l := fun z => by
    rw [z, upd_ne hle, upd_same] at hu
    cases hu
  have hTu : T ≠ u := fun z => by
    rw [z, upd_same] at hT
    cases hT
  have hTe : T ≠ e := fun z => by
    rw [z, upd_ne hue.symm, upd_same] at hT
    cases hT
  have hTl : T ≠ l := fun z => by
    rw [z, upd_ne hul.symm, upd_ne hle, upd_same] at hT
    cases hT
  have h0l : H l = none := by rw [upd_ne hle] at hl; exact hl
  have h0u : H u = none := by rw [upd_ne hue, upd_ne hul, upd_ne hue] at hu; exact hu
  have h0T : H T = none := by rw [upd_ne hTu, upd_ne hTe, upd_ne hTl, upd_ne hTe] at hT; exact hT
  have kept : Kept H (upd (upd (upd (upd (upd H e (.dT [])) l (.lst [])) e (.dT [(ik d, .ref l)])) u (.lst [.ref a])) T (.tup xs)) :=
    kept_own (kept_own (kept_own (kept_own (kept_own (Kept.refl H) he) h0l) he) h0u) h0T
  refine ⟨kept, he, h0u, ⟨?_, List.nodup_cons.mpr ⟨List.not_mem_nil, List.nodup_nil⟩, fun s hs => ?_, fun s hs => ?_, fun s hs r hr _ => ?_, fun s hs => h0l⟩, ?_, .cons (kept.tup ha) .nil, fun s hs => hul.symm, List.mem_singleton_self _, List.nodup_cons.mpr ⟨List.not_mem_nil, List.nodup_nil⟩, fun q hq => ⟨hq, rfl⟩⟩
  · rw [upd_ne hTe.symm, upd_ne hue.symm, upd_same]
    rfl
  · rw [List.mem_singleton.mp hs]
    exact vd.self
  · exact ⟨[], by rw [upd_ne hTl.symm, upd_ne hul.symm, upd_ne hle, upd_same]; rfl, .nil⟩
  · rw [List.mem_singleton.mp hs, List.mem_singleton.mp hr]
  · rw [upd_ne hTu.symm, upd_same]
    rfl
end K64
/-! Readings: a comprehension over the keys of a locked dict; tests. -/
namespace K64
open PySem PySem.Spec PyProof.Rows L2 GxR
theorem lc_keysT {dd : Addr} {o : Obj} {kvs : List (List Key × V)} {g : TG} {tt : TT} {te : TE} {vs : List Nat} {σ : L2.St} {H1 : Hp} {D : Addr} {Qd : Hp → Prop} (Pv : Nat → Hp → Prop) (h0 : Pv 0 (upd H1 D (.lst []))) (hl : ∀ i H, i ≤ kvs.length → Pv i H → H dd = some (.frz o (.dT kvs)))
    (hs : ∀ i k v q H, kvs[i]? = some (k, v) → H q = some (.tup (k.map kV)) → Pv i H → g (.ref q) (wipe σ vs) H fun σ2 H2 => wipe σ2 vs = wipe σ vs ∧ tt σ2 H2 fun b H3 =>
      if b = true then te σ2 H3 fun y H4 => ∃ acc, H4 D = some (.lst acc) ∧ acc.length < sizeLine ∧ Pv (i + 1) (upd H4 D (.lst (acc ++ [y]))) else Pv (i + 1) H3) (hd : ∀ H, Pv kvs.length H → Qd H) :
    ∃ W : Nat → Nat → Hp → Prop, (∃ m, W 0 m (upd H1 D (.lst []))) ∧ ∀ i m H, W i m H →
      ((Itkt dd o kvs).stop i H ∧ Qd H) ∨ ((Itkt dd o kvs).go i H ∧ ∃ Nx : Hp → Prop, (∀ H', Nx H' → ∃ m', m' < m ∧ W (i + 1) m' H') ∧ ∀ x H', (Itkt dd o kvs).yld i H x H' → g x (wipe σ vs) H' fun σ2 H2 => wipe σ2 vs = wipe σ vs ∧ tt σ2 H2 fun b H3 =>
        if b = true then te σ2 H3 fun y H4 => ∃ acc, H4 D = some (.lst acc) ∧ acc.length < sizeLine ∧ Nx (upd H4 D (.lst (acc ++ [y]))) else Nx H3) := by
  refine ⟨fun i m H => i + m = kvs.length ∧ Pv i H, ⟨kvs.length, by omega, h0⟩, fun i m H hW => ?_⟩
  obtain ⟨em, hp⟩ := hW
  have hL := hl i H (by omega) hp
  by_cases hi : i < kvs.length
  · refine .inr ⟨⟨hL, hi⟩, Pv (i + 1), fun H' hN => ⟨m - 1, by omega, by omega, hN⟩, fun x H' hy => ?_⟩
    obtain ⟨rfl, k, v, q, e1, rfl, e2⟩ := hy
    exact hs i k v q H' e1 e2 hp
  · have e : i = kvs.length := by omega
    subst e
    exact .inl ⟨⟨hL, Nat.le_refl _⟩, hd H hp⟩
theorem iteNT {c A B : Prop} [Decidable c] (hc : ¬ c) (h : A) : if (!decide c) = true then A else B := by
  rw [decide_eq_false hc]
  exact h
theorem iteB {b : Bool} {A B : Prop} (h1 : b = true → A) (h2 : b = false → B) : if b = true then A else B := by
  cases b with
  | true => exact h1 rfl
  | false => exact h2 rfl
theorem iteNB {b : Bool} {A B : Prop} (h1 : b = false → A) (h2 : b = true → B) : if (!b) = true then A else B := by
  cases b with
  | true => exact h2 rfl
  | false => exact h1 rfl
end K64
/-! Comprehensions over the keys of a locked dict: the pairs for dict(..), the filtered keys. -/
namespace K64
open PySem PySem.Spec PyProof.Rows L2 GxR
theorem kept_unlock {H H' : Hp} {e : Addr} {od : Obj} {u : HO} (he : H e = some u) (k : Kept (upd H e (.frz od u)) H') : Kept H (upd H' e u) := by
  refine ⟨fun b o h n => ?_, fun b h => old_upd b (k.old b (old_upd b h))⟩
  by_cases z : b = e
  · rw [z, he] at h
    cases h
    rw [z, upd_same]
  · rw [upd_ne z]
    exact k.at1 b o (by rw [upd_ne z]; exact h) n
theorem kept_lock {H : Hp} {e : Addr} {od : Obj} {u : HO} (he : H e = some u) (n : ∀ xs, u ≠ .tup xs) : TupK H (upd H e (.frz od u)) := tupK_upd he n
theorem tupK_unlock {H' : Hp} {e : Addr} {od : Obj} {u : HO} (he : H' e = some (.frz od u)) : TupK H' (upd H' e u) := tupK_upd he (fun xs z => nomatch z)
theorem TupK.prs {H H' : Hp} (k : TupK H H') : ∀ {ts : List Addr} {zs : List (List Key × Addr × V)}, PrsT H ts zs → PrsT H' ts zs
  | _, _, .nil => .nil
  | _, _, .cons h t => .cons ⟨k _ _ h.1, k _ _ h.2⟩ (TupK.prs k t)
theorem prs_snoc {H : Hp} {t q : Addr} {k : List Key} {y : V} (h1 : H t = some (.tup [.ref q, y])) (h2 : H q = some (.tup (k.map kV))) : ∀ {ts : List Addr} {zs : List (List Key × Addr × V)}, PrsT H ts zs → PrsT H (ts ++ [t]) (zs ++ [(k, q, y)])
  | _, _, .nil => .cons ⟨h1, h2⟩ .nil
  | _, _, .cons h t => .cons h (prs_snoc h1 h2 t)
theorem prs_len {H : Hp} : ∀ {ts : List Addr} {zs : List (List Key × Addr × V)}, PrsT H ts zs → ts.length = zs.length
  | _, _, .nil => rfl
  | _, _, .cons _ t => congrArg Nat.succ (prs_len t)
/-- all but what stands at D stays -/
def KeptX (D : Addr) (H H' : Hp) : Prop := ∀ b o, b ≠ D → H b = some o → (∀ ps, o ≠ .tbl ps) → H' b = some o
theorem KeptX.of {D : Addr} {H H' : Hp} (k : Kept H H') : KeptX D H H' := fun b o _ h n => k.at1 b o h n
theorem keptX_upd {D : Addr} {H : Hp} {o : HO} : KeptX D H (upd H D o) := fun b u hb h _ => by
  rw [upd_ne hb]
  exact h
theorem KeptX.row {D : Addr} {H H' : Hp} {acc : List V} {l : Addr} {L : List (Nat × List Int)} (k : KeptX D H H') (hD : H D = some (.lst acc)) (r : Row H l L) (n : l ≠ D) : Row H' l L := by
  obtain ⟨ts, h1, h2⟩ := r
  refine ⟨ts, k l _ n h1 (fun ps z => nomatch z), rowP_imp (fun b xs h => k b _ (ne_of h hD (fun z => nomatch z)) h (fun ps z => nomatch z)) h2⟩
theorem take_get {α : Type} {l : List α} {i : Nat} {x : α} (h : l[i]? = some x) : l.take (i + 1) = l.take i ++ [x] := by
  rw [List.take_add_one, h]
  rfl
section
variable {K : PySem.W.Frag} {P1 P2 : Addr} {H1 : Hp} {dd : Addr} {od : Obj} {m : List (List Int × V)}
/-- [(state, v) for state in d] -/
theorem lc_prs {td tv : TE} {x0 x1 x2 x3 x4 x5 x6 x7 x8 x9 x10 : Option V} {Q : VK} (G : Nat → Hp → Addr → List V → Prop) (htd : ∀ R : V → Hp → Prop, R (.ref dd) H1 → td [x0, x1, x2, x3, x4, x5, x6, x7, x8, x9, x10] H1 R)
    (hdd : H1 dd = some (.frz od (.dT (dS m)))) (hT : Tabs2 P1 P2 H1) (hm : m.length ≤ 1296) (g0 : ∀ D H, H1 D = none → G 0 H D []) (gst : ∀ i H H' D vs acc, H D = some (.lst acc) → G i H D vs → KeptX D H H' → G i H' D vs)
    (hs : ∀ (i : Nat) (s : List Int) (v : V) (q D : Addr) (H : Hp) (vs acc : List V) (R : V → Hp → Prop), m[i]? = some (s, v) → H q = some (.tup (s.map V.int)) → Kept H1 H → Tabs2 P1 P2 H → H D = some (.lst acc) → G i H D vs →
      (∀ y H3, Kept H H3 → Tabs2 P1 P2 H3 → G (i + 1) H3 D (vs ++ [y]) → R y H3) → tv [x0, x1, x2, x3, some (.ref q), x5, x6, x7, x8, x9, x10] H R)
    (hQ : ∀ (D : Addr) (ts : List Addr) (zs : List (List Key × Addr × V)) (H' : Hp), Kept H1 H' → Tabs2 P1 P2 H' → H' D = some (.lst (ts.map V.ref)) → D ≠ dd → PrsT H' ts zs → zs.map (·.1) = m.map (fun p => ik p.1) → G m.length H' D (zs.map (·.2.2)) → Q (.ref D) H') :
    tLc (iKeys td) (gName 4) tYes (tTup (tCons (tVar 4) (tCons tv tNil))) [4] [x0, x1, x2, x3, x4, x5, x6, x7, x8, x9, x10] H1 Q := by
  refine htd _ ⟨dd, od, rfl, .inr ⟨dS m, hdd, fun D hD => ?_⟩⟩
  have hDd : D ≠ dd := (ne_of_none hdd hD).symm
  refine lc_keysT (Qd := Q (.ref D)) (fun i H => Kept H1 H ∧ Tabs2 P1 P2 H ∧ ∃ ts zs, H D = some (.lst (ts.map V.ref)) ∧ PrsT H ts zs ∧ zs.map (·.1) = (m.take i).map (fun p => ik p.1) ∧ G i H D (zs.map (·.2.2))) ?_ (fun i H hi h => h.1.frz hdd) ?_ ?_
  · exact ⟨kept_new hD, hT.new hD, [], [], upd_same, .nil, rfl, g0 D _ hD⟩
  · intro i k v q H e1 e2 ⟨k1, t1, ts, zs, hL, hp, hz, g⟩
    obtain ⟨s, e3, rfl⟩ := dS_get e1
    rw [ik_kV] at e2
    refine ⟨rfl, ⟨.ref q, rfl, hs i s v q D H _ _ _ e3 e2 k1 t1 hL g fun y H3 k3 t3 g3 => ⟨(by show 2 ≤ sizeLine; decide), fun T nT => ?_⟩⟩⟩
    have hL3 : H3 D = some (.lst (ts.map V.ref)) := k3.lst hL
    have hTD : D ≠ T := ne_of_none hL3 nT
    have hL4 : (upd H3 T (.tup [.ref q, y])) D = some (.lst (ts.map V.ref)) := by
      rw [upd_ne hTD]
      exact hL3
    have kT := kept_new (o := .tup [.ref q, y]) nT
    have kD : TupK (upd H3 T (.tup [.ref q, y])) (upd (upd H3 T (.tup [.ref q, y])) D (.lst (ts.map V.ref ++ [.ref T]))) := tupK_upd hL4 (fun xs z => nomatch z)
    refine ⟨_, hL4, ?_, ?_, ?_, ts ++ [T], zs ++ [(ik s, q, y)], ?_, ?_, ?_, ?_⟩
    · have := prs_len hp
      have e5 := congrArg List.length hz
      rw [List.length_map, List.length_map, List.length_take] at e5
      rw [List.length_map]
      exact small_len (by omega)
    · exact kept_own ((k1.trans k3).trans kT) hD
    · exact (t3.new nT).upd hL4 (fun ps z => nomatch z)
    · rw [List.map_append]
      exact upd_same
    · exact prs_snoc (kD _ _ upd_same) (by rw [ik_kV]; exact kD _ _ (kT.tup (k3.tup e2))) (kD.prs ((TupK.of (k3.trans kT)).prs hp))
    · rw [List.map_append, hz, take_get e3, List.map_append]
      rfl
    · rw [List.map_append]
      exact gst _ _ _ _ _ _ hL3 g3 fun b o hb h n => by
        rw [upd_ne hb]
        exact kT.at1 b o h n
  · intro H ⟨k1, t1, ts, zs, hL, hp, hz, g⟩
    refine hQ D ts zs H k1 t1 hL hDd hp ?_ ?_
    · rw [hz, dS_len, List.take_length]
    · rw [dS_len] at g
      exact g
/-- name = [state for state in d if ..]: the keys that the test keeps -/
theorem lc_flt {td : TE} {tt : TT} {x0 x1 x2 x3 x4 x5 x6 x7 x8 x9 x10 : Option V} {Q : VK} {ks : List (List Int)} (f : List Int → V) (keep : List Int → Bool) (htd : ∀ R : V → Hp → Prop, R (.ref dd) H1 → td [x0, x1, x2, x3, x4, x5, x6, x7, x8, x9, x10] H1 R)
    (hdd : H1 dd = some (.frz od (.dT (dS (ks.map fun s => (s, f s)))))) (hT : Tabs2 P1 P2 H1) (hm : ks.length ≤ 1296)
    (hs : ∀ (s : List Int) (q : Addr) (H : Hp) (R : Bool → Hp → Prop), s ∈ ks → H q = some (.tup (s.map V.int)) → Kept H1 H → Tabs2 P1 P2 H →
      (∀ H3, Kept H H3 → Tabs2 P1 P2 H3 → R (keep s) H3) → tt [x0, x1, x2, x3, some (.ref q), x5, x6, x7, x8, x9, x10] H R)
    (hQ : ∀ (D : Addr) (bs : List Addr) (H' : Hp), Kept H1 H' → Tabs2 P1 P2 H' → D ≠ dd → H' D = some (.lst (bs.map V.ref)) → Tps H' bs (ks.filter keep) → Q (.ref D) H') :
    tLc (iKeys td) (gName 4) tt (tVar 4) [4] [x0, x1, x2, x3, x4, x5, x6, x7, x8, x9, x10] H1 Q := by
  refine htd _ ⟨dd, od, rfl, .inr ⟨_, hdd, fun D hD => ?_⟩⟩
  have hDd : D ≠ dd := (ne_of_none hdd hD).symm
  have len0 : (dS (ks.map fun s => (s, f s))).length = ks.length := by rw [dS_len, List.length_map]
  refine lc_keysT (Qd := Q (.ref D)) (fun i H => Kept H1 H ∧ Tabs2 P1 P2 H ∧ ∃ bs, H D = some (.lst (bs.map V.ref)) ∧ Tps H bs ((ks.take i).filter keep)) ?_ (fun i H hi h => h.1.frz hdd) ?_ ?_
  · exact ⟨kept_new hD, hT.new hD, [], upd_same, .nil⟩
  · intro i k v q H e1 e2 ⟨k1, t1, bs, hL, hp⟩
    obtain ⟨s, e3, rfl⟩ := dS_get e1
    rw [ik_kV] at e2
    have e4 : ks[i]? = some s := by
      rw [List.getElem?_map] at e3
      cases e5 : ks[i]? with
      | none =>
        rw [e5] at e3
        cases e3
      | some r =>
        rw [e5] at e3
        cases e3
        rfl
    refine ⟨rfl, hs s q H _ (List.mem_of_getElem? e4) e2 k1 t1 fun H3 k3 t3 => ?_⟩
    have ef : (ks.take (i + 1)).filter keep = (ks.take i).filter keep ++ if keep s = true then [s] else [] := by
      rw [take_get e4, List.filter_append, List.filter_cons, List.filter_nil]
    have hL3 := k3.lst hL
    refine iteB (fun h => ?_) (fun h => ?_)
    · rw [h, if_pos rfl] at ef
      rw [ef]
      refine ⟨.ref q, rfl, _, hL3, ?_, ?_, ?_, bs ++ [q], ?_, ?_⟩
      · have := hp.len
        have h2 := List.length_filter_le keep (ks.take i)
        rw [List.length_take] at h2
        rw [List.length_map]
        exact small_len (by omega)
      · exact kept_own (k1.trans k3) hD
      · exact t3.upd hL3 (fun ps z => nomatch z)
      · rw [List.map_append]
        exact upd_same
      · have kD : TupK H3 (upd H3 D (.lst (bs.map V.ref ++ [.ref q]))) := tupK_upd hL3 (fun xs z => nomatch z)
        exact (kD.tps ((TupK.of k3).tps hp)).snoc (kD _ _ (k3.tup e2))
    · rw [h, if_neg (by decide), List.append_nil] at ef
      rw [ef]
      exact ⟨k1.trans k3, t3, bs, hL3, (TupK.of k3).tps hp⟩
  · intro H ⟨k1, t1, bs, hL, hp⟩
    refine hQ D bs H k1 t1 hDd hL ?_
    rw [len0, List.take_length] at hp
    exact hp
end
end K64
/-! The alive states: what the second loop keeps, what the last dict holds. -/
namespace K64
open PySem PySem.Spec PyProof.Rows L2 GxR
theorem row_pairs {K : PySem.W.Frag} {H : Hp} : ∀ {ts : List Addr} {L : List (Nat × List Int)}, Paired (fun (t : Addr) (z : Nat × List Int) => ∃ q, H t = some (.tup [.int (z.1 : Nat), .ref q]) ∧ H q = some (.tup (z.2.map V.int))) ts L →
    ∃ zs : List (V × V), Paired (fun (t : Addr) (z : V × V) => SqT K H t [z.1, z.2]) ts zs ∧ Paired (fun (y : V × V) (z : Nat × List Int) => ∃ b, y.2 = .ref b ∧ H b = some (.tup (z.2.map V.int))) zs L
  | _, _, .nil => ⟨[], .nil, .nil⟩
  | _, _, .cons (b := z) ⟨q, h1, h2⟩ t => by
    obtain ⟨zs, g1, g2⟩ := row_pairs (K := K) t
    exact ⟨(.int (z.1 : Nat), .ref q) :: zs, .cons (SqT.of h1) g1, .cons ⟨q, rfl, h2⟩ g2⟩
/-- the pair's second is one of the states -/
noncomputable def inAs (H : Hp) (as : List (List Int)) (y : V × V) : Bool := @decide (∃ b s, y.2 = .ref b ∧ H b = some (.tup (s.map V.int)) ∧ s ∈ as) (Classical.propDecidable _)
theorem inAs_is {H : Hp} {as : List (List Int)} {y : V × V} {b : Addr} {s : List Int} (h : y.2 = .ref b) (hb : H b = some (.tup (s.map V.int))) : inAs H as y = decide (s ∈ as) := by
  unfold inAs
  by_cases e : s ∈ as
  · rw [decide_eq_true e]
    exact @decide_eq_true _ (Classical.propDecidable _) ⟨b, s, h, hb, e⟩
  · rw [decide_eq_false e]
    refine @decide_eq_false _ (Classical.propDecidable _) fun ⟨b', s', h', hb', e'⟩ => e ?_
    rw [h] at h'
    cases h'
    rw [tup_inj hb hb']
    exact e'
theorem any_inAs {H : Hp} {as : List (List Int)} : ∀ {zs : List (V × V)} {L : List (Nat × List Int)}, Paired (fun (y : V × V) (z : Nat × List Int) => ∃ b, y.2 = .ref b ∧ H b = some (.tup (z.2.map V.int))) zs L → zs.any (inAs H as) = L.any fun z => decide (z.2 ∈ as)
  | _, _, .nil => rfl
  | _, _, .cons ⟨b, h1, h2⟩ t => by
    rw [List.any_cons, List.any_cons, any_inAs t, inAs_is h1 h2]
theorem paired_mem {α β : Type} {G : α → β → Prop} : ∀ {l : List α} {m : List β} {x : α}, Paired G l m → x ∈ l → ∃ y, y ∈ m ∧ G x y
  | _, _, _, .nil, h => absurd h List.not_mem_nil
  | _, _, _, .cons g t, h => by
    rcases List.mem_cons.mp h with e | e
    · exact ⟨_, List.mem_cons_self, e ▸ g⟩
    · obtain ⟨y, h1, h2⟩ := paired_mem t e
      exact ⟨y, List.mem_cons_of_mem _ h1, h2⟩
/-- the dict of the alive states -/
def aD (as : List (List Int)) : HO := .dT (dS (as.map fun s => (s, V.bl true)))
theorem aD_is (as : List (List Int)) (s : List Int) : (valV (dS (as.map fun s => (s, V.bl true))) (ik s)).isSome = decide (s ∈ as) := by
  rw [valV_dS]
  exact valV_map_is (fun _ => V.bl true) s as
theorem aD_drop (as : List (List Int)) (s : List Int) : HO.dT (dropK (dS (as.map fun s => (s, V.bl true))) (ik s)) = aD (as.filter fun r => decide (r ≠ s)) := by
  unfold aD
  rw [dropK_dS]
  refine congrArg (fun x => HO.dT (dS x)) ?_
  unfold dropK
  rw [List.filter_map]
  rfl
theorem zip_pairs (zs : List (List Key × Addr × V)) : zs.map (fun z => (z.1, z.2.2)) = (zs.map (·.1)).zip (zs.map (·.2.2)) := by
  rw [List.zip_map']
theorem dS_of {zs : List (List Key × Addr × V)} {as : List (List Int)} {f : List Int → V} (h1 : zs.map (·.1) = as.map ik) (h2 : zs.map (·.2.2) = as.map f) : zs.map (fun z => (z.1, z.2.2)) = dS (as.map fun s => (s, f s)) := by
  rw [zip_pairs, h1, h2, List.zip_map']
  unfold dS
  rw [List.map_map]
  rfl
theorem nodup_ik {as : List (List Int)} (h : as.Nodup) : (as.map ik).Nodup := List.Pairwise.map ik (fun a b e z => e (ik_inj z)) h
structure Al (d : List Int) (H0 H : Hp) (e p : Addr) (ks : List (List Int)) (rows : List Int → Addr) (L : List Int → List (Nat × List Int)) (as : List (List Int)) : Prop where
  kept : Kept H0 H
  stp : Stp d H0 H e ks rows L
  dict : H p = some (aD as)
  p0 : H0 p = none
  pe : p ≠ e
  nd : as.Nodup
  sub : ∀ s ∈ as, s ∈ ks
  good : ∀ s ∈ ks, Good d s → s ∈ as
section
variable {d : List Int} {H0 H H' : Hp} {e p : Addr} {ks as : List (List Int)} {rows : List Int → Addr} {L : List Int → List (Nat × List Int)}
theorem Al.rne (A : Al d H0 H e p ks rows L as) {s : List Int} (hs : s ∈ ks) : rows s ≠ p := by
  obtain ⟨xs, h⟩ := A.stp.lst hs
  exact ne_of h A.dict (fun z => nomatch z)
/-- p is written -/
theorem Al.put (A : Al d H0 H e p ks rows L as) (o : HO) : Stp d H0 (upd H p o) e ks rows L ∧ Kept H0 (upd H p o) :=
  ⟨A.stp.imp (tupK_upd A.dict (fun xs z => nomatch z)) (upd_ne A.pe.symm) (fun s hs => upd_ne (A.rne hs)), kept_own A.kept A.p0⟩
theorem Al.few (vd : Vd d) (A : Al d H0 H e p ks rows L as) : as.length ≤ 1296 := Nat.le_trans (nodup_le A.nd A.sub) (A.stp.few vd)
/-- behind a use of it while it was locked -/
theorem Al.back (A : Al d H0 H e p ks rows L as) {od : Obj} (k : Kept (upd H p (.frz od (aD as))) H') : Al d H0 (upd H' p (aD as)) e p ks rows L as := by
  have k2 := kept_unlock A.dict k
  exact ⟨A.kept.trans k2, A.stp.kept k2, upd_same, A.p0, A.pe, A.nd, A.sub, A.good⟩
end
/-- a state that is kept: nothing alive follows -/
def lost (L : List Int → List (Nat × List Int)) (as : List (List Int)) (s : List Int) : Bool := !((L s).any fun z => decide (z.2 ∈ as))
theorem lost_false {L : List Int → List (Nat × List Int)} {as : List (List Int)} {s : List Int} : lost L as s = false ↔ ∃ z, z ∈ L s ∧ z.2 ∈ as := by
  unfold lost
  rw [Bool.not_eq_false', List.any_eq_true]
  constructor
  · rintro ⟨z, h1, h2⟩
    exact ⟨z, h1, of_decide_eq_true h2⟩
  · rintro ⟨z, h1, h2⟩
    exact ⟨z, h1, decide_eq_true h2⟩
/-- what is not lost after a round -/
def rest (L : List Int → List (Nat × List Int)) (as : List (List Int)) : List (List Int) := as.filter fun r => decide (r ∉ as.filter (lost L as))
theorem rest_good {d : List Int} {ks as : List (List Int)} {L : List Int → List (Nat × List Int)} (hL : ∀ s ∈ ks, L s = succs d s ∧ ∀ z ∈ succs d s, z.2 ∈ ks) (g : ∀ s ∈ ks, Good d s → s ∈ as) : ∀ s ∈ ks, Good d s → s ∈ rest L as := by
  intro s hs gs
  unfold rest
  rw [List.mem_filter]
  refine ⟨g s hs gs, decide_eq_true fun z => ?_⟩
  have h1 := (List.mem_filter.mp z).2
  obtain ⟨i, hi, t, e, gt⟩ := gs.step
  have hm : (i, t) ∈ succs d s := mem_succs.mpr ⟨hi, e⟩
  have h2 : lost L as s = false := lost_false.mpr ⟨(i, t), by rw [(hL s hs).1]; exact hm, g t ((hL s hs).2 _ hm) gt⟩
  rw [h2] at h1
  cases h1
/-- the row that stays -/
def stay (L : List Int → List (Nat × List Int)) (as : List (List Int)) (s : List Int) : List (Nat × List Int) := (L s).filter fun z => decide (z.2 ∈ as)
theorem filter_all {α : Type} {l : List α} {f : α → Bool} (h : ∀ x ∈ l, f x = true) : l.filter f = l := List.filter_eq_self.mpr h
theorem rest_none {as : List (List Int)} {L : List Int → List (Nat × List Int)} (h : as.filter (lost L as) = []) : rest L as = as ∧ ∀ s ∈ as, lost L as s = false := by
  constructor
  · unfold rest
    rw [h]
    exact filter_all fun x _ => decide_eq_true List.not_mem_nil
  · intro s hs
    cases e : lost L as s with
    | false => rfl
    | true =>
      have : s ∈ as.filter (lost L as) := List.mem_filter.mpr ⟨hs, e⟩
      rw [h] at this
      cases this
theorem rest_lt {as : List (List Int)} {L : List Int → List (Nat × List Int)} (h : as.filter (lost L as) ≠ []) : (rest L as).length < as.length := by
  cases e : as.filter (lost L as) with
  | nil => exact absurd e h
  | cons s r =>
    have hs : s ∈ as.filter (lost L as) := by rw [e]; exact List.mem_cons_self
    have h1 := (List.mem_filter.mp hs).1
    unfold rest
    refine Nat.lt_of_le_of_ne (List.length_filter_le _ _) fun z => ?_
    have := List.filter_eq_self.mp (List.length_filter_eq_length_iff.mp z |> List.filter_eq_self.mpr) s h1
    exact of_decide_eq_true this hs
theorem take_not {α : Type} [DecidableEq α] {l : List α} {i : Nat} {x : α} (hn : l.Nodup) (h : l[i]? = some x) : x ∉ l.take i := by
  intro hx
  obtain ⟨j, hj, e⟩ := List.getElem_of_mem hx
  rw [List.length_take] at hj
  rw [List.getElem_take] at e
  have hi : i < l.length := (List.getElem?_eq_some_iff.mp h).1
  have e2 : l[i] = x := (List.getElem?_eq_some_iff.mp h).2
  have := (List.getElem_inj hn).mp (e.trans e2.symm)
  omega
theorem filter_take {as gs : List (List Int)} {i : Nat} {s : List Int} (h : gs[i]? = some s) : (as.filter fun r => decide (r ∉ gs.take i)).filter (fun r => decide (r ≠ s)) = as.filter fun r => decide (r ∉ gs.take (i + 1)) := by
  rw [List.filter_filter, take_get h]
  refine List.filter_congr fun r _ => ?_
  by_cases h1 : r ∈ gs.take i <;> by_cases h2 : r = s <;> simp [h1, h2]
end K64
/-! alive_states -/
namespace K64
open PySem PySem.Spec PyProof.Rows L2 GxR
abbrev NAl : List Str := ["distances", "start", "steps", "queue", "state", "index", "later", "is_changed", "gone", "alive", "one"]
/-- what alive_states gives: the alive states, each with its ways on -/
structure AliveD (d : List Int) (H : Hp) (p : Addr) (as : List (List Int)) (rows : List Int → Addr) (L : List Int → List (Nat × List Int)) : Prop where
  dict : H p = some (.dT (dS (mkR as rows)))
  nd : as.Nodup
  vs : ∀ s ∈ as, Vs d s
  row : ∀ s ∈ as, Row H (rows s) (L s)
  ways : ∀ s ∈ as, L s ≠ [] ∧ ∀ z ∈ L s, z.1 < d.length ∧ srv d s z.1 = some z.2 ∧ z.2 ∈ as
  good : d ∈ as ↔ Good d d
/-- what the any(..) of alive_states finds -/
def okAny (σ : L2.St) (zs : List (V × V)) (H : Hp) (pb : V × V → Bool) : Prop := ∃ (al : Addr) (kvs : List (List Key × V)), σ[9]? = some (some (.ref al)) ∧ Rd H al (.dT kvs) ∧ ∀ y ∈ zs, ∃ b kk, y.2 = .ref b ∧ H b = some (.tup (kk.map kV)) ∧ pb y = (valV kvs kk).isSome
theorem In1.same {d : List Int} {H0 H H' : Hp} {e u b : Addr} {s : List Int} {j m : Nat} {ks : List (List Int)} {rows : List Int → Addr} {L : List Int → List (Nat × List Int)} {bs : List Addr} {qs : List (List Int)} (I : In1 d H0 H e u b s j m ks rows L bs qs) (k : Kept H H') : In1 d H0 H' e u b s j m ks rows L bs qs :=
  ⟨I.ph.same k, k.tup I.hb, I.hs, I.hq, I.row, I.cl, I.oth, I.lt⟩
theorem TabGsame {H H' : Hp} {P : Addr} (t : TabG H P) (sm : Same H H') : TabG H' P := by
  obtain ⟨ps, h1, h2⟩ := t
  exact ⟨ps, sm _ _ h1, h2⟩
theorem Tabs2.same {P1 P2 : Addr} {H H' : Hp} (t : Tabs2 P1 P2 H) (sm : Same H H') : Tabs2 P1 P2 H' := ⟨TabGsame t.1 sm, TabGsame t.2 sm⟩
def spAlive (P1 P2 : Addr) : Sp := fun vs H Q _ => ∃ (a : Addr) (d : List Int), vs = [.ref a] ∧ H a = some (.tup (d.map V.int)) ∧ Vd d ∧ Tabs2 P1 P2 H ∧ ∀ H' p as rows L, Kept H H' → Tabs2 P1 P2 H' → AliveD d H' p as rows L → Q (.ref p) H'
section
variable {P : Program} {w : World} {K : PySem.W.Frag} {mg : Str → Option Value} {base : Heap}
theorem ok_alive {f fS c P1 P2 : Addr} {fd fdS : FuncData} (F : Fun K "alive_states" "alive_states" sAlive f fd) (hc : fd.code = .ref c) (TB : TabB base mg c P2) (FS : Fun K "served" "served" sServed fS fdS) (bS : L2.Binds K fdS ["distances", "state", "index"] []) (gS : mg "served" = some (.ref fS)) (M : Nm mg) :
    FnOk P w K mg base CX0 2 f fd ["distances"] (spAlive P1 P2) := by
  have GS : FnOk P w K mg base CX0 1 fS fdS ["distances", "state", "index"] spServed := ok_served FS M
  refine okC F hc scAlive (fun vs H Q E h => ?_) (fun A outer st0 H vs Q E hr h => ?_)
  · obtain ⟨a, d, rfl, _⟩ := h
    rfl
  · obtain ⟨a, d, rfl, ha, vd, hT, q⟩ := h
    have hu := hu_of hr
    have nd := scAlive.nd
    refine ⟨_,
      -- start = tuple(distances)
      pss_cons (ps_set (i := 1) nd rfl (.inl rfl) (pe_callTy call_tuple_of (by rfl) M.tuple (by decide +kernel) (pa_cons (pv 0) pa_nil)))
      -- steps, queue = {start: []}, [start]
      (pss_cons (ps_asg (pe_tup (pa_cons (pe_dispT1 (hu8 hr) (pv 1) (pe_lst pa_nil)) (pa_cons (pe_lst (pa_cons (pv 1) pa_nil)) pa_nil))) (pg_tup rfl (pgs_cons (pg_name (i := 2) nd rfl (.inr rfl)) (pgs_cons (pg_name (i := 3) nd rfl (.inl rfl)) pgs_nil))))
      -- while queue
      (pss_cons (ps_while PassesOwn.never (pt_truth (pv 3) (by intro _; rfl))
        (pss_cons (ps_set (i := 4) nd rfl (.inl rfl) (pe_bm0 PySem.F.plainAttrs_list PySem.F.slot_list_pop PySem.F.type_list_pop mt_pop (pv 3)))
        (pss_one (ps_for PassesOwn.never rfl (pi_range1 rfl M.range (pa_cons (pe_callB call_len_seq (by rfl) M.len PySem.boot_len (pa_cons (pv 0) pa_nil)) pa_nil)) (pg_name (i := 5) nd rfl (.inl rfl))
          (pss_cons (ps_set (i := 6) nd rfl (.inl rfl) (pe_call GS hr (by rfl) gS FS.kp bS .nil pass0 (pa_cons (pv 0) (pa_cons (pv 4) (pa_cons (pv 5) pa_nil)))))
          (pss_one (ps_if (pt_cmpR op_notN (pv 6) pe_non (nomark _))
            (pss_cons (ps_expr (pe_bm PySem.F.plainAttrs_list PySem.F.slot_list_append PySem.F.type_list_append mt_append (pe_dget hu (pv 2) (pv 4) (fun _ _ => rfl)) (pa_cons (pe_tup (pa_cons (pv 5) (pa_cons (pv 6) pa_nil))) pa_nil)))
            (pss_one (ps_if (pt_cmp (pc_dnotin hu (pv 6) (pv 2)) (by rfl))
              (pss_cons (ps_dput hu (pv 2) (pv 6) (pe_lst pa_nil) rfl)
              (pss_one (ps_expr (pe_bm PySem.F.plainAttrs_list PySem.F.slot_list_append PySem.F.type_list_append mt_append (pv 3) (pa_cons (pv 6) pa_nil))))) pss_nil))) pss_nil)))))))
      -- alive = dict([(state, True) for state in steps])
      (pss_cons (ps_set (i := 9) nd rfl (.inr rfl) (pe_callTy (call_dictT (hu8 hr) rfl) (by rfl) M.dict (by decide +kernel) (pa_cons (pe_lock (pe_lc (own := [("state", 4)]) (g := gName 4) rfl nd (pi_keys (pv 2)) (blkOk_by (own := [("state", 4)]) (N := NAl) (sc := defScope sAlive) (by decide +kernel))
          (fun _ _ _ _ _ => pg_name (i := 4) nd rfl (Or.inl rfl)) (fun _ _ _ _ _ => pts_nil) (fun _ _ _ _ _ => pe_tup (pa_cons (pv 4) (pa_cons pe_bl pa_nil))))) pa_nil)))
      (pss_cons (ps_set (i := 7) nd rfl (.inl rfl) pe_bl)
      -- while is_changed
      (pss_cons (ps_while PassesOwn.never (pt_val (pv 7))
        (pss_cons (ps_lock (ps_setLc (i := 8) (own := [("state", 4)]) (g := gName 4) rfl nd rfl rfl (sw_true rfl rfl rfl (by decide +kernel)) (pi_keys (pv 9)) (blkOk_by (own := [("state", 4)]) (N := NAl) (sc := defScope sAlive) (by decide +kernel))
          (fun _ _ _ _ _ => pg_name (i := 4) nd rfl (Or.inl rfl)) (fun _ _ _ _ _ => by
            refine pts_one (pt_not (pt_val (t := tAnyP K P2 okAny (tDGet (tVar 2) (tVar 4))) ?_))
            refine pe_anyP (k := 1) (c := c) ?_ ?_ ?_ ?_ ?_ ?_ ?_ ?_ ?_
            · exact hr
            · rfl
            · exact M.any
            · exact TB
            · rfl
            · intro pins σ s1 H1 I
              refine ⟨by decide +kernel, by decide +kernel, by decide +kernel, by decide +kernel, by decide +kernel, by decide +kernel, by decide +kernel, fun y hy e => ?_⟩
              have e2 : y.1 = "alive" := (by decide +kernel : ∀ y ∈ [((".0" : Str), NameKind.local), ("index", .local), ("later", .local), ("alive", .free)], y.2 = NameKind.free → y.1 = "alive") y hy e
              rw [e2]
              exact I.ok.has _ (by first | exact .inl rfl | exact .inr rfl)
            · exact pe_dget hu (pv 2) (pv 4) (fun _ _ => rfl)
            · intro pins σ s1 H1 zs pb I hP ⟨al, kvs, hσ, hD, hz⟩
              exact elt_in (id := 9) hr (by decide +kernel) (by decide +kernel) (by decide +kernel) (by decide +kernel) (by decide +kernel) (by decide +kernel) (by rfl) (fun cells => rfl) (by first | exact .inl rfl | exact .inr rfl) rfl I hP hσ hD hz
            · exact fun v => rfl) (fun _ _ _ _ _ => pv 4)))
        (pss_cons (ps_set (i := 7) nd rfl (.inl rfl) (pe_cmpR op_gt (pe_callB call_len_seq (by rfl) M.len PySem.boot_len (pa_cons (pv 8) pa_nil)) pe_int (nomark _)))
        (pss_one (ps_for PassesOwn.never rfl (pi_list (pv 8)) (pg_name (i := 4) nd rfl (.inl rfl)) (pss_one (ps_ddelT hu (pv 9) (pv 4))))))))
      -- return dict([(state, [one for one in steps[state] if one[1] in alive]) for state in alive])
      (pss_one (ps_ret (pe_callTy (call_dictT (hu8 hr) rfl) (by rfl) M.dict (by decide +kernel) (pa_cons (pe_lock (pe_lc (own := [("state", 4)]) (g := gName 4) rfl nd (pi_keys (pv 9)) (blkOk_by (own := [("state", 4)]) (N := NAl) (sc := defScope sAlive) (by decide +kernel))
          (fun _ _ _ _ _ => pg_name (i := 4) nd rfl (Or.inl rfl)) (fun _ _ _ _ _ => pts_nil)
          (fun _ _ _ _ _ => by exact pe_tup (pa_cons (pv 4) (pa_cons (te := tLc (iList K (tDGet (tVar 2) (tVar 4))) (gName 10) (tB (tDIn (tOp (rIxT K) (tVar 10) (tC (.int 1))) (tVar 9))) (tVar 10) [10]) (by refine pe_lc (own := [("one", 10)]) (g := gName 10) ?_ ?_ ?_ ?_ ?_ ?_ ?_; exact rfl; exact nd; exact (pi_list (pe_dget hu (pv 2) (pv 4) (fun _ _ => rfl))); exact (blkOk_by (own := [("one", 10)]) (N := NAl) (by rfl)); exact (fun _ _ _ _ _ => pg_name (i := 10) nd rfl (Or.inl rfl)); exact (fun _ _ _ _ _ => pts_one (pt_cmp (pc_din hu (pe_ix ix_tup (pv 10) pe_int (fun _ _ => rfl)) (pv 9)) (by rfl))); exact (fun _ _ _ _ _ => pv 10)) pa_nil))))) pa_nil))))))))), ?_⟩
    -- start = tuple(distances)
    refine ⟨.ref a, rfl, a, d.map V.int, rfl, .inr ⟨SqT.of ha, ?_⟩⟩
    -- steps, queue = {start: []}, [start]
    refine fun e he => ⟨.ref a, rfl, Nat.zero_le _, fun l hl => ⟨a, ik d, .ref l, rfl, ?_, ?_, ?_⟩⟩
    · have hle : l ≠ e := fun z => by
        rw [z, upd_same] at hl
        cases hl
      rw [upd_ne hle.symm, upd_same]
    · have k : Kept H (upd (upd H e (.dT [])) l (.lst [])) := (kept_new he).trans (kept_new hl)
      rw [ik_kV]
      exact k.tup ha
    refine ⟨.ref a, rfl, (by show 1 ≤ sizeLine; decide), fun u hu0 => ⟨(by show 2 ≤ sizeLine; decide), fun T hT0 => ?_⟩⟩
    refine ⟨T, [.ref e, .ref u], rfl, SqT.of upd_same, rfl, .ref e, _, rfl, .ref u, _, rfl, rfl, ?_⟩
    have ph0 := ph_init vd ha he hl hu0 hT0 [.ref e, .ref u]
    have tb0 : Tabs2 P1 P2 (upd (upd (upd (upd (upd H e (.dT [])) l (.lst [])) e (.dT [(ik d, .ref l)])) u (.lst [.ref a])) T (.tup [.ref e, .ref u])) :=
      (((((hT).new he).new hl).upd (u := .dT []) (by
        have hle : l ≠ e := fun z => by
          rw [z, upd_same] at hl
          cases hl
        rw [upd_ne hle.symm, upd_same]) (fun ps z => nomatch z)).new hu0).new hT0
    -- while queue
    refine ⟨fun m σ H' => ∃ ks rows L bs qs y4 y5 y6, σ = [some (.ref a), some (.ref a), some (.ref e), some (.ref u), y4, y5, y6, none, none, none, none] ∧ Tabs2 P1 P2 H' ∧ Ph d H H' e u ks rows L bs qs ∧ (∀ s ∈ ks, s ∉ qs → Done d ks L s) ∧ m = 2 * (1296 - ks.length) + qs.length,
      ⟨_, [d], fun _ => l, fun _ => [], [a], [d], none, none, none, rfl, tb0, ph0, fun s hs hq => absurd hs hq, rfl⟩, fun m σ H1 hW => ?_⟩
    obtain ⟨ks, rows, L, bs, qs, y4, y5, y6, rfl, tb1, ph, hdone, rfl⟩ := hW
    refine ⟨.ref u, rfl, _, .inl ⟨_, SqL.of ph.que, rfl⟩, ?_⟩
    rcases List.eq_nil_or_concat bs with rfl | ⟨bs', b, rfl⟩
    · -- the queue is empty
      have eq0 : qs = [] := by
        have := ph.tps.len
        exact List.eq_nil_of_length_eq_zero this.symm
      subst eq0
      refine iteF ?_
      clear ph0 tb0 hT0 hu0 hl he l T
      have S := ph.stp
      have closed : ∀ s ∈ ks, L s = succs d s ∧ ∀ z ∈ succs d s, z.2 ∈ ks := fun s hs => hdone s hs List.not_mem_nil
      have few := S.few vd
      -- alive = dict([(state, True) for state in steps])
      refine ⟨e, _, S.dict, trivial, fun od => ?_⟩
      refine lc_prs (P1 := P1) (P2 := P2) (dd := e) (od := od) (m := mkR ks rows) (fun i H D vs => vs = List.replicate i (V.bl true)) (fun R r => ⟨_, rfl, r⟩) upd_same (tb1.upd S.dict (fun ps z => nomatch z)) (by rw [mkR_len]; exact few) (fun D H _ => rfl) (fun i H H' D vs acc _ h _ => h) ?_ ?_
      · intro i s v q D H2 vs acc R e1 e2 k2 t2 hD hvs r
        refine r _ H2 (Kept.refl _) t2 ?_
        rw [hvs]
        exact (List.replicate_succ').symm
      · intro D ts zs H2 k2 t2 hD hDe hp hk hv
        refine ⟨k2.frz upd_same, D, ts, zs, rfl, .inl (.inl ?_), ?_, ?_, fun p np => ?_⟩
        · rw [upd_ne hDe]
          exact hD
        · exact (tupK_unlock (k2.frz upd_same)).prs hp
        · rw [hk, show (mkR ks rows).map (fun p => ik p.1) = ks.map ik from List.map_map ..]
          exact nodup_ik S.nd
        · have eD : HO.dT (zs.map fun z => (z.1, z.2.2)) = aD ks := by
            refine congrArg HO.dT (dS_of (hk.trans (List.map_map ..)) ?_)
            rw [hv, mkR_len]
            exact (List.map_const ..).symm
          rw [eD]
          have k3 := kept_unlock S.dict k2
          have t3 : Tabs2 P1 P2 (upd H2 e (.dT (dS (mkR ks rows)))) := t2.upd (k2.frz upd_same) (fun ps z => nomatch z)
          have p0 : H p = none := ph.kept.free (k3.free np)
          have S3 := S.kept (k3.trans (kept_new (o := aD ks) np))
          have A0 : Al d H (upd (upd H2 e (.dT (dS (mkR ks rows)))) p (aD ks)) e p ks rows L ks :=
            ⟨ph.kept.trans (k3.trans (kept_new np)), S3, upd_same, p0, (fun z => by
              rw [z, upd_same] at np
              cases np), S.nd, fun _ h => h, fun _ h _ => h⟩
          have T0 : Tabs2 P1 P2 (upd (upd H2 e (.dT (dS (mkR ks rows)))) p (aD ks)) := t3.new np
          -- while is_changed
          refine ⟨fun m σ H' => ∃ as b y4 y8 y10, σ = [some (.ref a), some (.ref a), some (.ref e), some (.ref u), y4, y5, y6, some (.bl b), y8, some (.ref p), y10] ∧ Tabs2 P1 P2 H' ∧ Al d H H' e p ks rows L as ∧ (b = false → ∀ s ∈ as, lost L as s = false) ∧ m = as.length + (if b = true then 1 else 0),
            ⟨_, ks, true, y4, none, none, rfl, T0, A0, (fun z => nomatch z), rfl⟩, fun m σ H3 hW => ?_⟩
          clear T0 A0 S3 t3 t2 k2 hD hDe hp hk hv np eD k3
          obtain ⟨as, b, y4, y8, y10, rfl, T3, A3, hb, rfl⟩ := hW
          refine ⟨.bl b, rfl, b, rfl, ?_⟩
          cases b with
          | false =>
            refine iteF ?_
            refine ⟨p, _, A3.dict, trivial, fun od => ?_⟩
            obtain ⟨SL, KL⟩ := A3.put (.frz od (aD as))
            have few3 := A3.few vd
            refine lc_prs (P1 := P1) (P2 := P2) (dd := p) (od := od) (m := as.map fun s => (s, V.bl true)) (fun i H' D vs => ∃ f : List Int → Addr, vs = (as.take i).map (fun s => V.ref (f s)) ∧ ∀ s ∈ as.take i, Row H' (f s) (stay L as s) ∧ f s ≠ D) (fun R r => ⟨_, rfl, r⟩) upd_same (T3.upd A3.dict (fun ps z => nomatch z)) (by rw [List.length_map]; exact few3) (fun D H _ => ⟨fun _ => 0, rfl, fun s hs => absurd hs List.not_mem_nil⟩) ?_ ?_ ?_
            · intro i H' H'' D vs acc hD ⟨f, h1, h2⟩ k
              exact ⟨f, h1, fun s hs => ⟨k.row hD (h2 s hs).1 (h2 s hs).2, (h2 s hs).2⟩⟩
            · intro i s v q D H4 vs acc R e1 hq k4 t4 hD ⟨f, h1, h2⟩ r
              have e2 : as[i]? = some s := by
                rw [List.getElem?_map] at e1
                cases e5 : as[i]? with
                | none =>
                  rw [e5] at e1
                  cases e1
                | some r =>
                  rw [e5] at e1
                  cases e1
                  rfl
              have sa := List.mem_of_getElem? e2
              have S4 := SL.kept k4
              have hsk := A3.sub s sa
              obtain ⟨ts, g1, g2⟩ := S4.row s hsk
              have hdp : Rd H4 p (.dT (dS (as.map fun s => (s, V.bl true)))) := .inr ⟨od, k4.frz upd_same⟩
              refine ⟨_, rfl, _, rfl, e, _, rfl, S4.get hsk hq, rows s, rfl, ⟨_, SqL.of g1⟩, fun D2 nD2 => ?_⟩
              refine lc_list (xs := ts.map V.ref) (Qd := R (.ref D2)) (fun j H' => Kept H4 H' ∧ Tabs2 P1 P2 H' ∧ ∃ us : List Addr, H' D2 = some (.lst (us.map V.ref)) ∧ Paired (fun (t : Addr) (z : Nat × List Int) => ∃ q, H' t = some (.tup [.int (z.1 : Nat), .ref q]) ∧ H' q = some (.tup (z.2.map V.int))) us (((L s).take j).filter fun z => decide (z.2 ∈ as))) ?_ ?_ ?_ ?_
              · exact ⟨kept_new nD2, t4.new nD2, [], upd_same, .nil⟩
              · intro j H' _ h
                exact SqL.of (h.1.lst g1)
              · intro j x H' hx ⟨k5, t5, us, hD5, up⟩
                obtain ⟨t, ht, rfl⟩ : ∃ t, ts[j]? = some t ∧ V.ref t = x := by
                  rw [List.getElem?_map] at hx
                  cases e5 : ts[j]? with
                  | none =>
                    rw [e5] at hx
                    cases hx
                  | some q =>
                    rw [e5] at hx
                    exact ⟨q, rfl, Option.some.inj hx⟩
                obtain ⟨z, q2, ez, hz1, hz2⟩ := rowP_at g2 ht
                have hz1' := k5.tup hz1
                have hz2' := k5.tup hz2
                have hdp5 : Rd H' p (.dT (dS (as.map fun s => (s, V.bl true)))) := .inr ⟨od, k5.frz (k4.frz upd_same)⟩
                have ef : ((L s).take (j + 1)).filter (fun z => decide (z.2 ∈ as)) = ((L s).take j).filter (fun z => decide (z.2 ∈ as)) ++ if decide (z.2 ∈ as) = true then [z] else [] := by
                  rw [take_get ez, List.filter_append, List.filter_cons, List.filter_nil]
                refine ⟨rfl, .ref t, rfl, t, _, 1, .ref q2, rfl, rfl, SqT.of hz1', rfl, .ref p, rfl, p, _, rfl, .inr ⟨_, ik z.2, q2, hdp5, rfl, by rw [ik_kV]; exact hz2', rfl⟩, _, rfl, ?_⟩
                rw [aD_is]
                refine iteB (fun h => ?_) (fun h => ?_)
                · rw [h, if_pos rfl] at ef
                  rw [ef]
                  have kD : TupK H' (upd H' D2 (.lst (us.map V.ref ++ [.ref t]))) := tupK_upd hD5 (fun xs z => nomatch z)
                  refine ⟨.ref t, rfl, _, hD5, ?_, kept_own k5 nD2, t5.upd hD5 (fun ps z => nomatch z), us ++ [t], ?_, rowP_snoc (kD _ _ hz1') (kD _ _ hz2') (rowP_imp kD up)⟩
                  · have h3 := rowP_len up
                    have h4 := List.length_filter_le (fun z : Nat × List Int => decide (z.2 ∈ as)) ((L s).take j)
                    rw [List.length_take] at h4
                    have h5 : (L s).length ≤ d.length := by
                      rw [(closed s hsk).1]
                      have := List.length_filterMap_le (fun i => (srv d s i).map fun t => (i, t)) (List.range d.length)
                      rw [List.length_range] at this
                      exact this
                    have := vd.few
                    rw [List.length_map]
                    exact small_len (by omega)
                  · rw [List.map_append]
                    exact upd_same
                · rw [h, if_neg (by decide), List.append_nil] at ef
                  rw [ef]
                  exact ⟨k5, t5, us, hD5, up⟩
              · intro H' ⟨k5, t5, us, hD5, up⟩
                rw [List.length_map, rowP_len g2, List.take_length] at up
                have nt := take_not A3.nd e2
                have hDD : D ≠ D2 := ne_of_none hD nD2
                refine r _ H' k5 t5 ⟨fun r => if r = s then D2 else f r, ?_, fun x hx => ?_⟩
                · rw [h1, take_get e2, List.map_append]
                  refine congr (congrArg _ (List.map_congr_left fun x hx => ?_)) ?_
                  · show _ = V.ref (if x = s then D2 else f x)
                    rw [if_neg (fun z : x = s => nt (z ▸ hx))]
                  · show _ = [V.ref (if s = s then D2 else f s)]
                    rw [if_pos rfl]
                · rw [take_get e2] at hx
                  rcases List.mem_append.mp hx with w | w
                  · show Row H' (if x = s then D2 else f x) _ ∧ (if x = s then D2 else f x) ≠ D
                    rw [if_neg (fun z : x = s => nt (z ▸ w))]
                    exact ⟨(KeptX.of k5).row hD (h2 x w).1 (h2 x w).2, (h2 x w).2⟩
                  · rw [List.mem_singleton.mp w]
                    show Row H' (if s = s then D2 else f s) _ ∧ (if s = s then D2 else f s) ≠ D
                    rw [if_pos rfl]
                    exact ⟨⟨us, hD5, up⟩, hDD.symm⟩
            · intro D ts zs H4 k4 t4 hD hDp hp hk ⟨f, h1, h2⟩
              rw [List.length_map, List.take_length] at h1 h2
              have kU := k4.frz upd_same
              refine ⟨kU, D, ts, zs, rfl, .inl (.inl ?_), (tupK_unlock kU).prs hp, ?_, fun p2 np2 => ?_⟩
              · rw [upd_ne hDp]
                exact hD
              · rw [hk, List.map_map]
                exact nodup_ik A3.nd
              · have A5 := A3.back k4
                have eD : HO.dT (zs.map fun z => (z.1, z.2.2)) = HO.dT (dS (mkR as f)) := congrArg HO.dT (dS_of (hk.trans (List.map_map ..)) h1)
                rw [eD]
                have kN := kept_new (o := .dT (dS (mkR as f))) np2
                refine q _ p2 as f (stay L as) (A5.kept.trans kN) ((t4.upd kU (fun ps z => nomatch z)).new np2) ⟨upd_same, A5.nd, fun s hs => A5.stp.vs s (A5.sub s hs), fun s hs => ?_, fun s hs => ?_, ?_, ?_⟩
                · have hr := (h2 s hs).1
                  have hfp : f s ≠ p := by
                    obtain ⟨ts, g1, _⟩ := hr
                    exact ne_of g1 kU (fun z => nomatch z)
                  have hr2 := hr.imp (tupK_unlock kU) (upd_ne hfp)
                  have hf2 : f s ≠ p2 := by
                    obtain ⟨ts, g1, _⟩ := hr2
                    exact ne_of_none g1 np2
                  exact hr2.imp (.of kN) (upd_ne hf2)
                · obtain ⟨z, hz, hza⟩ := lost_false.mp (hb rfl s hs)
                  refine ⟨fun e0 => ?_, fun z hz => ?_⟩
                  · have : z ∈ stay L as s := List.mem_filter.mpr ⟨hz, decide_eq_true hza⟩
                    rw [e0] at this
                    cases this
                  · obtain ⟨g1, g2⟩ := List.mem_filter.mp hz
                    rw [(closed s (A5.sub s hs)).1] at g1
                    exact ⟨(mem_succs.mp g1).1, (mem_succs.mp g1).2, of_decide_eq_true g2⟩
                · refine good_of (L := as) fun t ht => ?_
                  obtain ⟨z, hz, hza⟩ := lost_false.mp (hb rfl t ht)
                  rw [(closed t (A5.sub t ht)).1] at hz
                  exact ⟨z.1, (mem_succs.mp hz).1, z.2, (mem_succs.mp hz).2, hza⟩
                · exact A5.good d ph.start
          | true =>
            refine iteT ⟨_, fun σ' H' hN => hN, ?_⟩
            -- gone = [state for state in alive if not any(later in alive for index, later in steps[state])]
            refine ⟨p, _, A3.dict, trivial, fun od => ?_⟩
            obtain ⟨SL, KL⟩ := A3.put (.frz od (aD as))
            refine lc_flt (P1 := P1) (P2 := P2) (dd := p) (od := od) (ks := as) (fun _ => V.bl true) (lost L as) (fun R r => ⟨_, rfl, r⟩) upd_same (T3.upd A3.dict (fun ps z => nomatch z)) (A3.few vd) ?_ ?_
            · intro s q H4 R hs hq k4 t4 r
              have S4 := SL.kept k4
              have hsk := A3.sub s hs
              obtain ⟨ts, g1, g2⟩ := S4.row s hsk
              obtain ⟨zs, g3, g4⟩ := row_pairs (K := K) g2
              have hdp : Rd H4 p (.dT (dS (as.map fun s => (s, V.bl true)))) := .inr ⟨od, k4.frz upd_same⟩
              refine ⟨_, rfl, _, rfl, e, _, rfl, S4.get hsk hq, rows s, ts, zs, inAs H4 as, rfl, ⟨.inl (.inl g1), g3⟩, t4.2, ⟨p, _, rfl, hdp, fun y hy => ?_⟩, fun H5 h5 => ?_⟩
              · obtain ⟨z, hz, b, e1, e2⟩ := paired_mem g4 hy
                exact ⟨b, ik z.2, e1, by rw [ik_kV]; exact e2, by rw [inAs_is e1 e2, aD_is]⟩
              · rw [any_inAs g4]
                exact ⟨_, rfl, r H5 (.tab h5 t4.2) (t4.tab h5)⟩
            · intro D bs H4 k4 t4 hDp hD hp
              refine ⟨k4.frz upd_same, ?_⟩
              have A5 := A3.back k4
              have T5 : Tabs2 P1 P2 (upd H4 p (aD as)) := t4.upd (k4.frz upd_same) (fun ps z => nomatch z)
              have hD5 : (upd H4 p (aD as)) D = some (.lst (bs.map V.ref)) := by
                rw [upd_ne hDp]
                exact hD
              have hp5 : Tps (upd H4 p (aD as)) bs (as.filter (lost L as)) := (tupK_unlock (k4.frz upd_same)).tps hp
              generalize upd H4 p (aD as) = H5 at A5 T5 hD5 hp5 ⊢
              have few5 := A5.few vd
              have lb : bs.length = (as.filter (lost L as)).length := hp5.len
              -- is_changed = len(gone) > 0
              refine ⟨.ref D, rfl, D, _, rfl, .inl (SqL.of hD5), _, _, rfl, rfl, ?_⟩
              -- for state in gone: del alive[state]
              refine ⟨.ref D, rfl, D, rfl, ⟨_, SqL.of hD5⟩, ?_⟩
              refine for_list (xs := bs.map V.ref) (fun i σ H' => ∃ y4, σ = [some (.ref a), some (.ref a), some (.ref e), some (.ref u), y4, y5, y6, some (.bl (decide ((((bs.map V.ref).length : Nat) : Int) > 0))), some (.ref D), some (.ref p), y10] ∧ Tabs2 P1 P2 H' ∧ Kept H H' ∧ Stp d H H' e ks rows L ∧ H' p = some (aD (as.filter fun r => decide (r ∉ (as.filter (lost L as)).take i))) ∧ H' D = some (.lst (bs.map V.ref)) ∧ Tps H' bs (as.filter (lost L as))) ?_ ?_ ?_ ?_
              · refine ⟨_, rfl, T5, A5.kept, A5.stp, ?_, hD5, hp5⟩
                rw [A5.dict]
                refine congrArg (fun l => some (aD l)) (filter_all fun x _ => decide_eq_true List.not_mem_nil).symm
              · rintro i σ H' _ ⟨_, _, _, _, _, _, h, _⟩
                exact SqL.of h
              · rintro i x σ H' hx ⟨y4, rfl, T6, K6, S6, hp6, hD6, tp6⟩
                obtain ⟨q, hq, rfl⟩ : ∃ q, bs[i]? = some q ∧ V.ref q = x := by
                  rw [List.getElem?_map] at hx
                  cases e5 : bs[i]? with
                  | none =>
                    rw [e5] at hx
                    cases hx
                  | some q =>
                    rw [e5] at hx
                    exact ⟨q, rfl, Option.some.inj hx⟩
                obtain ⟨s, hs, hqs⟩ := tp6.get hq
                have sa : s ∈ as := (List.mem_filter.mp (List.mem_of_getElem? hs)).1
                have ng := take_not (A5.nd.filter _) hs
                refine ⟨_, rfl, _, rfl, p, _, ik s, q, rfl, hp6, rfl, by rw [ik_kV]; exact hqs, ?_, ?_⟩
                · rw [aD_is]
                  exact decide_eq_true (List.mem_filter.mpr ⟨sa, decide_eq_true ng⟩)
                · rw [aD_drop, filter_take hs]
                  have kk : TupK H' (upd H' p (aD (as.filter fun r => decide (r ∉ (as.filter (lost L as)).take (i + 1))))) := tupK_upd hp6 (fun xs z => nomatch z)
                  have pD : D ≠ p := ne_of hD6 hp6 (fun z => nomatch z)
                  refine ⟨_, rfl, T6.upd hp6 (fun ps z => nomatch z), kept_own K6 A5.p0, S6.imp kk (upd_ne A5.pe.symm) (fun s hs => upd_ne (A5.rne hs)), upd_same, ?_, kk.tps tp6⟩
                  rw [upd_ne pD]
                  exact hD6
              · rintro σ H' ⟨y4', rfl, T6, K6, S6, hp6, hD6, tp6⟩
                rw [List.length_map, lb, List.take_length] at hp6
                have gd : ∀ s ∈ ks, Good d s → s ∈ rest L as := rest_good closed A5.good
                have A6 : Al d H H' e p ks rows L (rest L as) := ⟨K6, S6, hp6, A5.p0, A5.pe, A5.nd.filter _, fun s hs => A5.sub s (List.mem_filter.mp hs).1, gd⟩
                by_cases en : as.filter (lost L as) = []
                · obtain ⟨r1, r2⟩ := rest_none en
                  have l0 : bs.length = 0 := by rw [lb, en]; rfl
                  rw [r1] at A6
                  refine ⟨as.length, by show as.length < as.length + 1; omega, as, false, y4', some (.ref D), y10, ?_, T6, A6, (fun _ => r2), rfl⟩
                  rw [show decide ((((bs.map V.ref).length : Nat) : Int) > 0) = false from decide_eq_false (by rw [List.length_map, l0]; decide)]
                · have := rest_lt en
                  have l0 : bs.length ≠ 0 := fun z => en (List.eq_nil_of_length_eq_zero (by rw [← lb]; exact z))
                  refine ⟨(rest L as).length + 1, by show (rest L as).length + 1 < as.length + 1; omega, rest L as, true, y4', some (.ref D), y10, ?_, T6, A6, (fun z => nomatch z), rfl⟩
                  rw [show decide ((((bs.map V.ref).length : Nat) : Int) > 0) = true from decide_eq_true (by rw [List.length_map]; omega)]
    · rw [List.concat_eq_append] at ph
      obtain ⟨qs', s, rfl⟩ : ∃ qs' s, qs = qs' ++ [s] := by
        have hne : qs ≠ [] := fun z => by
          have := ph.tps.len
          rw [z, List.length_append] at this
          cases this
        exact ⟨qs.dropLast, qs.getLast hne, (List.dropLast_concat_getLast hne).symm⟩
      rw [List.concat_eq_append]
      have ek : (!((bs' ++ [b]).map V.ref).isEmpty) = true := by
        rw [List.map_append]
        cases bs'.map V.ref <;> rfl
      rw [ek]
      refine iteT ⟨_, fun σ' H' hN => hN, ?_⟩
      obtain ⟨ph1, hs, hLs, hsq, hbs⟩ := ph.pop
      -- state = queue.pop()
      refine ⟨.ref u, rfl, .inl ⟨rfl, _, SqL.of ph.que⟩, u, _, .ref b, rfl, rfl, ph.que, ?_, ?_⟩
      · rw [List.map_append, List.length_append]
        exact List.getElem?_concat_length
      have edl : ((bs' ++ [b]).map V.ref).dropLast = bs'.map V.ref := by
        rw [List.map_append]
        exact List.dropLast_concat
      rw [edl]
      have tb2 : Tabs2 P1 P2 (upd H1 u (.lst (bs'.map V.ref))) := tb1.upd ph.que (fun ps z => nomatch z)
      have in0 : In1 d H (upd H1 u (.lst (bs'.map V.ref))) e u b s 0 (2 * (1296 - ks.length) + (qs' ++ [s]).length) ks rows L bs' qs' :=
        ⟨ph1, hbs, hs, hsq, hLs, fun z hz => absurd hz List.not_mem_nil, fun r hr hrq hne => hdone r hr fun z => (List.mem_append.mp z).elim hrq fun w => hne (List.mem_singleton.mp w), by rw [List.length_append]; show _ < _ + (qs'.length + 1); omega⟩
      generalize 2 * (1296 - ks.length) + (qs' ++ [s]).length = m0 at in0 ⊢
      -- for index in range(len(distances))
      refine ⟨.ref a, rfl, a, d.map V.int, rfl, .inr (SqT.of (ph1.kept.tup ha)), _, rfl, ?_, ?_, ?_⟩
      · have := vd.few
        rw [List.length_map]
        omega
      · have := vd.few
        rw [List.length_map]
        omega
      have en : (((d.map V.int).length : Nat) : Int).toNat = d.length := by rw [List.length_map]; rfl
      rw [en]
      refine for_range (lo := 0) (n := d.length) (fun j σ H' => ∃ ks rows L bs qs y5 y6, σ = [some (.ref a), some (.ref a), some (.ref e), some (.ref u), some (.ref b), y5, y6, none, none, none, none] ∧ Tabs2 P1 P2 H' ∧ In1 d H H' e u b s j m0 ks rows L bs qs) ⟨ks, rows, L, bs', qs', y5, y6, rfl, tb2, in0⟩ ?_ ?_
      · rintro j σ H3 hj ⟨ks, rows, L, bs, qs, y5, y6, rfl, tb3, I⟩
        rw [show (0 : Int) + (j : Nat) = ((j : Nat) : Int) from Int.zero_add _]
        -- later = served(distances, state, index)
        have hda : H3 a = some (.tup (d.map V.int)) := I.ph.kept.tup ha
        have vs := I.ph.stp.vs s I.hs
        refine ⟨_, rfl, _, rfl, _, rfl, a, b, d, s, j, rfl, hda, I.hb, vs.len, hj, (by have := vd.few; omega), fun hn H4 sm => ?_, fun t ht H4 p sm np hp => ?_⟩
        · -- nothing follows
          refine ⟨_, rfl, rfl, _, rfl, iteNS rfl ?_⟩
          exact ⟨ks, rows, L, bs, qs, _, _, rfl, tb3.same sm, I.skip hn (.of sm)⟩
        · have I4 := I.same (.of sm)
          have tb4 : Tabs2 P1 P2 H4 := tb3.same sm
          refine ⟨_, rfl, rfl, _, rfl, iteNT (fun z => nomatch z) ?_⟩
          -- steps[state].append((index, later))
          obtain ⟨xs, hxs⟩ := I4.ph.stp.lst I4.hs
          refine ⟨_, rfl, _, rfl, e, _, rfl, I4.ph.stp.get I4.hs I4.hb, .inl ⟨rfl, _, SqL.of hxs⟩, _, rfl, _, rfl, (by show 2 ≤ sizeLine; decide), fun T nT => ?_⟩
          have I5 := I4.same (kept_new (o := .tup [.int (j : Nat), .ref p]) nT)
          have tb5 := tb4.new (o := .tup [.int (j : Nat), .ref p]) nT
          have hT5 : (upd H4 T (.tup [.int (j : Nat), .ref p])) T = some (.tup [.int (j : Nat), .ref p]) := upd_same
          have hp5 : (upd H4 T (.tup [.int (j : Nat), .ref p])) p = some (.tup (t.map V.int)) := by
            rw [upd_ne (ne_of_none hp nT)]
            exact hp
          have hxs5 : (upd H4 T (.tup [.int (j : Nat), .ref p])) (rows s) = some (.lst xs) := by
            rw [upd_ne (ne_of_none hxs nT)]
            exact hxs
          have hxl : xs.length < sizeLine := by
            obtain ⟨ts, g1, g2⟩ := I4.ph.stp.row s I4.hs
            rw [hxs] at g1
            cases g1
            rw [List.length_map, rowP_len g2, I4.row]
            refine small_len ?_
            have h1 : (succsN d s j).length ≤ (List.range j).length := List.length_filterMap_le _ _
            rw [List.length_range] at h1
            have := vd.few
            omega
          generalize upd H4 T (.tup [.int (j : Nat), .ref p]) = H5 at I5 tb5 hT5 hp5 hxs5 ⊢
          refine ⟨rows s, xs, _, rfl, rfl, hxs5, hxl, ?_⟩
          obtain ⟨ph6, in6⟩ := I5.push ht hxs5 hT5 hp5
          have tb6 : Tabs2 P1 P2 (upd H5 (rows s) (.lst (xs ++ [.ref T]))) := tb5.upd hxs5 (fun ps z => nomatch z)
          have hp6 : (upd H5 (rows s) (.lst (xs ++ [.ref T]))) p = some (.tup (t.map V.int)) := tupK_upd hxs5 (fun _ z => nomatch z) _ _ hp5
          -- if later not in steps
          obtain ⟨o, ho, eo⟩ := ph6.stp.has hp6
          refine ⟨_, rfl, _, rfl, e, o, rfl, ho, _, rfl, ?_⟩
          rw [eo]
          refine ite_same (fun en => ?_) (fun en => ?_)
          · have htk : t ∉ ks := fun z => by
              rw [decide_eq_true z] at en
              cases en
            -- steps[later] = []
            refine ⟨Nat.zero_le _, fun l2 nl2 => ⟨_, rfl, _, rfl, e, _, rfl, DPut.t (k := ik t) (kvs := dS (mkR ks rows)) ?_ ?_ ?_, ?_⟩⟩
            · rw [upd_ne (ne_of_none ph6.stp.dict nl2)]
              exact ph6.stp.dict
            · rw [ik_kV, upd_ne (ne_of_none hp6 nl2)]
              exact hp6
            · rw [dS_len, mkR_len]
              exact small_len (by have := I.ph.stp.few vd; omega)
            have n0 : H l2 = none := ph6.kept.free nl2
            obtain ⟨rows', L', I7⟩ := I5.grow vd ht hxs5 hT5 hp5 htk nl2 n0
            -- queue.append(later)
            have hlu : l2 ≠ u := (ne_of_none ph6.que nl2).symm
            have que7 : (upd (upd (upd H5 (rows s) (.lst (xs ++ [.ref T]))) l2 (.lst [])) e (.dT (putK (dS (mkR ks rows)) (ik t) (.ref l2)))) u = some (.lst (bs.map V.ref)) := by
              rw [upd_ne ph6.ne, upd_ne hlu.symm]
              exact ph6.que
            refine ⟨_, rfl, .inl ⟨rfl, _, SqL.of que7⟩, _, rfl, u, _, _, rfl, rfl, que7, ?_, ?_⟩
            · rw [List.length_map, I.ph.tps.len]
              refine small_len ?_
              have h1 := nodup_le I.ph.qnd fun q hq => (I.ph.qok q hq).1
              have := I.ph.stp.few vd
              omega
            · refine ⟨ks ++ [t], rows', L', bs ++ [p], qs ++ [t], _, _, rfl, ?_, ?_⟩
              · have t7 := (tb6.new (o := .lst []) nl2).upd (p := e) (o := .dT (putK (dS (mkR ks rows)) (ik t) (.ref l2))) (u := .dT (dS (mkR ks rows))) (by rw [upd_ne (ne_of_none ph6.stp.dict nl2)]; exact ph6.stp.dict) (fun ps z => nomatch z)
                exact t7.upd que7 (fun ps z => nomatch z)
              · rw [List.map_append] at I7
                exact I7
          · have htk : t ∈ ks := by
              refine Classical.byContradiction fun z => en ?_
              rw [decide_eq_false z]
              rfl
            exact ⟨ks, rows, _, bs, qs, _, _, rfl, tb6, in6 htk⟩
      · rintro σ H3 ⟨ks, rows, L, bs, qs, y5, y6, rfl, tb3, I⟩
        refine ⟨_, I.lt, ks, rows, L, bs, qs, _, _, _, rfl, tb3, I.ph, fun r hr hrq => ?_, rfl⟩
        by_cases er : r = s
        · rw [er]
          exact ⟨I.row, I.cl⟩
        · exact I.oth r hr hrq er
end
end K64
/-! ring_for -/
namespace K64
open PySem PySem.Spec PyProof.Rows L2 GxR
def nV (l : List Nat) : List V := l.map fun i => V.int (i : Nat)
theorem cut_from {xs : List V} {j : Nat} (h : j ≤ xs.length) : cutV xs (some (j : Int)) none = xs.drop j := by
  have e1 : HT.sIx xs.length 0 (some (j : Int)) = j := by
    unfold HT.sIx
    simp only []
    rw [if_neg (by omega), Int.toNat_natCast]
    exact Nat.min_eq_left h
  have e2 : HT.sIx xs.length xs.length none = xs.length := rfl
  unfold cutV
  rw [e1, e2, List.take_of_length_le (by rw [List.length_drop]; exact Nat.le_refl _)]
/-- on the walk: the states so far, each with its place -/
structure Wk (d : List Int) (as sts : List (List Int)) (l : List Nat) (cur : List Int) (m : List (List Int × V)) : Prop where
  len : sts.length = l.length
  nd : sts.Nodup
  sub : ∀ s ∈ sts, s ∈ as
  at1 : ∀ i s, sts[i]? = some s → walk d d (l.take i) = some s
  here : walk d d l = some cur
  alive : cur ∈ as
  ix : ∀ i ∈ l, i < d.length
  keys : m.map (·.1) = sts
  val : ∀ i s, sts[i]? = some s → valV m s = some (.int (i : Nat))
section
variable {d : List Int} {as sts : List (List Int)} {l : List Nat} {cur : List Int} {m : List (List Int × V)}
theorem Wk.has (W : Wk d as sts l cur m) (s : List Int) : (valV m s).isSome = decide (s ∈ sts) := by
  by_cases e : s ∈ sts
  · rw [decide_eq_true e]
    exact valV_isSome.mpr (by rw [W.keys]; exact e)
  · rw [decide_eq_false e]
    cases q : valV m s with
    | none => rfl
    | some v =>
      have : (valV m s).isSome = true := by rw [q]; rfl
      exact absurd (by rw [← W.keys]; exact valV_isSome.mp this) e
theorem Wk.room (nd : as.Nodup) (W : Wk d as sts l cur m) (h : cur ∉ sts) : sts.length + 1 ≤ as.length := by
  have := nodup_le (nd_snoc W.nd h) (m := as) fun s hs => (List.mem_append.mp hs).elim (W.sub s) fun z => by
    rw [List.mem_singleton.mp z]
    exact W.alive
  rw [List.length_append, List.length_singleton] at this
  exact this
theorem Wk.le (W : Wk d as sts l cur m) : sts.length ≤ as.length := nodup_le W.nd W.sub
theorem Wk.go (W : Wk d as sts l cur m) (h : cur ∉ sts) {i : Nat} {t : List Int} (hi : i < d.length) (e : srv d cur i = some t) (ht : t ∈ as) : Wk d as (sts ++ [cur]) (l ++ [i]) t (putK m cur (.int (l.length : Nat))) := by
  have hv : valV m cur = none := by
    have := W.has cur
    rw [decide_eq_false h] at this
    cases q : valV m cur with
    | none => rfl
    | some v =>
      rw [q] at this
      cases this
  refine ⟨by rw [List.length_append, List.length_append, W.len]; rfl, nd_snoc W.nd h, fun s hs => ?_, fun j s hs => ?_, walk_snoc W.here e, ht, fun x hx => ?_, ?_, fun j s hs => ?_⟩
  · rcases List.mem_append.mp hs with q | q
    · exact W.sub s q
    · rw [List.mem_singleton.mp q]
      exact W.alive
  · by_cases hj : j < sts.length
    · rw [List.getElem?_append_left hj] at hs
      rw [List.take_append_of_le_length (by rw [← W.len]; omega)]
      exact W.at1 j s hs
    · rw [List.getElem?_append_right (by omega)] at hs
      have ej : j - sts.length = 0 := by
        have := (List.getElem?_eq_some_iff.mp hs).1
        rw [List.length_singleton] at this
        omega
      rw [ej] at hs
      cases hs
      have : j = l.length := by rw [← W.len]; omega
      rw [this, List.take_left]
      exact W.here
  · rcases List.mem_append.mp hx with q | q
    · exact W.ix x q
    · rw [List.mem_singleton.mp q]
      exact hi
  · rw [putK_new _ hv, List.map_append, W.keys]
    rfl
  · rw [valV_put]
    by_cases hj : j < sts.length
    · rw [List.getElem?_append_left hj] at hs
      rw [if_neg (fun z : s = cur => h (z ▸ List.mem_of_getElem? hs))]
      exact W.val j s hs
    · rw [List.getElem?_append_right (by omega)] at hs
      have ej : j - sts.length = 0 := by
        have := (List.getElem?_eq_some_iff.mp hs).1
        rw [List.length_singleton] at this
        omega
      rw [ej] at hs
      cases hs
      have : j = l.length := by rw [← W.len]; omega
      rw [if_pos rfl, this]
/-- the state comes again: a ring -/
theorem Wk.ring (W : Wk d as sts l cur m) (hv : ∀ s ∈ as, Vs d s) (h : cur ∈ sts) : ∃ j, j < l.length ∧ valV m cur = some (.int (j : Nat)) ∧ IsRing d (l.drop j) := by
  obtain ⟨j, hj, e⟩ := List.getElem_of_mem h
  have ej : sts[j]? = some cur := by rw [List.getElem?_eq_getElem hj, e]
  have hl : j < l.length := by rw [← W.len]; exact hj
  refine ⟨j, hl, W.val j cur ej, fun z => ?_, fun i hi => W.ix i (List.mem_of_mem_drop hi), cur, hv cur W.alive, ?_⟩
  · have := congrArg List.length z
    rw [List.length_drop, List.length_nil] at this
    omega
  · have h1 := W.here
    rw [← List.take_append_drop j l, walk_app, W.at1 j cur ej] at h1
    exact h1
end
def spRing (P1 P2 : Addr) : Sp := fun vs H Q _ => ∃ (a : Addr) (d : List Int), vs = [.ref a] ∧ H a = some (.tup (d.map V.int)) ∧ Vd d ∧ Tabs2 P1 P2 H ∧
  (¬ Good d d → ∀ H', Kept H H' → Tabs2 P1 P2 H' → Q .non H') ∧ (Good d d → ∀ H' t r, Kept H H' → Tabs2 P1 P2 H' → IsRing d r → r.length ≤ 1296 → H' t = some (.tup (nV r)) → Q (.ref t) H')
section
variable {P : Program} {w : World} {K : PySem.W.Frag} {mg : Str → Option Value} {base : Heap}
theorem ok_ring {f fA fN P1 P2 : Addr} {fd fdA fdN : FuncData} (F : Fun K "ring_for" "ring_for" sRing f fd) (M : Nm mg)
    (GN : FnOk P w K mg base CX0 2 fN fdN ["distances"] (spNeed P1)) (bN : L2.Binds K fdN ["distances"] []) (gN : mg "need_distances" = some (.ref fN)) (FN : Fun K "need_distances" "need_distances" sNeed fN fdN)
    (GA : FnOk P w K mg base CX0 2 fA fdA ["distances"] (spAlive P1 P2)) (bA : L2.Binds K fdA ["distances"] []) (gA : mg "alive_states" = some (.ref fA)) (FA : Fun K "alive_states" "alive_states" sAlive fA fdA) :
    FnOk P w K mg base CX0 3 f fd ["distances"] (spRing P1 P2) := by
  refine F.ok scRing (fun vs H Q E h => ?_) (fun cdv A outer st0 H vs Q E hr h => ?_)
  · obtain ⟨a, d, rfl, _⟩ := h
    rfl
  · obtain ⟨a, d, rfl, ha, vd, hT, q0, q1⟩ := h
    have hu := hu_of hr
    have nd := scRing.nd
    refine ⟨_,
      pss_cons (ps_expr (pe_call GN hr (by rfl) gN FN.kp bN .nil pass0 (pa_cons (pv 0) pa_nil)))
      (pss_cons (ps_set (i := 1) nd rfl (.inl rfl) (pe_call GA hr (by rfl) gA FA.kp bA .nil pass0 (pa_cons (pv 0) pa_nil)))
      (pss_cons (ps_par3 (i := 2) (j := 3) (l := 4) rfl nd rfl rfl rfl (by decide) (by decide) (by decide) rfl rfl rfl (pa_cons (pe_callTy call_tuple_of (by rfl) M.tuple (by decide +kernel) (pa_cons (pv 0) pa_nil)) (pa_cons pe_dnewT (pa_cons (pe_lst pa_nil) pa_nil))) rfl)
      (pss_cons (ps_if (pt_cmp (pc_dnotin hu (pv 2) (pv 1)) (by rfl)) (pss_one (ps_ret pe_non)) pss_nil)
      (pss_cons (ps_while PassesOwn.never (pt_cmp (pc_dnotin hu (pv 2) (pv 3)) (by rfl))
        (pss_cons (ps_dput hu (pv 3) (pv 2) (pe_callB call_len_seq (by rfl) M.len PySem.boot_len (pa_cons (pv 4) pa_nil)) rfl)
        (pss_cons (ps_asg (pe_ix ix_list (pe_dget hu (pv 1) (pv 2) (fun _ _ => rfl)) pe_int (fun _ _ => rfl)) (pg_tup rfl (pgs_cons (pg_name (i := 5) nd rfl (.inl rfl)) (pgs_cons (pg_name (i := 2) nd rfl (.inl rfl)) pgs_nil))))
        (pss_one (ps_expr (pe_bm PySem.F.plainAttrs_list PySem.F.slot_list_append PySem.F.type_list_append mt_append (pv 4) (pa_cons (pv 5) pa_nil)))))))
      (pss_one (ps_ret (pe_callTy call_tuple_of (by rfl) M.tuple (by decide +kernel) (pa_cons (pe_slice sl_list (pv 4) (po_some (pe_dget hu (pv 3) (pv 2) (fun _ _ => rfl))) po_none) pa_nil)))))))), ?_⟩
    -- need_distances(distances)
    refine ⟨_, rfl, a, d, rfl, ha, vd.pos, vd.few, (fun x hx => by have := vd.rng x hx; omega), hT.1, fun H1 h1 => ?_⟩
    have k1 : Kept H H1 := .tab h1 hT.1
    have T1 : Tabs2 P1 P2 H1 := hT.tab h1
    -- steps = alive_states(distances)
    refine ⟨_, rfl, a, d, rfl, k1.tup ha, vd, T1, fun H2 p as rows L k2 T2 AD => ?_⟩
    have ha2 := (k1.trans k2).tup ha
    -- state, seen, found = tuple(distances), {}, []
    refine ⟨.ref a, rfl, a, d.map V.int, rfl, .inr ⟨SqT.of ha2, fun sn nsn => ⟨Nat.zero_le _, fun fo nfo => ⟨_, _, _, rfl, ?_⟩⟩⟩⟩
    have n0 : H2 fo = none := (kept_new nsn).free nfo
    have hne : sn ≠ fo := fun z => by
      rw [← z, upd_same] at nfo
      cases nfo
    have k3 : Kept H2 (upd (upd H2 sn (.dT [])) fo (.lst [])) := (kept_new nsn).trans (kept_new nfo)
    have T3 : Tabs2 P1 P2 (upd (upd H2 sn (.dT [])) fo (.lst [])) := (T2.new nsn).new nfo
    have hsn : (upd (upd H2 sn (.dT [])) fo (.lst [])) sn = some (.dT (dS [])) := by
      rw [upd_ne hne, upd_same]
      rfl
    have hfo : (upd (upd H2 sn (.dT [])) fo (.lst [])) fo = some (.lst (nV [])) := upd_same
    generalize upd (upd H2 sn (.dT [])) fo (.lst []) = H3 at k3 T3 hsn hfo ⊢
    -- if state not in steps
    refine ⟨_, rfl, _, rfl, p, _, rfl, .inr ⟨_, ik d, a, .inl (k3.dT AD.dict), rfl, by rw [ik_kV]; exact k3.tup ha2, rfl⟩, _, rfl, ?_⟩
    rw [valV_dS, show (valV (mkR as rows) d).isSome = decide (d ∈ as) from valV_map_is (fun s => V.ref (rows s)) d as]
    refine ite_same (fun en => ?_) (fun en => ?_)
    · have hn : d ∉ as := fun z => by
        rw [decide_eq_true z] at en
        cases en
      exact q0 (fun g => hn (AD.good.mpr g)) H3 (k1.trans (k2.trans k3)) T3
    have hda : d ∈ as := by
      refine Classical.byContradiction fun z => en ?_
      rw [decide_eq_false z]
      rfl
    have gd := AD.good.mp hda
    have few := few_states vd AD.nd AD.vs
    -- while state not in seen
    refine ⟨fun m σ H' => ∃ sts l cur mm b y5, σ = [some (.ref a), some (.ref p), some (.ref b), some (.ref sn), some (.ref fo), y5] ∧ Kept H2 H' ∧ Tabs2 P1 P2 H' ∧ H' b = some (.tup (cur.map V.int)) ∧ H' sn = some (.dT (dS mm)) ∧ H' fo = some (.lst (nV l)) ∧ Wk d as sts l cur mm ∧ m = as.length - sts.length,
      ⟨_, [], [], d, [], a, none, rfl, k3, T3, k3.tup ha2, hsn, hfo, ⟨rfl, List.nodup_nil, fun s hs => absurd hs List.not_mem_nil, fun i s hs => by simp at hs, rfl, hda, fun i hi => absurd hi List.not_mem_nil, rfl, fun i s hs => by simp at hs⟩, rfl⟩, fun m σ H4 hW => ?_⟩
    obtain ⟨sts, l, cur, mm, b, y5, rfl, k4, T4, hb, hsn4, hfo4, W, rfl⟩ := hW
    have hml : mm.length = sts.length := by
      have := congrArg List.length W.keys
      rw [List.length_map] at this
      exact this
    have hle := W.le
    refine ⟨_, rfl, _, rfl, sn, _, rfl, .inr ⟨_, ik cur, b, .inl hsn4, rfl, by rw [ik_kV]; exact hb, rfl⟩, _, rfl, ?_⟩
    rw [valV_dS, W.has cur]
    refine ite_same (fun en => ?_) (fun en => ?_)
    · have hn : cur ∉ sts := fun z => by
        rw [decide_eq_true z] at en
        cases en
      refine ⟨_, fun σ' H' hN => hN, ?_⟩
      have rm := W.room AD.nd hn
      -- seen[state] = len(found)
      refine ⟨.ref fo, rfl, fo, nV l, rfl, .inl (SqL.of hfo4), _, rfl, _, rfl, sn, _, rfl, DPut.t (k := ik cur) (kvs := dS mm) hsn4 (by rw [ik_kV]; exact hb) (by rw [dS_len, hml]; exact small_len (by omega)), ?_⟩
      rw [putK_dS, show (nV l).length = l.length from List.length_map ..]
      have k5 : Kept H2 (upd H4 sn (.dT (dS (putK mm cur (.int (l.length : Nat)))))) := kept_own k4 nsn
      have T5 : Tabs2 P1 P2 (upd H4 sn (.dT (dS (putK mm cur (.int (l.length : Nat)))))) := T4.upd hsn4 (fun ps z => nomatch z)
      have hb5 : (upd H4 sn (.dT (dS (putK mm cur (.int (l.length : Nat)))))) b = some (.tup (cur.map V.int)) := tupK_upd hsn4 (fun _ z => nomatch z) _ _ hb
      have hsn5 : (upd H4 sn (.dT (dS (putK mm cur (.int (l.length : Nat)))))) sn = some (.dT (dS (putK mm cur (.int (l.length : Nat))))) := upd_same
      have hfo5 : (upd H4 sn (.dT (dS (putK mm cur (.int (l.length : Nat)))))) fo = some (.lst (nV l)) := by
        rw [upd_ne hne.symm]
        exact hfo4
      generalize upd H4 sn (.dT (dS (putK mm cur (.int (l.length : Nat))))) = H5 at k5 T5 hb5 hsn5 hfo5 ⊢
      -- index, state = steps[state][0]
      obtain ⟨ts, g1, g2⟩ := AD.row cur W.alive
      obtain ⟨w1, w2⟩ := AD.ways cur W.alive
      have vl : valV (dS (mkR as rows)) (ik cur) = some (.ref (rows cur)) := by
        rw [valV_dS]
        exact valV_map (f := fun s => V.ref (rows s)) W.alive
      cases hL : L cur with
      | nil => exact absurd hL w1
      | cons z zs =>
        rw [hL] at g2
        cases g2 with
        | cons hz tz =>
          rename_i t ts
          obtain ⟨q, hz1, hz2⟩ := hz
          obtain ⟨w3, w4, w5⟩ := w2 z (by rw [hL]; exact List.mem_cons_self)
          refine ⟨_, rfl, _, rfl, p, _, rfl, .inr ⟨_, ik cur, b, .inl (k5.dT AD.dict), rfl, by rw [ik_kV]; exact hb5, vl.symm⟩, rows cur, _, 0, .ref t, rfl, rfl, SqL.of (k5.lst g1), (atI_nat (xs := (t :: ts).map V.ref) (j := 0) rfl), t, _, rfl, SqT.of (k5.tup hz1), rfl, _, _, rfl, _, _, rfl, rfl, ?_⟩
          -- found.append(index)
          refine ⟨_, rfl, .inl ⟨rfl, _, SqL.of hfo5⟩, _, rfl, fo, _, _, rfl, rfl, hfo5, by rw [show (nV l).length = l.length from List.length_map .., ← W.len]; exact small_len (by omega), ?_⟩
          have kD : TupK H5 (upd H5 fo (.lst (nV l ++ [.int (z.1 : Nat)]))) := tupK_upd hfo5 (fun xs z => nomatch z)
          refine ⟨as.length - (sts ++ [cur]).length, by rw [List.length_append, List.length_singleton]; omega, sts ++ [cur], l ++ [z.1], z.2, putK mm cur (.int (l.length : Nat)), q, _, rfl, kept_own k5 n0, T5.upd hfo5 (fun ps z => nomatch z), kD _ _ (k5.tup hz2), ?_, ?_, W.go hn w3 w4 w5, rfl⟩
          · rw [upd_ne hne]
            exact hsn5
          · rw [upd_same]
            unfold nV
            rw [List.map_append]
            rfl
    · have hin : cur ∈ sts := by
        refine Classical.byContradiction fun z => en ?_
        rw [decide_eq_false z]
        rfl
      obtain ⟨j, hj, vj, R⟩ := W.ring AD.vs hin
      -- return tuple(found[seen[state]:])
      refine ⟨_, rfl, _, rfl, _, rfl, sn, _, rfl, .inr ⟨_, ik cur, b, .inl hsn4, rfl, by rw [ik_kV]; exact hb, (by rw [valV_dS]; exact vj.symm)⟩, _, rfl, fo, _, rfl, SqL.of hfo4, fun s ns => ?_⟩
      rw [cut_from (by rw [show (nV l).length = l.length from List.length_map ..]; omega)]
      refine ⟨s, _, rfl, .inl ⟨SqL.of upd_same, fun t nt => ?_⟩⟩
      have hlen : (l.drop j).length ≤ 1296 := by
        rw [List.length_drop, ← W.len]
        omega
      refine q1 gd _ t (l.drop j) (k1.trans (k2.trans (k4.trans ((kept_new ns).trans (kept_new nt))))) ((T4.new ns).new nt) R hlen ?_
      rw [upd_same]
      unfold nV
      rw [List.map_drop]
end
end K64
/-! What draws from the script: _law_taken, _law_pick. -/
namespace K64
open PySem PySem.Spec PyProof.Rows L2 GxR
/-- the row of the draws at rw: a script at sc, three ints -/
def RowSt (H : Hp) (rw : Addr) (sc : Addr) : Prop := ∃ i j k : Int, 0 ≤ i ∧ H rw = some (.lst [.ref sc, .int i, .int j, .int k])
/-- all but rw stays -/
def Off (rw : Addr) (H H' : Hp) : Prop := ∀ b, b ≠ rw → H' b = H b
theorem Off.refl (rw : Addr) (H : Hp) : Off rw H H := fun _ _ => rfl
theorem Off.trans {rw : Addr} {H H1 H2 : Hp} (a : Off rw H H1) (b : Off rw H1 H2) : Off rw H H2 := fun c h => (b c h).trans (a c h)
theorem off_upd {rw : Addr} {H : Hp} {o : HO} : Off rw H (upd H rw o) := fun b h => upd_ne h
/-- the script's list: it stays while the row is written -/
def Sc (K : PySem.W.Frag) (rw sc : Addr) (ns : List Int) (H : Hp) : Prop := (Rd H sc (.lst (ns.map V.int)) ∧ sc ≠ rw) ∨ ∀ H', SqL K H' sc (ns.map V.int)
theorem Sc.sql {K : PySem.W.Frag} {rw sc : Addr} {ns : List Int} {H : Hp} (h : Sc K rw sc ns H) : SqL K H sc (ns.map V.int) := by
  rcases h with h | h
  · exact .inl h.1
  · exact h H
theorem Sc.off {K : PySem.W.Frag} {rw sc : Addr} {ns : List Int} {H H' : Hp} (h : Sc K rw sc ns H) (o : Off rw H H') : Sc K rw sc ns H' := by
  rcases h with ⟨h, n⟩ | h
  · have e := o sc n
    rcases h with h | ⟨q, h⟩
    · exact .inl ⟨.inl (by rw [e]; exact h), n⟩
    · exact .inl ⟨.inr ⟨q, by rw [e]; exact h⟩, n⟩
  · exact .inr h
theorem Sc.kx {K : PySem.W.Frag} {rw sc : Addr} {ns : List Int} {H H' : Hp} (h : Sc K rw sc ns H) (k : KeptX rw H H') : Sc K rw sc ns H' := by
  rcases h with ⟨h, n⟩ | h
  · rcases h with h | ⟨q, h⟩
    · exact .inl ⟨.inl (k _ _ n h (fun ps z => nomatch z)), n⟩
    · exact .inl ⟨.inr ⟨q, k _ _ n h (fun ps z => nomatch z)⟩, n⟩
  · exact .inr h
/-- a new row -/
theorem Sc.make {K : PySem.W.Frag} {rw sc : Addr} {ns : List Int} {H : Hp} (h : SqL K H sc (ns.map V.int)) (n : H rw = none) : Sc K rw sc ns H := by
  rcases h with h | h
  · refine .inl ⟨h, ?_⟩
    rcases h with h | ⟨q, h⟩
    · exact ne_of_none h n
    · exact ne_of_none h n
  · exact .inr fun H' => .inr h
def spTaken (K : PySem.W.Frag) : Sp := fun vs H Q _ => ∃ (rw sc : Addr) (m : Int) (ns : List Int), vs = [.ref rw, .int m] ∧ RowSt H rw sc ∧ Sc K rw sc ns H ∧ 1 ≤ m ∧ m < 1000 ∧
  ∀ r H', 0 ≤ r → r < m → Off rw H H' → RowSt H' rw sc → Q (.int r) H'
section
variable {P : Program} {w : World} {K : PySem.W.Frag} {mg : Str → Option Value} {base : Heap}
theorem rdL {σ : L2.St} {H : Hp} {rw : Addr} {xs : List V} {c : Int} {v : V} {R : VK} (h0 : σ[0]? = some (some (.ref rw))) (h : H rw = some (.lst xs)) (e : atI xs c = some v) (r : R v H) : tOp (rIxL K) (tVar 0) (tC (.int c)) σ H R :=
  ⟨_, h0, rw, xs, c, v, rfl, rfl, SqL.of h, e, r⟩
theorem wrL {σ : L2.St} {H : Hp} {rw : Addr} {xs : List V} {c : Int} {n : Nat} {v : V} {R : L2.St → Hp → Prop} (h0 : σ[0]? = some (some (.ref rw))) (h : H rw = some (.lst xs)) (e : ixN xs.length c = some n) (r : ∀ H2, Off rw H H2 → H2 rw = some (.lst (xs.set n v)) → R σ H2) : gSub (tVar 0) (tC (.int c)) rSetL v σ H R :=
  ⟨_, h0, rw, xs, c, n, rfl, rfl, h, e, r _ off_upd upd_same⟩
theorem ok_taken {f : Addr} {fd : FuncData} (F : Fun K "_law_taken" "_law_taken" sTaken f fd) (M : Nm mg) : FnOk P w K mg base CX0 1 f fd ["_law_row", "_law_many"] (spTaken K) := by
  refine F.ok scTaken (fun vs H Q E h => ?_) (fun cdv A outer st0 H vs Q E hr h => ?_)
  · obtain ⟨rw, sc, m, ns, rfl, _⟩ := h
    rfl
  · obtain ⟨rw, sc, m, ns, rfl, ⟨i, j, k, hi, hrw⟩, hs, hm, hm2, q⟩ := h
    have nd := scTaken.nd
    refine ⟨_, pss_cons (ps_if (pt_cmpR op_gt (pe_ix ix_list (pv 0) pe_int (fun _ _ => rfl)) pe_int (nomark _))
        (pss_cons (ps_set (i := 2) nd rfl (.inl rfl) (pe_op op_mod (pe_callTy call_int1 (by rfl) M.int (by decide +kernel) (pa_cons (pe_ix ix_list (pv 0) pe_int (fun _ _ => rfl)) pa_nil)) (pv 1)))
        (pss_cons (ps_asg (pe_op op_fdiv (pe_ix ix_list (pv 0) pe_int (fun _ _ => rfl)) (pv 1)) (pg_sub (pv 0) pe_int set_list))
        (pss_one (ps_ret (pv 2))))) pss_nil)
      (pss_cons (ps_asg (pe_op op_add (pe_ix ix_list (pv 0) pe_int (fun _ _ => rfl)) pe_int) (pg_sub (pv 0) pe_int set_list))
      (pss_cons (ps_if (pt_cmpR op_gt (pe_ix ix_list (pv 0) pe_int (fun _ _ => rfl)) (pe_callB call_len_seq (by rfl) M.len PySem.boot_len (pa_cons (pe_ix ix_list (pv 0) pe_int (fun _ _ => rfl)) pa_nil)) (nomark _))
        (pss_cons (ps_asg (pe_op op_mod (pe_callTy call_int1 (by rfl) M.int (by decide +kernel) (pa_cons (pe_op op_add (pe_op op_mul (pe_ix ix_list (pv 0) pe_int (fun _ _ => rfl)) pe_int) pe_int) pa_nil)) pe_int) (pg_sub (pv 0) pe_int set_list))
        (pss_one (ps_ret (pe_op op_mod (pe_callTy call_int1 (by rfl) M.int (by decide +kernel) (pa_cons (pe_op op_fdiv (pe_ix ix_list (pv 0) pe_int (fun _ _ => rfl)) pe_int) pa_nil)) (pv 1))))) pss_nil)
      (pss_cons (ps_set (i := 3) nd rfl (.inl rfl) (pe_ix ix_list (pe_ix ix_list (pv 0) pe_int (fun _ _ => rfl)) (pe_op op_sub (pe_ix ix_list (pv 0) pe_int (fun _ _ => rfl)) pe_int) (fun _ _ => rfl)))
      (pss_cons (ps_asg (pe_op op_mod (pe_callTy call_int1 (by rfl) M.int (by decide +kernel) (pa_cons (pe_op op_add (pe_op op_add (pe_op op_mul (pe_ix ix_list (pv 0) pe_int (fun _ _ => rfl)) pe_int) (pv 3)) pe_int) pa_nil)) pe_int) (pg_sub (pv 0) pe_int set_list))
      (pss_cons (ps_if (pt_cmpR op_ge (pv 3) (pe_op op_pow pe_int pe_int) (nomark _)) (pss_one (ps_asg (pe_op op_fdiv (pv 3) (pv 1)) (pg_sub (pv 0) pe_int set_list))) pss_nil)
      (pss_one (ps_ret (pe_op op_mod (pe_callTy call_int1 (by rfl) M.int (by decide +kernel) (pa_cons (pv 3) pa_nil)) (pv 1))))))))), ?_⟩
    refine rdL rfl hrw rfl ⟨k, 0, rfl, rfl, _, rfl, ?_⟩
    refine ite_same (fun en => ?_) (fun en => ?_)
    · -- a cell's rest
      refine rdL rfl hrw rfl (.inl ⟨k, rfl, _, rfl, k, m, rfl, rfl, by omega, ?_⟩)
      refine rdL rfl hrw rfl ⟨_, rfl, k, m, rfl, rfl, ⟨by omega, by omega⟩, wrL rfl hrw rfl fun H1 o1 h1 => ⟨_, rfl, ?_⟩⟩
      exact q _ _ (Int.emod_nonneg _ (by omega)) (Int.emod_lt_of_pos _ (by omega)) o1 ⟨i, j, k / m, hi, h1⟩
    · refine rdL rfl hrw rfl ⟨i, 1, rfl, rfl, wrL rfl hrw rfl fun H1 o1 h1' => ?_⟩
      have h1 : H1 rw = some (.lst [.ref sc, .int (i + 1), .int j, .int k]) := h1'
      have hs1 := (hs.off o1).sql
      refine rdL rfl h1 rfl (rdL rfl h1 rfl ⟨sc, ns.map V.int, rfl, .inl hs1, i + 1, _, rfl, rfl, _, rfl, ?_⟩)
      refine ite_same (fun e2 => ?_) (fun e2 => ?_)
      · -- behind the script's end
        refine rdL rfl h1 rfl ⟨j, 48271, rfl, rfl, .inr ⟨by decide, by decide⟩, j * 48271, 11, rfl, rfl, .inl ⟨_, rfl, j * 48271 + 11, 2147483647, rfl, rfl, (by show (0 : Int) < 2147483647; decide), wrL rfl h1 rfl fun H2 o2' h2' => ?_⟩⟩
        have h2 : H2 rw = some (.lst [.ref sc, .int (i + 1), .int ((j * 48271 + 11) % 2147483647), .int k]) := h2'
        have o2 := o1.trans o2'
        refine rdL rfl h2 rfl ⟨_, 7, rfl, rfl, ⟨by decide, by decide⟩, .inl ⟨_, rfl, _, rfl, _, m, rfl, rfl, by omega, ?_⟩⟩
        exact q _ _ (Int.emod_nonneg _ (by omega)) (Int.emod_lt_of_pos _ (by omega)) o2 ⟨_, _, _, by omega, h2⟩
      · -- the next cell
        rw [List.length_map] at e2
        have hlt : i + 1 ≤ (ns.length : Int) := by
          refine Classical.byContradiction fun z => e2 (decide_eq_true (by omega))
        obtain ⟨n, hn⟩ := Int.eq_ofNat_of_zero_le hi
        have hnl : n < ns.length := by omega
        have ec : ns[n]? = some (ns.getD n 0) := getD_get hnl
        generalize ns.getD n 0 = x at ec
        refine rdL rfl h1 rfl (rdL rfl h1 rfl ⟨i + 1, 1, rfl, rfl, sc, ns.map V.int, i + 1 - 1, .int x, rfl, rfl, hs1, ?_, ?_⟩)
        · rw [show i + 1 - 1 = (n : Int) by omega]
          exact atI_nat (by rw [List.getElem?_map, ec]; rfl)
        refine rdL rfl h1 rfl ⟨j, 48271, rfl, rfl, .inr ⟨by decide, by decide⟩, _, rfl, j * 48271, x, rfl, rfl, j * 48271 + x, 11, rfl, rfl, .inl ⟨_, rfl, j * 48271 + x + 11, 2147483647, rfl, rfl, (by show (0 : Int) < 2147483647; decide), wrL rfl h1 rfl fun H2 o2' h2' => ?_⟩⟩
        have h2 : H2 rw = some (.lst [.ref sc, .int (i + 1), .int ((j * 48271 + x + 11) % 2147483647), .int k]) := h2'
        have o2 := o1.trans o2'
        refine ⟨_, rfl, 10, 18, rfl, rfl, ⟨by decide, by decide, by decide⟩, x, _, rfl, rfl, _, rfl, ?_⟩
        refine ite_same (fun e3 => ?_) (fun e3 => ?_)
        · refine ⟨_, rfl, _, rfl, x, m, rfl, rfl, ⟨by omega, by omega⟩, wrL rfl h2 rfl fun H3 o3 h3 => ⟨_, rfl, .inl ⟨x, rfl, _, rfl, x, m, rfl, rfl, by omega, ?_⟩⟩⟩
          exact q _ _ (Int.emod_nonneg _ (by omega)) (Int.emod_lt_of_pos _ (by omega)) (o2.trans o3) ⟨_, _, _, by omega, h3⟩
        · refine ⟨_, rfl, .inl ⟨x, rfl, _, rfl, x, m, rfl, rfl, by omega, ?_⟩⟩
          exact q _ _ (Int.emod_nonneg _ (by omega)) (Int.emod_lt_of_pos _ (by omega)) o2 ⟨_, _, _, by omega, h2⟩
end
end K64
/-! The drawn distances: _law_pick, _law_distances. -/
namespace K64
open PySem PySem.Spec PyProof.Rows L2 GxR
def ssA : List (List Int) := [[1], [2, 2], [2, 4, 4], [3, 3, 3], [2, 3, 6], [2, 3, 5], [2, 3], [3, 3, 4], [2, 4, 8, 8], [3, 4, 5, 6]]
def ssB : List (List Int) := [[2, 3, 7], [4, 4, 4, 4], [3, 5, 5, 5], [2, 5, 5], [3, 4, 5], [2, 6, 6, 6], [4, 5, 5, 6], [5, 5, 5, 5]]
theorem same_new {H : Hp} {p : Addr} {o : HO} (h : H p = none) : Same H (upd H p o) := fun b u e => by
  rw [upd_ne (ne_of_none e h)]
  exact e
theorem same_trans {H H1 H2 : Hp} (a : Same H H1) (b : Same H1 H2) : Same H H2 := fun c o e => b c o (a c o e)
theorem Off.same {rw : Addr} {H H' : Hp} {xs : List V} (o : Off rw H H') (h : H rw = some (.lst xs)) : TupK H H' := fun b ys e => by
  rw [o b (ne_of e h (fun z => nomatch z))]
  exact e
/-- a display of ints, a display of such tuples -/
def tIs : List Int → TA
  | [] => tNil
  | i :: s => tCons (tC (.int i)) (tIs s)
def tTs : List (List Int) → TA
  | [] => tNil
  | s :: ss => tCons (tTup (tIs s)) (tTs ss)
theorem run_tIs {σ : L2.St} {H : Hp} : ∀ {s : List Int} {Q : List V → Hp → Prop}, Q (s.map V.int) H → tIs s σ H Q
  | [], Q, h => h
  | i :: s, Q, h => run_tIs (s := s) (Q := fun vs H' => Q (.int i :: vs) H') h
theorem run_tTs {σ : L2.St} : ∀ {ss : List (List Int)} {H : Hp} {Q : List V → Hp → Prop}, (∀ s ∈ ss, s.length ≤ 100) → (∀ bs H', Same H H' → Tps H' bs ss → Q (bs.map V.ref) H') → tTs ss σ H Q
  | [], H, Q, _, h => h [] H (fun _ _ e => e) .nil
  | s :: ss, H, Q, hl, h => by
    refine run_tIs (s := s) ⟨?_, fun p np => ?_⟩
    · rw [List.length_map]
      exact Nat.le_trans (hl s List.mem_cons_self) (by decide)
    · refine run_tTs (ss := ss) (fun r hr => hl r (List.mem_cons_of_mem _ hr)) fun bs H' sm ht => ?_
      exact h (p :: bs) H' (same_trans (same_new np) sm) (.cons (sm _ _ upd_same) ht)
theorem in_seqA {te : TE} {g : TG} {b : TS} {D : Ends} {σ : L2.St} {H : Hp} (h : te σ H fun x H1 => g x σ H1 (b D)) : tSeq (tAsg te g) b D σ H := h
theorem in_lst {t : TA} {Q : VK} {σ : L2.St} {H : Hp} (h : t σ H fun xs H1 => xs.length ≤ sizeLine ∧ ∀ p, H1 p = none → Q (.ref p) (upd H1 p (.lst xs))) : tLst t σ H Q := h
theorem in_opV {r : R2} {tb : TE} {i : Nat} {v : V} {Q : VK} {σ : L2.St} {H : Hp} (h0 : σ[i]? = some (some v)) (h : tb σ H fun y H2 => r v y H2 Q) : tOp r (tVar i) tb σ H Q := ⟨v, h0, h⟩
/-- what such a display's text holds -/
def ofI : Expr → Option Int
  | .Constant (.int i) _ _ => some i
  | _ => none
def ofIs : List Expr → Option (List Int)
  | [] => some []
  | e :: es => (ofI e).bind fun i => (ofIs es).map fun s => i :: s
def ofT : Expr → Option (List Int)
  | .Tuple es _ _ => ofIs es
  | _ => none
def ofTs : List Expr → Option (List (List Int))
  | [] => some []
  | e :: es => (ofT e).bind fun s => (ofTs es).map fun ss => s :: ss
theorem pa_is {X : Cx} : ∀ {es : List Expr} {s : List Int}, ofIs es = some s → PA X es (tIs s)
  | [], s, h => by
    cases h
    exact pa_nil
  | e :: es, s, h => by
    unfold ofIs at h
    cases e with
    | Constant c k p =>
      cases c with
      | int i =>
        cases h2 : ofIs es with
        | none =>
          rw [h2] at h
          cases h
        | some r =>
          rw [h2] at h
          cases h
          exact pa_cons pe_int (pa_is h2)
      | _ => cases h
    | _ => cases h
theorem pa_ts {X : Cx} : ∀ {es : List Expr} {ss : List (List Int)}, ofTs es = some ss → PA X es (tTs ss)
  | [], s, h => by
    cases h
    exact pa_nil
  | e :: es, ss, h => by
    unfold ofTs at h
    cases e with
    | Tuple xs k p =>
      cases h1 : ofIs xs with
      | none =>
        rw [show ofT (.Tuple xs k p) = ofIs xs from rfl, h1] at h
        cases h
      | some s =>
        cases h2 : ofTs es with
        | none =>
          rw [show ofT (.Tuple xs k p) = ofIs xs from rfl, h1, h2] at h
          cases h
        | some r =>
          rw [show ofT (.Tuple xs k p) = ofIs xs from rfl, h1, h2] at h
          cases h
          exact pa_cons (pe_tup (pa_is h1)) (pa_ts h2)
    | _ => cases h
/-- what stands while the law draws: but for the row all stays -/
structure DS (K : PySem.W.Frag) (P1 P2 rw sc : Addr) (ns : List Int) (H0 H : Hp) : Prop where
  kx : KeptX rw H0 H
  old : ∀ b, H0 b ≠ none → H b ≠ none
  tabs : Tabs2 P1 P2 H
  row : RowSt H rw sc
  scr0 : Sc K rw sc ns H0
section
variable {K : PySem.W.Frag} {P1 P2 rw sc : Addr} {ns : List Int} {H0 H H' : Hp}
theorem DS.scr (D : DS K P1 P2 rw sc ns H0 H) : Sc K rw sc ns H := D.scr0.kx D.kx
theorem DS.kept (D : DS K P1 P2 rw sc ns H0 H) (k : Kept H H') (t : Tabs2 P1 P2 H') : DS K P1 P2 rw sc ns H0 H' := by
  refine ⟨fun b o hb h n => k.at1 b o (D.kx b o hb h n) n, fun b h => k.old b (D.old b h), t, ?_, D.scr0⟩
  obtain ⟨i, j, l, h1, h2⟩ := D.row
  exact ⟨i, j, l, h1, k.lst h2⟩
theorem DS.same (D : DS K P1 P2 rw sc ns H0 H) (sm : Same H H') : DS K P1 P2 rw sc ns H0 H' := D.kept (.of sm) (D.tabs.same sm)
theorem DS.rwl (D : DS K P1 P2 rw sc ns H0 H) : ∃ xs, H rw = some (.lst xs) := let ⟨_, _, _, _, h⟩ := D.row; ⟨_, h⟩
theorem DS.taken (D : DS K P1 P2 rw sc ns H0 H) (o : Off rw H H') (r : RowSt H' rw sc) : DS K P1 P2 rw sc ns H0 H' := by
  obtain ⟨xs, hx⟩ := D.rwl
  have tk : ∀ P, TabG H P → TabG H' P := fun P ⟨ps, h1, h2⟩ => ⟨ps, by rw [o P (ne_of h1 hx (fun z => nomatch z))]; exact h1, h2⟩
  refine ⟨fun b u hb h n => by rw [o b hb]; exact D.kx b u hb h n, fun b h z => ?_, ⟨tk _ D.tabs.1, tk _ D.tabs.2⟩, r, D.scr0⟩
  by_cases e : b = rw
  · obtain ⟨_, _, _, _, h2⟩ := r
    rw [e, h2] at z
    cases z
  · rw [o b e] at z
    exact D.old b h z
/-- an object of ours is written -/
theorem DS.own (D : DS K P1 P2 rw sc ns H0 H) {b : Addr} {u v : HO} (h : H b = some u) (n : ∀ ps, u ≠ .tbl ps) (b0 : H0 b = none) (hb : b ≠ rw) : DS K P1 P2 rw sc ns H0 (upd H b v) := by
  refine ⟨fun c o hc h1 n1 => ?_, fun c h1 => old_upd c (D.old c h1), D.tabs.upd h n, ?_, D.scr0⟩
  · rw [upd_ne (ne_of_none h1 b0)]
    exact D.kx c o hc h1 n1
  · obtain ⟨i, j, l, h1, h2⟩ := D.row
    exact ⟨i, j, l, h1, by rw [upd_ne hb.symm]; exact h2⟩
theorem DS.free (D : DS K P1 P2 rw sc ns H0 H) {b : Addr} (h : H b = none) : H0 b = none := Classical.byContradiction fun z => D.old b z h
end
theorem ssA_le : ∀ s ∈ ssA, s.length ≤ 100 := by decide +kernel
theorem ssB_le : ∀ s ∈ ssB, s.length ≤ 100 := by decide +kernel
theorem ss_ok : ∀ s ∈ ssA ++ ssB, (1 ≤ s.length ∧ s.length ≤ 4) ∧ ∀ x ∈ s, 1 ≤ x := by decide +kernel
theorem adds : ∀ v ∈ [V.int 0, V.int 0, V.int 1, V.int (-1)], ∃ y, v = .int y := by
  intro v hv
  rcases List.mem_cons.mp hv with e | hv
  · exact ⟨_, e⟩
  rcases List.mem_cons.mp hv with e | hv
  · exact ⟨_, e⟩
  rcases List.mem_cons.mp hv with e | hv
  · exact ⟨_, e⟩
  · exact ⟨_, List.mem_singleton.mp hv⟩
def cap (m x : Int) : Int := if x < m then x else m
theorem cap_in {m x : Int} (h : 1 ≤ x) (hm : 1 ≤ m) : 1 ≤ cap m x ∧ cap m x ≤ m := by
  unfold cap
  split <;> omega
theorem map_at {l : List Int} {i : Nat} {x : V} (h : (l.map V.int)[i]? = some x) : ∃ n, l[i]? = some n ∧ x = .int n := by
  rw [List.getElem?_map] at h
  cases e : l[i]? with
  | none =>
    rw [e] at h
    cases h
  | some n =>
    rw [e] at h
    exact ⟨n, rfl, (Option.some.inj h).symm⟩
def spPick (K : PySem.W.Frag) : Sp := fun vs H Q _ => ∃ (rw sc th : Addr) (xs : List V) (ns : List Int), vs = [.ref rw, .ref th] ∧ RowSt H rw sc ∧ Sc K rw sc ns H ∧ H th = some (.lst xs) ∧ th ≠ rw ∧ 1 ≤ xs.length ∧ xs.length < 1000 ∧
  ∀ v H', v ∈ xs → Off rw H H' → RowSt H' rw sc → Q v H'
def spDist (K : PySem.W.Frag) (P1 P2 : Addr) : Sp := fun vs H Q _ => ∃ (rw sc : Addr) (ns : List Int), vs = [.ref rw, .int 6] ∧ DS K P1 P2 rw sc ns H H ∧
  ∀ t H' (d : List Int), DS K P1 P2 rw sc ns H H' → H' t = some (.tup (d.map V.int)) → Vd d → Q (.ref t) H'
section
variable {P : Program} {w : World} {K : PySem.W.Frag} {mg : Str → Option Value} {base : Heap}
theorem ok_pick {f fT : Addr} {fd fdT : FuncData} (F : Fun K "_law_pick" "_law_pick" sPick f fd) (M : Nm mg) (GT : FnOk P w K mg base CX0 1 fT fdT ["_law_row", "_law_many"] (spTaken K)) (FT : Fun K "_law_taken" "_law_taken" sTaken fT fdT) (bT : L2.Binds K fdT ["_law_row", "_law_many"] []) (gT : mg "_law_taken" = some (.ref fT)) :
    FnOk P w K mg base CX0 2 f fd ["_law_row", "_law_things"] (spPick K) := by
  refine F.ok scPick (fun vs H Q E h => ?_) (fun cdv A outer st0 H vs Q E hr h => ?_)
  · obtain ⟨rw, sc, th, xs, ns, rfl, _⟩ := h
    rfl
  · obtain ⟨rw, sc, th, xs, ns, rfl, hrow, hs, ht, htr, h1, h2, q⟩ := h
    refine ⟨_, pss_one (ps_ret (pe_ix ix_list (pv 1) (pe_call GT hr (by rfl) gT FT.kp bT .nil pass0 (pa_cons (pv 0) (pa_cons (pe_callB call_len_seq (by rfl) M.len PySem.boot_len (pa_cons (pv 1) pa_nil)) pa_nil))) (fun _ _ => rfl))), ?_⟩
    refine ⟨_, rfl, _, rfl, _, rfl, th, xs, rfl, .inl (SqL.of ht), rw, sc, _, ns, rfl, hrow, hs, by omega, by omega, fun r H' h0 hlt off row' => ?_⟩
    obtain ⟨n, hn⟩ := Int.eq_ofNat_of_zero_le h0
    have hnl : n < xs.length := by omega
    subst hn
    have ht' : H' th = some (.lst xs) := by
      rw [off th htr]
      exact ht
    exact ⟨th, xs, n, xs[n], rfl, rfl, SqL.of ht', atI_nat (List.getElem?_eq_getElem hnl), q _ H' (List.getElem_mem hnl) off row'⟩
theorem ok_dist {f fT fP P1 P2 : Addr} {fd fdT fdP : FuncData} (F : Fun K "_law_distances" "_law_distances" sDist f fd) (M : Nm mg) (GT : FnOk P w K mg base CX0 1 fT fdT ["_law_row", "_law_many"] (spTaken K)) (FT : Fun K "_law_taken" "_law_taken" sTaken fT fdT) (bT : L2.Binds K fdT ["_law_row", "_law_many"] []) (gT : mg "_law_taken" = some (.ref fT))
    (GP : FnOk P w K mg base CX0 2 fP fdP ["_law_row", "_law_things"] (spPick K)) (FP : Fun K "_law_pick" "_law_pick" sPick fP fdP) (bP : L2.Binds K fdP ["_law_row", "_law_things"] []) (gP : mg "_law_pick" = some (.ref fP)) :
    FnOk P w K mg base CX0 3 f fd ["_law_row", "_law_most"] (spDist K P1 P2) := by
  have GT2 : FnOk P w K mg base CX0 2 fT fdT ["_law_row", "_law_many"] (spTaken K) := GT.mono (by omega)
  refine F.ok scDist (fun vs H Q E h => ?_) (fun cdv A outer st0 H vs Q E hr h => ?_)
  · obtain ⟨rw, sc, ns, rfl, _⟩ := h
    rfl
  · obtain ⟨rw, sc, ns, rfl, D0, q⟩ := h
    have nd := scDist.nd
    refine ⟨_,
      pss_cons (ps_set (i := 2) nd rfl (.inl rfl) (pe_lst (pa_ts (ss := ssA) (by rfl))))
      (pss_cons (ps_set (i := 2) nd rfl (.inl rfl) (pe_op op_cat (pv 2) (pe_lst (pa_ts (ss := ssB) (by rfl)))))
      (pss_cons (ps_if (pt_cmpR op_eq (pe_call GT2 hr (by rfl) gT FT.kp bT .nil pass0 (pa_cons (pv 0) (pa_cons pe_int pa_nil))) pe_int (nomark _))
        (pss_cons (ps_set (i := 3) nd rfl (.inl rfl) (pe_callTy call_list_of (by rfl) M.list (by decide +kernel) (pa_cons (pe_call GP hr (by rfl) gP FP.kp bP .nil pass0 (pa_cons (pv 0) (pa_cons (pv 2) pa_nil))) pa_nil)))
        (pss_cons (ps_set (i := 4) nd rfl (.inl rfl) (pe_call GT2 hr (by rfl) gT FT.kp bT .nil pass0 (pa_cons (pv 0) (pa_cons (pe_callB call_len_seq (by rfl) M.len PySem.boot_len (pa_cons (pv 3) pa_nil)) pa_nil))))
        (pss_cons (ps_asg (pe_callB (call_max2 rfl) (by rfl) M.max (by decide +kernel) (pa_cons pe_int (pa_cons (pe_callB (call_min2 rfl) (by rfl) M.min (by decide +kernel) (pa_cons (pv 1) (pa_cons (pe_op op_add (pe_ix ix_list (pv 3) (pv 4) (fun _ _ => rfl)) (pe_call GP hr (by rfl) gP FP.kp bP .nil pass0 (pa_cons (pv 0) (pa_cons (pe_lst (pa_cons pe_int (pa_cons pe_int (pa_cons pe_int (pa_cons (pe_un un_neg pe_int) pa_nil))))) pa_nil)))) pa_nil))) pa_nil))) (pg_sub (pv 3) (pv 4) set_list))
        (pss_one (ps_ret (pe_callTy call_tuple_of (by rfl) M.tuple (by decide +kernel) (pa_cons (pe_lc (own := [("_law_one", 5)]) (g := gName 5) rfl nd (pi_list (pv 3)) (blkOk_by (own := [("_law_one", 5)]) (N := ["_law_row", "_law_most", "_law_full", "_law_found", "_law_at", "_law_one", "_law_k"]) (sc := defScope sDist) (by decide +kernel))
          (fun _ _ _ _ _ => pg_name (i := 5) nd rfl (Or.inl rfl)) (fun _ _ _ _ _ => pts_nil) (fun _ _ _ _ _ => pe_callB (call_min2 rfl) (by rfl) M.min (by decide +kernel) (pa_cons (pv 1) (pa_cons (pv 5) pa_nil)))) pa_nil))))))) pss_nil)
      (pss_one (ps_ret (pe_callTy call_tuple_of (by rfl) M.tuple (by decide +kernel) (pa_cons (pe_lc (own := [("_law_k", 6)]) (g := gName 6) rfl nd (pi_range1 rfl M.range (pa_cons (pe_op op_add pe_int (pe_call GT2 hr (by rfl) gT FT.kp bT .nil pass0 (pa_cons (pv 0) (pa_cons pe_int pa_nil)))) pa_nil)) (blkOk_by (own := [("_law_k", 6)]) (N := ["_law_row", "_law_most", "_law_full", "_law_found", "_law_at", "_law_one", "_law_k"]) (sc := defScope sDist) (by decide +kernel))
          (fun _ _ _ _ _ => pg_name (i := 6) nd rfl (Or.inl rfl)) (fun _ _ _ _ _ => pts_nil) (fun _ _ _ _ _ => pe_op op_add pe_int (pe_call GT2 hr (by rfl) gT FT.kp bT .nil pass0 (pa_cons (pv 0) (pa_cons (pv 1) pa_nil))))) pa_nil)))))), ?_⟩
    -- the 18 tuples
    refine in_seqA (in_lst (run_tTs (ss := ssA) ssA_le fun bs1 H1 sm1 tp1 => ?_))
    have l1 : (bs1.map V.ref).length = 10 := by rw [List.length_map, tp1.len]; rfl
    refine ⟨by rw [l1]; decide, fun o1 n1 => in_seqA (in_opV rfl (in_lst (run_tTs (ss := ssB) ssB_le fun bs2 H3 sm2 tp2 => ?_)))⟩
    have l2 : (bs2.map V.ref).length = 8 := by rw [List.length_map, tp2.len]; rfl
    refine ⟨by rw [l2]; decide, fun o2 n2 => ?_⟩
    have ho1 : (upd H3 o2 (.lst (bs2.map V.ref))) o1 = some (.lst (bs1.map V.ref)) := same_new n2 _ _ (sm2 _ _ upd_same)
    refine ⟨o1, o2, bs1.map V.ref, bs2.map V.ref, rfl, rfl, ho1, upd_same, by rw [l1, l2]; decide, fun p np => ?_⟩
    have s3 : Same (upd H1 o1 (.lst (bs1.map V.ref))) (upd (upd H3 o2 (.lst (bs2.map V.ref))) p (.lst (bs1.map V.ref ++ bs2.map V.ref))) := same_trans sm2 (same_trans (same_new n2) (same_new np))
    have s4 : Same H (upd (upd H3 o2 (.lst (bs2.map V.ref))) p (.lst (bs1.map V.ref ++ bs2.map V.ref))) := same_trans sm1 (same_trans (same_new n1) s3)
    have tp4 : Tps (upd (upd H3 o2 (.lst (bs2.map V.ref))) p (.lst (bs1.map V.ref ++ bs2.map V.ref))) (bs1 ++ bs2) (ssA ++ ssB) :=
      (tp1.imp fun b s e => s3 _ _ (same_new n1 _ _ e)).app (tp2.imp fun b s e => same_new np _ _ (same_new n2 _ _ e))
    have hp4 : (upd (upd H3 o2 (.lst (bs2.map V.ref))) p (.lst (bs1.map V.ref ++ bs2.map V.ref))) p = some (.lst ((bs1 ++ bs2).map V.ref)) := by
      rw [upd_same, List.map_append]
    have p0 : H p = none := Same.free (same_trans sm1 (same_trans (same_new n1) (same_trans sm2 (same_new n2)))) np
    obtain ⟨xr, hxr⟩ := D0.rwl
    have own : ∀ {b : Addr}, H b = none → b ≠ rw := fun h => (ne_of_none hxr h).symm
    have D4 := D0.same s4
    show tSeq _ _ _ _ (upd (upd H3 o2 (.lst (bs2.map V.ref))) p (.lst (bs1.map V.ref ++ bs2.map V.ref)))
    generalize upd (upd H3 o2 (.lst (bs2.map V.ref))) p (.lst (bs1.map V.ref ++ bs2.map V.ref)) = H4 at tp4 hp4 D4 ⊢
    clear s3 s4 ho1 np n2 tp2 sm2 n1 tp1 sm1
    -- if _law_taken(_law_row, 2) == 0
    refine ⟨_, rfl, rw, sc, 2, ns, rfl, D4.row, D4.scr, by omega, by omega, fun r5 H5 r5a r5b off5 row5 => ⟨rfl, _, rfl, ?_⟩⟩
    have D5 := D4.taken off5 row5
    have hp5 : H5 p = some (.lst ((bs1 ++ bs2).map V.ref)) := by
      rw [off5 p (own p0)]
      exact hp4
    have tp5 : Tps H5 (bs1 ++ bs2) (ssA ++ ssB) := by
      obtain ⟨xs, hx⟩ := D4.rwl
      exact (off5.same hx).tps tp4
    refine ite_same (fun _ => ?_) (fun _ => ?_)
    · -- _law_found = list(_law_pick(_law_row, _law_full))
      have lb : ((bs1 ++ bs2).map V.ref).length = 18 := by rw [List.length_map, tp5.len]; rfl
      refine ⟨_, rfl, _, rfl, rw, sc, p, _, ns, rfl, D5.row, D5.scr, hp5, own p0, by rw [lb]; omega, by rw [lb]; omega, fun v H6 hv off6 row6 => ?_⟩
      have D6 := D5.taken off6 row6
      have tp6 : Tps H6 (bs1 ++ bs2) (ssA ++ ssB) := by
        obtain ⟨xs, hx⟩ := D5.rwl
        exact (off6.same hx).tps tp5
      obtain ⟨b, hb, rfl⟩ := List.mem_map.mp hv
      obtain ⟨ib, hib⟩ := List.getElem?_of_mem hb
      obtain ⟨s, es, hbs⟩ := tp6.get hib
      obtain ⟨⟨s1, s4⟩, sp⟩ := ss_ok s (List.mem_of_getElem? es)
      refine ⟨b, s.map V.int, rfl, .inr (SqT.of hbs), fun l nl => ?_⟩
      have l0 : H l = none := D6.free nl
      have D7 := D6.same (same_new (o := .lst (s.map V.int)) nl)
      have hl7 : (upd H6 l (.lst (s.map V.int))) l = some (.lst (s.map V.int)) := upd_same
      show tSeq _ _ _ _ (upd H6 l (.lst (s.map V.int)))
      generalize upd H6 l (.lst (s.map V.int)) = H7 at D7 hl7 ⊢
      -- _law_at
      refine ⟨_, rfl, _, rfl, l, _, rfl, .inl (SqL.of hl7), rw, sc, _, ns, rfl, D7.row, D7.scr, by rw [List.length_map]; omega, by rw [List.length_map]; omega, fun r H8 r0 r1 off8 row8 => ?_⟩
      have D8 := D7.taken off8 row8
      have hl8 : H8 l = some (.lst (s.map V.int)) := by
        rw [off8 l (own l0)]
        exact hl7
      rw [List.length_map] at r1
      obtain ⟨n, hn⟩ := Int.eq_ofNat_of_zero_le r0
      subst hn
      have hns : n < s.length := by omega
      -- _law_found[_law_at] = max(1, min(_law_most, _law_found[_law_at] + _law_pick(_law_row, [0, 0, 1, -1])))
      refine ⟨_, rfl, _, rfl, _, rfl, l, s.map V.int, n, .int (s.getD n 0), rfl, rfl, SqL.of hl8, atI_nat (by rw [List.getElem?_map, getD_get hns]; rfl), _, rfl, 1, rfl, (by show 4 ≤ sizeLine; decide), fun z nz => ?_⟩
      have D9 := D8.same (same_new (o := .lst [.int 0, .int 0, .int 1, .int (-1)]) nz)
      have hl9 := same_new (o := .lst [.int 0, .int 0, .int 1, .int (-1)]) nz _ _ hl8
      have hz9 : (upd H8 z (.lst [.int 0, .int 0, .int 1, .int (-1)])) z = some (.lst [.int 0, .int 0, .int 1, .int (-1)]) := upd_same
      refine ⟨rw, sc, z, [.int 0, .int 0, .int 1, .int (-1)], ns, rfl, D9.row, D9.scr, hz9, own (D8.free nz), by decide, by decide, fun v H10 hv off10 row10 => ?_⟩
      have D10 := D9.taken off10 row10
      have hl10 : H10 l = some (.lst (s.map V.int)) := by
        rw [off10 l (own l0)]
        exact hl9
      obtain ⟨y, rfl⟩ := adds v hv
      refine ⟨s.getD n 0, y, rfl, rfl, 6, s.getD n 0 + y, rfl, 1, _, rfl, ?_⟩
      have hx : ∃ x, (V.int (if (if s.getD n 0 + y < 6 then s.getD n 0 + y else 6) > 1 then (if s.getD n 0 + y < 6 then s.getD n 0 + y else 6) else 1)) = V.int x ∧ 1 ≤ x := ⟨_, rfl, by split <;> omega⟩
      obtain ⟨x, ex, hx1⟩ := hx
      rw [ex]
      have ixn : ixN (s.map V.int).length (n : Int) = some n := by
        unfold ixN
        rw [if_pos (by omega), if_pos (by rw [List.length_map]; omega)]
        rfl
      refine ⟨_, rfl, _, rfl, l, s.map V.int, n, n, rfl, rfl, hl10, ixn, ?_⟩
      rw [show (s.map V.int).set n (.int x) = (s.set n x).map V.int from List.map_set.symm]
      have D11 := D10.own (v := .lst ((s.set n x).map V.int)) hl10 (fun ps z => nomatch z) l0 (own l0)
      have hl11 : (upd H10 l (.lst ((s.set n x).map V.int))) l = some (.lst ((s.set n x).map V.int)) := upd_same
      have sl : (s.set n x).length = s.length := List.length_set ..
      have sx : ∀ c ∈ s.set n x, 1 ≤ c := fun c hc => (List.mem_or_eq_of_mem_set hc).elim (sp c) fun e => by rw [e]; exact hx1
      generalize s.set n x = u at D11 hl11 sl sx ⊢
      generalize upd H10 l (.lst (u.map V.int)) = H11 at D11 hl11 ⊢
      -- return tuple([min(_law_most, _law_one) for _law_one in _law_found])
      refine ⟨_, rfl, l, rfl, ⟨_, SqL.of hl11⟩, fun e ne => ?_⟩
      have e0 := D11.free ne
      have hle : l ≠ e := ne_of_none hl11 ne
      refine lc_list (xs := u.map V.int) (fun i H' => DS K P1 P2 rw sc ns H H' ∧ H' l = some (.lst (u.map V.int)) ∧ H' e = some (.lst (((u.take i).map (cap 6)).map V.int))) ?_ ?_ ?_ ?_
      · exact ⟨D11.same (same_new ne), same_new ne _ _ hl11, upd_same⟩
      · intro i H' _ h
        exact SqL.of h.2.1
      · intro i v H' hv ⟨D12, hl12, he12⟩
        obtain ⟨c, hc, rfl⟩ := map_at hv
        refine ⟨rfl, _, rfl, _, rfl, 6, c, rfl, _, he12, ?_, D12.own he12 (fun ps z => nomatch z) e0 (own e0), ?_, ?_⟩
        · rw [List.length_map, List.length_map, List.length_take]
          exact small_len (by omega)
        · rw [upd_ne hle]
          exact hl12
        · rw [upd_same, take_get hc, List.map_append, List.map_append]
          rfl
      · intro H' ⟨D12, hl12, he12⟩
        rw [List.length_map, List.take_length] at he12
        refine ⟨e, _, rfl, .inl ⟨SqL.of he12, fun t nt => ?_⟩⟩
        refine q t _ (u.map (cap 6)) (D12.same (same_new nt)) upd_same ⟨by rw [List.length_map]; omega, by rw [List.length_map]; omega, fun c hc => ?_⟩
        obtain ⟨c', hc', rfl⟩ := List.mem_map.mp hc
        exact cap_in (sx c' hc') (by decide)
    · -- return tuple([1 + _law_taken(_law_row, _law_most) for _law_k in range(1 + _law_taken(_law_row, 4))])
      refine ⟨_, rfl, rw, sc, 4, ns, rfl, D5.row, D5.scr, by omega, by omega, fun r H6 r0 r1 off6 row6 => ⟨1, r, rfl, rfl, 1 + r, rfl, by omega, by omega, fun e ne => ?_⟩⟩
      have D6 := D5.taken off6 row6
      have e0 := D6.free ne
      refine lc_range (lo := 0) (n := (1 + r).toNat) (fun i H' => DS K P1 P2 rw sc ns H H' ∧ ∃ u : List Int, H' e = some (.lst (u.map V.int)) ∧ u.length = i ∧ ∀ x ∈ u, 1 ≤ x ∧ x ≤ 6) ?_ ?_ ?_
      · exact ⟨D6.same (same_new ne), [], upd_same, rfl, fun x hx => absurd hx List.not_mem_nil⟩
      · intro i H' hi ⟨D7, u, hu, lu, xu⟩
        refine ⟨rfl, _, rfl, _, rfl, rw, sc, 6, ns, rfl, D7.row, D7.scr, by omega, by omega, fun x H8 x0 x1 off8 row8 => ?_⟩
        have D8 := D7.taken off8 row8
        have hu8 : H8 e = some (.lst (u.map V.int)) := by
          rw [off8 e (own e0)]
          exact hu
        refine ⟨1, x, rfl, rfl, _, hu8, ?_, D8.own hu8 (fun ps z => nomatch z) e0 (own e0), u ++ [1 + x], ?_, ?_, fun y hy => ?_⟩
        · rw [List.length_map]
          exact small_len (by omega)
        · rw [upd_same, List.map_append]
          rfl
        · rw [List.length_append, lu]
          rfl
        · rcases List.mem_append.mp hy with w | w
          · exact xu y w
          · rw [List.mem_singleton.mp w]
            omega
      · intro H' ⟨D7, u, hu, lu, xu⟩
        refine ⟨e, _, rfl, .inl ⟨SqL.of hu, fun t nt => ?_⟩⟩
        exact q t _ u (D7.same (same_new nt)) upd_same ⟨by omega, by omega, xu⟩
end
end K64
/-! _law_is_ring -/
namespace K64
open PySem PySem.Spec PyProof.Rows L2 GxR
def rI64 (r : List Nat) : List Int := r.map fun (i : Nat) => (i : Int)
theorem nV_ints (r : List Nat) : nV r = (rI64 r).map V.int := by
  unfold nV rI64
  rw [List.map_map]
  rfl
theorem nV_len (r : List Nat) : (nV r).length = r.length := List.length_map ..
theorem nV_at {r : List Nat} {j : Nat} {x : V} (h : (nV r)[j]? = some x) : ∃ i, r[j]? = some i ∧ x = .int (i : Nat) := by
  unfold nV at h
  rw [List.getElem?_map] at h
  cases e : r[j]? with
  | none =>
    rw [e] at h
    cases h
  | some i =>
    rw [e] at h
    exact ⟨i, rfl, (Option.some.inj h).symm⟩
def rLn (K : PySem.W.Frag) : List V → Hp → VK → Prop := fun xs H Q => ∃ p ys, xs = [.ref p] ∧ (SqL K H p ys ∨ SqT K H p ys) ∧ Q (.int ys.length) H
theorem same_own {H H' : Hp} {D : Addr} {o : HO} (sm : Same H H') (n : H D = none) : Same H (upd H' D o) := fun b u e => by
  rw [upd_ne (ne_of_none e n)]
  exact sm b u e
theorem inV_nV {r : List Nat} {k : Nat} (h : k ∈ r) : inV (.int (k : Nat)) (nV r) = true := by
  unfold inV
  rw [List.any_eq_true]
  exact ⟨.int (k : Nat), List.mem_map.mpr ⟨k, h, rfl⟩, decide_eq_true rfl⟩
theorem nV_flat (r : List Nat) : (nV r).all flatV = true := by
  rw [List.all_eq_true]
  intro x hx
  obtain ⟨i, _, rfl⟩ := List.mem_map.mp hx
  rfl
def spIsRing : Sp := fun vs H Q _ => ∃ (a t : Addr) (d : List Int) (r : List Nat), vs = [.ref a, .ref t] ∧ H a = some (.tup (d.map V.int)) ∧ H t = some (.tup (nV r)) ∧ Vd d ∧ IsRing d r ∧ r.length ≤ 1296 ∧ ∀ H', Same H H' → Q (.bl true) H'
abbrev NIr : List Str := ["_law_distances_here", "_law_value", "_law_one", "_law_some", "_law_k", "_law_wait"]
section
variable {P : Program} {w : World} {K : PySem.W.Frag} {mg : Str → Option Value} {base : Heap}
theorem ok_isring {f : Addr} {fd : FuncData} (F : Fun K "_law_is_ring" "_law_is_ring" sIsRing f fd) (M : Nm mg) : FnOk P w K mg base CX0 1 f fd ["_law_distances_here", "_law_value"] spIsRing := by
  refine F.ok scIsRing (fun vs H Q E h => ?_) (fun cdv A outer st0 H vs Q E hr h => ?_)
  · obtain ⟨a, t, d, r, rfl, _⟩ := h
    rfl
  · obtain ⟨a, t, d, r, rfl, ha, ht, vd, R, hl, q⟩ := h
    have nd := scIsRing.nd
    have hu : (A.deeper (envOfC "_law_is_ring" (defScope sIsRing) st0.heap.objs.size f cdv)).units + 64 < cLine := Nat.lt_of_succ_lt (hu65 hr)
    refine ⟨_,
      pss_cons (ps_if (PW.pt (pw_or (pt_not (pt_val (pe_callB call_isi (by rfl) M.isinstance (by decide +kernel) (pa_cons (pv 1) (pa_cons (pe_bltn (v := .ty "tuple") (u := .type "tuple") (by rfl) M.tuple (by decide +kernel) rfl) pa_nil)))))
        (pw_or1 (pt_cmpR (op_eqD hu) (pv 1) (pe_tup pa_nil) (nomark _))))) (pss_one (ps_ret pe_bl)) pss_nil)
      (pss_cons (ps_setLc (i := 3) (own := [("_law_one", 2)]) (g := gName 2) rfl nd rfl rfl (sw_true rfl rfl rfl (by decide +kernel)) (pi_tup (pv 1)) (blkOk_by (own := [("_law_one", 2)]) (N := NIr) (sc := defScope sIsRing) (by decide +kernel))
          (fun _ _ _ _ _ => pg_name (i := 2) nd rfl (Or.inl rfl)) (fun _ _ _ _ _ => pts_one (pt_cmpR op_notN (pv 2) pe_non (nomark _))) (fun _ _ _ _ _ => pv 2))
      (pss_cons (ps_if (pt_cmpR (op_neD hu) (pe_lc (own := [("_law_one", 2)]) (g := gName 2) rfl nd (pi_list (pv 3)) (blkOk_by (own := [("_law_one", 2)]) (N := NIr) (sc := defScope sIsRing) (by decide +kernel))
          (fun _ _ _ _ _ => pg_name (i := 2) nd rfl (Or.inl rfl)) (fun _ _ _ _ _ => pts_one (PW.pt (pw_or (pt_not (pt_val (pe_callB (id := "isinstance") (r := rIsi K) call_isi (by rfl) M.isinstance (by decide +kernel) (pa_cons (pv 2) (pa_cons (pe_bltn (v := .ty "int") (u := .type "int") (by rfl) M.int (by decide +kernel) rfl) pa_nil)))))
            (pw_or (pt_val (pe_callB (id := "isinstance") (r := rIsi K) call_isi (by rfl) M.isinstance (by decide +kernel) (pa_cons (pv 2) (pa_cons (pe_bltn (v := .ty "bool") (u := .type "bool") (by rfl) M.bool (by decide +kernel) rfl) pa_nil))))
            (pw_or1 (pt_not (pt_chain op_le op_lt pe_int (pv 2) (pe_callB (id := "len") (r := rLn K) call_len_seq (by rfl) M.len PySem.boot_len (pa_cons (pv 0) pa_nil))))))))) (fun _ _ _ _ _ => pv 2)) (pe_lst pa_nil) (nomark _)) (pss_one (ps_ret pe_bl)) pss_nil)
      (pss_cons (ps_for PassesOwn.never rfl (pi_range1 rfl M.range (pa_cons (pe_callB call_len_seq (by rfl) M.len PySem.boot_len (pa_cons (pv 0) pa_nil)) pa_nil)) (pg_name (i := 4) nd rfl (.inl rfl))
        (pss_cons (ps_set (i := 5) nd rfl (.inl rfl) pe_int)
        (pss_cons (ps_for PassesOwn.never rfl (pi_tup (pe_op op_catT (pv 1) (pv 1))) (pg_name (i := 2) nd rfl (.inl rfl))
          (pss_cons (ps_set (i := 5) nd rfl (.inl rfl) (pe_ifExp (PW.pt (pw_and (pt_cmpR op_eq (pv 2) (pv 4) (nomark _)) (pw_and1 (pt_cmpR op_notN (pv 2) pe_non (nomark _))))) pe_int (pe_op op_add (pv 5) pe_int)))
          (pss_one (ps_if (pt_cmpR op_eq (pv 5) (pe_ix ix_tup (pv 0) (pv 4) (fun _ _ => rfl)) (nomark _)) (pss_one (ps_ret pe_bl)) pss_nil))))
        (pss_one (ps_if (pt_cmpR op_notIn_seq (pv 4) (pv 3) (by rfl)) (pss_one (ps_ret pe_bl)) pss_nil)))))
      (pss_one (ps_ret pe_bl))))), ?_⟩
    -- isinstance(_law_value, tuple), not ()
    refine ⟨.ref t, rfl, .ref t, .ty "tuple", .type "tuple", .type "tuple", true, rfl, .ty "tuple", .base (.tup ht), kit_ty (by decide +kernel), true, rfl, iteF ?_⟩
    refine ⟨_, rfl, ⟨Nat.zero_le _, fun e ne => ⟨iD (rI64 r), iD [], dp_tup (by rw [same_new ne _ _ ht, nV_ints]), dp_tup upd_same, shaped_iD _, shaped_iD _, _, rfl, ?_⟩⟩⟩
    have rne : rI64 r ≠ [] := fun z => R.ne (List.map_eq_nil_iff.mp z)
    rw [eqv_iD, decide_eq_false rne]
    refine iteF ?_
    have s1 : Same H (upd H e (.tup [])) := same_new ne
    have a1 := s1 _ _ ha
    have t1 := s1 _ _ ht
    show tSeq _ _ _ _ (upd H e (.tup []))
    generalize upd H e (.tup []) = H1 at s1 a1 t1 ⊢
    -- _law_some
    refine ⟨_, rfl, t, rfl, ⟨_, SqT.of t1⟩, fun D nD => ?_⟩
    refine lc_tup (xs := nV r) (fun i H' => Same H1 H' ∧ H' D = some (.lst (nV (r.take i)))) ⟨same_new nD, upd_same⟩ (fun i H' _ h => SqT.of (h.1 _ _ t1)) ?_ ?_
    · intro i x H' hx ⟨sm, hD⟩
      obtain ⟨n, hn, rfl⟩ := nV_at hx
      refine ⟨rfl, _, rfl, rfl, _, rfl, iteNT (fun z => nomatch z) ⟨_, rfl, _, hD, ?_, same_own sm nD, ?_⟩⟩
      · rw [nV_len, List.length_take]
        exact small_len (by omega)
      · rw [upd_same, take_get hn]
        unfold nV
        rw [List.map_append]
        rfl
    · intro H2 ⟨s2, hD⟩
      rw [nV_len, List.take_length] at hD
      have sm2 := same_trans s1 s2
      have a2 := s2 _ _ a1
      have t2 := s2 _ _ t1
      clear a1 t1 s1 s2 ne nD
      -- no other items
      refine ⟨_, rfl, D, rfl, ⟨_, SqL.of hD⟩, fun D2 nD2 => ?_⟩
      refine lc_list (xs := nV r) (fun i H' => Same H2 H' ∧ H' D2 = some (.lst [])) ⟨same_new nD2, upd_same⟩ (fun i H' _ h => SqL.of (h.1 _ _ hD)) ?_ ?_
      · intro i x H' hx ⟨sm, hD2⟩
        obtain ⟨n, hn, rfl⟩ := nV_at hx
        have hnd := R.ix n (List.mem_of_getElem? hn)
        refine ⟨rfl, _, rfl, .int (n : Nat), .ty "int", .type "int", .type "int", true, rfl, .ty "int", .base (.int _), kit_ty (by decide +kernel), true, rfl, iteF ?_⟩
        refine ⟨_, rfl, .int (n : Nat), .ty "bool", .type "int", .type "bool", false, rfl, .ty "bool", .base (.int _), kit_ty (by decide +kernel), false, rfl, iteF ?_⟩
        refine ⟨_, rfl, 0, n, rfl, rfl, true, bl_true (by omega), iteT ?_⟩
        refine ⟨_, rfl, a, _, rfl, .inr (SqT.of (sm _ _ a2)), n, _, rfl, rfl, true, bl_true (by rw [List.length_map]; omega), iteF ⟨sm, hD2⟩⟩
      · intro H3 ⟨s3, hD2⟩
        have hD3 := s3 _ _ hD
        have a3 := s3 _ _ a2
        have t3 := s3 _ _ t2
        have sm3 := same_trans sm2 s3
        refine ⟨Nat.zero_le _, fun e2 ne2 => ⟨.list ([].map iD), .list ([].map iD), dp_tps (bs := []) (ss := []) (SqL.of (same_new ne2 _ _ hD2)) .nil, dp_tps (bs := []) (ss := []) (SqL.of upd_same) .nil, shaped_iDs [], shaped_iDs [], _, rfl, ?_⟩⟩
        rw [show PyData.eqv (.list (([] : List (List Int)).map iD)) (.list (([] : List (List Int)).map iD)) = true from eqv_nil []]
        refine iteF ?_
        have s4 : Same H3 (upd H3 e2 (.lst [])) := same_new ne2
        have hD4 := s4 _ _ hD3
        have a4 := s4 _ _ a3
        have t4 := s4 _ _ t3
        have sm4 := same_trans sm3 s4
        show tSeq _ _ _ _ (upd H3 e2 (.lst []))
        generalize upd H3 e2 (.lst []) = H4 at hD4 a4 t4 sm4 ⊢
        clear s4 hD2 ne2 hD3 a3 t3 sm3 s3
        -- for _law_k
        refine ⟨.ref a, rfl, a, d.map V.int, rfl, .inr (SqT.of a4), _, rfl, ?_, ?_, ?_⟩
        · have := vd.few
          rw [List.length_map]
          omega
        · have := vd.few
          rw [List.length_map]
          omega
        have en : (((d.map V.int).length : Nat) : Int).toNat = d.length := by rw [List.length_map]; rfl
        rw [en]
        refine for_range (lo := 0) (n := d.length) (fun k σ H' => ∃ y2 y4 y5, σ = [some (.ref a), some (.ref t), y2, some (.ref D), y4, y5] ∧ Same H4 H') ⟨_, _, _, rfl, fun _ _ e => e⟩ ?_ ?_
        · rintro k σ H5 hk ⟨y2, y4, y5, rfl, s5⟩
          rw [show (0 : Int) + (k : Nat) = ((k : Nat) : Int) from Int.zero_add _]
          have t5 := s5 _ _ t4
          have a5 := s5 _ _ a4
          have hD5 := s5 _ _ hD4
          have nn : nV r ≠ [] := fun z => R.ne (List.map_eq_nil_iff.mp z)
          refine ⟨_, rfl, _, rfl, t, t, nV r, nV r, rfl, rfl, SqT.of t5, SqT.of t5, nn, ?_, fun z => absurd z nn, fun _ p np => ?_⟩
          · rw [nV_len]
            exact Nat.le_of_lt (small_len (by omega))
          have e2 : nV r ++ nV r = nV (r ++ r) := (List.map_append ..).symm
          rw [e2]
          have s6 : Same H5 (upd H5 p (.tup (nV (r ++ r)))) := same_new np
          have p6 : (upd H5 p (.tup (nV (r ++ r)))) p = some (.tup (nV (r ++ r))) := upd_same
          have a6 := s6 _ _ a5
          have hD6 := s6 _ _ hD5
          refine ⟨p, rfl, ⟨_, SqT.of p6⟩, ?_⟩
          generalize upd H5 p (.tup (nV (r ++ r))) = H6 at s6 p6 a6 hD6 ⊢
          refine for_tup (xs := nV (r ++ r)) (fun j σ H' => ∃ y2, σ = [some (.ref a), some (.ref t), y2, some (.ref D), some (.int (k : Nat)), some (.int (wait k ((r ++ r).take j) : Nat))] ∧ H' = H6) ⟨_, rfl, rfl⟩ (fun j σ H' _ ⟨_, _, h⟩ => by rw [h]; exact SqT.of p6) ?_ ?_
          · rintro j x σ H' hx ⟨y2, rfl, rfl⟩
            obtain ⟨n, hn, rfl⟩ := nV_at hx
            have ew : wait k ((r ++ r).take (j + 1)) = if n = k then 0 else wait k ((r ++ r).take j) + 1 := by rw [take_get hn, wait_snoc]
            have lt := R.wait_lt vd hk (j + 1)
            refine ⟨_, rfl, _, rfl, rfl, _, rfl, ?_⟩
            refine ite_same (fun en => ?_) (fun en => ?_)
            · have enk : n = k := by
                have := V.int.inj (of_decide_eq_true en)
                omega
              rw [if_pos enk] at ew
              refine ⟨_, rfl, rfl, _, rfl, iteNT (fun z => nomatch z) ?_⟩
              refine ⟨_, rfl, _, rfl, _, rfl, a, d.map V.int, k, .int (d.getD k 0), rfl, rfl, SqT.of a6, atI_nat (by rw [List.getElem?_map, getD_get hk]; rfl), rfl, _, rfl, ?_⟩
              rw [decide_eq_false (fun z => by have := V.int.inj z; rw [ew] at lt; omega)]
              refine iteF ⟨some (.int (n : Nat)), ?_, rfl⟩
              rw [ew]
              rfl
            · have enk : ¬ n = k := fun z => en (decide_eq_true (by rw [z]))
              rw [if_neg enk] at ew
              refine ⟨_, rfl, (wait k ((r ++ r).take j) : Nat), 1, rfl, rfl, ?_⟩
              refine ⟨_, rfl, _, rfl, _, rfl, a, d.map V.int, k, .int (d.getD k 0), rfl, rfl, SqT.of a6, atI_nat (by rw [List.getElem?_map, getD_get hk]; rfl), rfl, _, rfl, ?_⟩
              rw [decide_eq_false (fun z => by have := V.int.inj z; rw [ew] at lt; omega)]
              refine iteF ⟨some (.int (n : Nat)), ?_, rfl⟩
              rw [ew]
              rfl
          · rintro σ H' ⟨y2, rfl, rfl⟩
            refine ⟨_, rfl, _, rfl, D, nV r, rfl, .inl (SqL.of hD6), rfl, nV_flat r, _, rfl, ?_⟩
            rw [if_pos rfl, inV_nV (R.has vd hk)]
            exact iteF ⟨_, _, _, rfl, same_trans s5 s6⟩
        · rintro σ H5 ⟨y2, y4, y5, rfl, s5⟩
          exact q H5 (same_trans sm4 s5)
end
end K64
/-! _law_steps -/
namespace K64
open PySem PySem.Spec PyProof.Rows L2 GxR
def succL (d s : List Int) (n : Nat) : List (List Int) := (List.range n).filterMap (srv d s)
theorem succL_some {d s t : List Int} {n : Nat} (h : srv d s n = some t) : succL d s (n + 1) = succL d s n ++ [t] := by
  unfold succL
  rw [List.range_succ, List.filterMap_append, List.filterMap_cons, h]
  rfl
theorem succL_none {d s : List Int} {n : Nat} (h : srv d s n = none) : succL d s (n + 1) = succL d s n := by
  unfold succL
  rw [List.range_succ, List.filterMap_append, List.filterMap_cons, h]
  exact List.append_nil _
/-- the places of the state that bar k -/
def bars (s : List Int) (k n : Nat) : List Nat := (List.range n).filter fun j => !decide (j = k) && decide (s.getD j 0 = 1)
theorem bars_succ (s : List Int) (k n : Nat) : bars s k (n + 1) = bars s k n ++ if (!decide (n = k) && decide (s.getD n 0 = 1)) = true then [n] else [] := by
  unfold bars
  rw [List.range_succ, List.filter_append, List.filter_cons, List.filter_nil]
theorem bars_len (s : List Int) (k n : Nat) : (bars s k n).length ≤ n := by
  have := List.length_filter_le (fun j => !decide (j = k) && decide (s.getD j 0 = 1)) (List.range n)
  rw [List.length_range] at this
  exact this
theorem bars_ok (s : List Int) (k : Nat) : (bars s k s.length).isEmpty = okS s k := by
  cases e : okS s k with
  | true =>
    have h := okS_iff.mp e
    rw [List.isEmpty_iff]
    unfold bars
    rw [List.filter_eq_nil_iff]
    intro j hj z
    rw [Bool.and_eq_true] at z
    have hj' := List.mem_range.mp hj
    have z1 : j ≠ k := fun q => by
      rw [decide_eq_true q] at z
      cases z.1
    exact h j hj' z1 (of_decide_eq_true z.2)
  | false =>
    cases q : (bars s k s.length).isEmpty with
    | false => rfl
    | true =>
      rw [List.isEmpty_iff] at q
      have : okS s k = true := okS_iff.mpr fun j hj hne z => by
        have hm : j ∈ bars s k s.length := List.mem_filter.mpr ⟨List.mem_range.mpr hj, by rw [decide_eq_false hne, decide_eq_true z]; rfl⟩
        rw [q] at hm
        cases hm
      rw [e] at this
      cases this
theorem srv_eq (d s : List Int) (k : Nat) : srv d s k = if (bars s k s.length).isEmpty = true then some (nxt d s k) else none := by
  rw [bars_ok]
  rfl
theorem dp_nV {K : PySem.W.Frag} {H : Hp} {l : Addr} {r : List Nat} (h : H l = some (.lst (nV r))) : Dp K H (.ref l) (.list ((rI64 r).map PyData.int)) := by
  rw [nV_ints] at h
  exact .lst (SqL.of h) (dpAll_ints K H (rI64 r))
def spSteps : Sp := fun vs H Q _ => ∃ (a b : Addr) (d s : List Int), vs = [.ref a, .ref b] ∧ H a = some (.tup (d.map V.int)) ∧ H b = some (.tup (s.map V.int)) ∧ s.length = d.length ∧ d.length ≤ 4 ∧
  ∀ H' p bs, Same H H' → H p = none → H' p = some (.lst (bs.map V.ref)) → Tps H' bs (succL d s s.length) → Q (.ref p) H'
abbrev NSt : List Str := ["_law_distances_here", "_law_state", "_law_found", "_law_k", "_law_j"]
section
variable {P : Program} {w : World} {K : PySem.W.Frag} {mg : Str → Option Value} {base : Heap}
theorem ok_steps {f : Addr} {fd : FuncData} (F : Fun K "_law_steps" "_law_steps" sSteps f fd) (M : Nm mg) : FnOk P w K mg base CX0 1 f fd ["_law_distances_here", "_law_state"] spSteps := by
  refine F.ok scSteps (fun vs H Q E h => ?_) (fun cdv A outer st0 H vs Q E hr h => ?_)
  · obtain ⟨a, b, d, s, rfl, _⟩ := h
    rfl
  · obtain ⟨a, b, d, s, rfl, ha, hb, hl, h4, q⟩ := h
    have nd := scSteps.nd
    have hu : (A.deeper (envOfC "_law_steps" (defScope sSteps) st0.heap.objs.size f cdv)).units + 64 < cLine := Nat.lt_of_succ_lt (hu65 hr)
    refine ⟨_,
      pss_cons (ps_set (i := 2) nd rfl (.inl rfl) (pe_lst pa_nil))
      (pss_cons (ps_for PassesOwn.never rfl (pi_range1 rfl M.range (pa_cons (pe_callB call_len_seq (by rfl) M.len PySem.boot_len (pa_cons (pv 1) pa_nil)) pa_nil)) (pg_name (i := 3) nd rfl (.inr rfl))
        (pss_one (ps_if (pt_cmpR (op_eqD hu) (pe_lc (own := [("_law_j", 4)]) (g := gName 4) rfl nd (pi_range1 rfl M.range (pa_cons (pe_callB call_len_seq (by rfl) M.len PySem.boot_len (pa_cons (pv 1) pa_nil)) pa_nil)) (blkOk_by (own := [("_law_j", 4)]) (N := NSt) (sc := defScope sSteps) (by decide +kernel))
            (fun _ _ _ _ _ => pg_name (i := 4) nd rfl (Or.inl rfl)) (fun _ _ _ _ _ => pts_one (PW.pt (pw_and (pt_cmpR op_ne (pv 4) (pv 3) (nomark _)) (pw_and1 (pt_cmpR op_eq (pe_ix (r := rIxT K) ix_tup (pv 1) (pv 4) (fun _ _ => rfl)) pe_int (nomark _)))))) (fun _ _ _ _ _ => pv 4)) (pe_lst pa_nil) (nomark _))
          (pss_one (ps_expr (pe_bm PySem.F.plainAttrs_list PySem.F.slot_list_append PySem.F.type_list_append mt_append (pv 2) (pa_cons (pe_callTy call_tuple_of (by rfl) M.tuple (by decide +kernel) (pa_cons (pe_lc (own := [("_law_j", 4)]) (g := gName 4) rfl nd (pi_range1 rfl M.range (pa_cons (pe_callB call_len_seq (by rfl) M.len PySem.boot_len (pa_cons (pv 1) pa_nil)) pa_nil)) (blkOk_by (own := [("_law_j", 4)]) (N := NSt) (sc := defScope sSteps) (by decide +kernel))
            (fun _ _ _ _ _ => pg_name (i := 4) nd rfl (Or.inl rfl)) (fun _ _ _ _ _ => pts_nil) (fun _ _ _ _ _ => pe_ifExp (pt_cmpR op_eq (pv 4) (pv 3) (nomark _)) (pe_ix (r := rIxT K) ix_tup (pv 0) (pv 4) (fun _ _ => rfl)) (pe_op op_sub (pe_ix (r := rIxT K) ix_tup (pv 1) (pv 4) (fun _ _ => rfl)) pe_int))) pa_nil)) pa_nil)))) pss_nil)))
      (pss_one (ps_ret (pv 2)))), ?_⟩
    -- _law_found = []
    refine ⟨Nat.zero_le _, fun o no => ?_⟩
    have s1 : Same H (upd H o (.lst [])) := same_new no
    have hl4 : (s.map V.int).length ≤ 4 := by rw [List.length_map]; omega
    have en : (((s.map V.int).length : Nat) : Int).toNat = s.length := by rw [List.length_map]; rfl
    refine ⟨_, rfl, b, s.map V.int, rfl, .inr (SqT.of (s1 _ _ hb)), _, rfl, by omega, by omega, ?_⟩
    rw [en]
    refine for_range (lo := 0) (n := s.length) (fun k σ H' => ∃ y3 y4, σ = [some (.ref a), some (.ref b), some (.ref o), y3, y4] ∧ Same H H' ∧ ∃ bs, H' o = some (.lst (bs.map V.ref)) ∧ Tps H' bs (succL d s k)) ⟨_, _, rfl, s1, [], upd_same, .nil⟩ ?_ ?_
    · rintro k σ H1 hk ⟨y3, y4, rfl, sm, bs, ho, tp⟩
      rw [show (0 : Int) + (k : Nat) = ((k : Nat) : Int) from Int.zero_add _]
      -- what bars k
      refine ⟨_, rfl, b, s.map V.int, rfl, .inr (SqT.of (sm _ _ hb)), _, rfl, by omega, by omega, fun D nD => ?_⟩
      rw [en]
      refine lc_range (lo := 0) (n := s.length) (fun i H' => Same H1 H' ∧ H' D = some (.lst (nV (bars s k i)))) ⟨same_new nD, upd_same⟩ ?_ ?_
      · intro j H' hj ⟨s2, hD⟩
        rw [show (0 : Int) + (j : Nat) = ((j : Nat) : Int) from Int.zero_add _]
        have hb2 := s2 _ _ (sm _ _ hb)
        have ins : ∀ H' : Hp, Same H1 H' → H' D = some (.lst (nV (bars s k j))) → (!decide (j = k) && decide (s.getD j 0 = 1)) = true → ∃ acc, H' D = some (.lst acc) ∧ acc.length < sizeLine ∧ Same H1 (upd H' D (.lst (acc ++ [.int (j : Nat)]))) ∧ (upd H' D (.lst (acc ++ [.int (j : Nat)]))) D = some (.lst (nV (bars s k (j + 1)))) := by
          intro H' sm' hD' e
          refine ⟨_, hD', ?_, same_own sm' nD, ?_⟩
          · have := bars_len s k j
            rw [nV_len]
            exact small_len (by omega)
          · rw [upd_same, bars_succ, e, if_pos rfl]
            unfold nV
            rw [List.map_append]
            rfl
        have out : (!decide (j = k) && decide (s.getD j 0 = 1)) = false → bars s k (j + 1) = bars s k j := by
          intro e
          rw [bars_succ, e, if_neg (by decide), List.append_nil]
        refine ⟨rfl, _, rfl, _, rfl, rfl, _, rfl, ?_⟩
        refine iteNB (fun e1 => ?_) (fun e1 => ?_)
        · have e1' : ¬ j = k := fun z => by
            rw [z, decide_eq_true rfl] at e1
            cases e1
          refine ⟨_, rfl, _, rfl, b, s.map V.int, j, .int (s.getD j 0), rfl, rfl, SqT.of hb2, atI_nat (by rw [List.getElem?_map, getD_get hj]; rfl), rfl, _, rfl, ?_⟩
          refine iteB (fun e2 => ?_) (fun e2 => ?_)
          · have e2' : s.getD j 0 = 1 := V.int.inj (of_decide_eq_true e2)
            exact ⟨_, rfl, ins H' s2 hD (by rw [decide_eq_false e1', decide_eq_true e2']; rfl)⟩
          · have e2' : ¬ s.getD j 0 = 1 := fun z => by
              rw [z, decide_eq_true rfl] at e2
              cases e2
            rw [out (by rw [decide_eq_false e2', Bool.and_false])]
            exact ⟨s2, hD⟩
        · have e1' : j = k := by
            have := V.int.inj (of_decide_eq_true e1)
            omega
          refine iteF ?_
          rw [out (by rw [decide_eq_true e1']; rfl)]
          exact ⟨s2, hD⟩
      · intro H2 ⟨s2, hD⟩
        refine ⟨Nat.zero_le _, fun e2 ne2 => ?_⟩
        have s3 : Same H2 (upd H2 e2 (.lst [])) := same_new ne2
        refine ⟨_, .list (([] : List (List Int)).map iD), dp_nV (s3 _ _ hD), dp_tps (bs := []) (ss := []) (SqL.of upd_same) .nil, shaped_ints _, shaped_iDs [], _, rfl, ?_⟩
        rw [show PyData.eqv (.list ((rI64 (bars s k s.length)).map PyData.int)) (.list (([] : List (List Int)).map iD)) = ((rI64 (bars s k s.length)).map PyData.int).isEmpty from eqv_nil _, isEmpty_map, show (rI64 (bars s k s.length)).isEmpty = (bars s k s.length).isEmpty from isEmpty_map ..]
        have s4 := same_trans s2 s3
        have ho4 := s4 _ _ ho
        have tp4 := tp.imp fun b s e => s4 _ _ e
        have sm4 := same_trans sm s4
        clear tp
        generalize upd H2 e2 (.lst []) = H4 at s4 ho4 tp4 sm4 ⊢
        clear s3 ne2 hD s2 nD
        refine iteB (fun en2 => ?_) (fun en2 => ?_)
        · have hs : srv d s k = some (nxt d s k) := by rw [srv_eq, if_pos en2]
          refine ⟨_, rfl, .inl ⟨rfl, _, SqL.of ho4⟩, ?_⟩
          refine ⟨_, rfl, b, s.map V.int, rfl, .inr (SqT.of (sm4 _ _ hb)), _, rfl, by omega, by omega, fun D nD => ?_⟩
          rw [en]
          refine lc_range (lo := 0) (n := s.length) (fun i H' => Same H4 H' ∧ H' D = some (.lst (((nxt d s k).take i).map V.int))) ⟨same_new nD, upd_same⟩ ?_ ?_
          · intro j H' hj ⟨s5, hD⟩
            rw [show (0 : Int) + (j : Nat) = ((j : Nat) : Int) from Int.zero_add _]
            have hb5 := s5 _ _ (sm4 _ _ hb)
            have ha5 := s5 _ _ (sm4 _ _ ha)
            have hlen : (((nxt d s k).take j).map V.int).length < sizeLine := by
              rw [List.length_map, List.length_take]
              exact small_len (by omega)
            refine ⟨rfl, _, rfl, _, rfl, rfl, _, rfl, ?_⟩
            refine ite_same (fun e1 => ?_) (fun e1 => ?_)
            · have e1' : j = k := by
                have := V.int.inj (of_decide_eq_true e1)
                omega
              refine ⟨_, rfl, _, rfl, a, d.map V.int, j, .int (d.getD j 0), rfl, rfl, SqT.of ha5, atI_nat (by rw [List.getElem?_map, getD_get (by omega)]; rfl), _, hD, hlen, same_own s5 nD, ?_⟩
              rw [upd_same]
              refine congrArg (fun l => some (HO.lst l)) (take_at V.int ?_)
              rw [nxt_at hj, if_pos e1']
            · have e1' : ¬ j = k := fun z => e1 (decide_eq_true (by rw [z]))
              refine ⟨_, rfl, _, rfl, b, s.map V.int, j, .int (s.getD j 0), rfl, rfl, SqT.of hb5, atI_nat (by rw [List.getElem?_map, getD_get hj]; rfl), s.getD j 0, 1, rfl, rfl, _, hD, hlen, same_own s5 nD, ?_⟩
              rw [upd_same]
              refine congrArg (fun l => some (HO.lst l)) (take_at V.int ?_)
              rw [nxt_at hj, if_neg e1']
          · intro H5 ⟨s5, hD⟩
            rw [List.take_of_length_le (by rw [nxt_len]; exact Nat.le_refl _)] at hD
            refine ⟨D, _, rfl, .inl ⟨SqL.of hD, fun p np => ?_⟩⟩
            have s6 := same_trans s5 (same_new (o := .tup ((nxt d s k).map V.int)) np)
            have ho6 := s6 _ _ ho4
            have kD : TupK (upd H5 p (.tup ((nxt d s k).map V.int))) (upd (upd H5 p (.tup ((nxt d s k).map V.int))) o (.lst (bs.map V.ref ++ [.ref p]))) := tupK_upd ho6 (fun xs z => nomatch z)
            refine ⟨o, _, _, rfl, rfl, ho6, ?_, _, _, rfl, same_own (same_trans sm4 s6) no, bs ++ [p], ?_, ?_⟩
            · have h1 : (succL d s k).length ≤ (List.range k).length := List.length_filterMap_le _ _
              rw [List.length_range] at h1
              rw [List.length_map, tp4.len]
              exact small_len (by omega)
            · rw [upd_same, List.map_append]
              rfl
            · rw [succL_some hs]
              exact (kD.tps (tp4.imp fun b s e => s6 _ _ e)).snoc (kD _ _ upd_same)
        · have hs : srv d s k = none := by rw [srv_eq, en2, if_neg (by decide)]
          refine ⟨_, _, rfl, sm4, bs, ho4, ?_⟩
          rw [succL_none hs]
          exact tp4
    · rintro σ H1 ⟨y3, y4, rfl, sm, bs, ho, tp⟩
      exact ⟨_, rfl, q H1 o bs sm no ho tp⟩
end
end K64
/-! _law_goes_on -/
namespace K64
open PySem PySem.Spec PyProof.Rows L2 GxR
theorem tps_same {H H' : Hp} {bs : List Addr} {ss : List (List Int)} (sm : Same H H') (h : Tps H bs ss) : Tps H' bs ss := h.imp fun b s e => sm _ _ e
theorem same_refl (H : Hp) : Same H H := fun _ _ e => e
theorem prs_same {H H' : Hp} {ts : List Addr} {zs : List (List Key × Addr × V)} (sm : Same H H') (h : PrsT H ts zs) : PrsT H' ts zs := TupK.prs (fun b xs e => sm _ _ e) h
section
variable {K : PySem.W.Frag} {H2 : Hp} {l : Addr} {bs : List Addr} {qs : List (List Int)} {n : Nat} {σ : L2.St} {tt : TT} {Q : VK} {keep : List Int → Bool}
/-- [s for s in l if ..] -/
theorem lc_fltL (hw : ∀ q : Addr, wipe ((wipe σ [n]).set n (some (.ref q))) [n] = wipe σ [n]) (hv : ∀ q : Addr, ((wipe σ [n]).set n (some (.ref q)))[n]? = some (some (.ref q))) (hl : H2 l = some (.lst (bs.map V.ref))) (tp : Tps H2 bs qs) (hm : qs.length ≤ 1296)
    (ht : ∀ (s : List Int) (q : Addr) (H : Hp) (R : Bool → Hp → Prop), s ∈ qs → H q = some (.tup (s.map V.int)) → Same H2 H → (∀ H3, Same H H3 → R (keep s) H3) → tt ((wipe σ [n]).set n (some (.ref q))) H R)
    (hQ : ∀ (D : Addr) (cs : List Addr) (H' : Hp), Same H2 H' → H2 D = none → H' D = some (.lst (cs.map V.ref)) → Tps H' cs (qs.filter keep) → Q (.ref D) H') :
    tLc (iList K (tC (.ref l))) (gName n) tt (tVar n) [n] σ H2 Q := by
  refine ⟨l, rfl, ⟨_, SqL.of hl⟩, fun D nD => ?_⟩
  refine lc_list (xs := bs.map V.ref) (fun i H' => Same H2 H' ∧ ∃ cs : List Addr, H' D = some (.lst (cs.map V.ref)) ∧ Tps H' cs ((qs.take i).filter keep)) ⟨same_new nD, [], upd_same, .nil⟩ (fun i H' _ h => SqL.of (h.1 _ _ hl)) ?_ ?_
  · intro i x H hx ⟨sm, cs, hD, tc⟩
    obtain ⟨q, hq, rfl⟩ : ∃ q, bs[i]? = some q ∧ V.ref q = x := by
      rw [List.getElem?_map] at hx
      cases e5 : bs[i]? with
      | none =>
        rw [e5] at hx
        cases hx
      | some q =>
        rw [e5] at hx
        exact ⟨q, rfl, Option.some.inj hx⟩
    obtain ⟨s, hs, hqs⟩ := tp.get hq
    refine ⟨hw q, ht s q H _ (List.mem_of_getElem? hs) (sm _ _ hqs) sm fun H3 s3 => ?_⟩
    have ef : (qs.take (i + 1)).filter keep = (qs.take i).filter keep ++ if keep s = true then [s] else [] := by
      rw [take_get hs, List.filter_append, List.filter_cons, List.filter_nil]
    have hD3 := s3 _ _ hD
    refine iteB (fun h => ?_) (fun h => ?_)
    · rw [h, if_pos rfl] at ef
      rw [ef]
      have kD : TupK H3 (upd H3 D (.lst (cs.map V.ref ++ [.ref q]))) := tupK_upd hD3 (fun xs z => nomatch z)
      refine ⟨.ref q, hv q, _, hD3, ?_, same_own (same_trans sm s3) nD, cs ++ [q], ?_, (kD.tps (tps_same s3 tc)).snoc (kD _ _ (s3 _ _ (sm _ _ hqs)))⟩
      · have := tc.len
        have h2 := List.length_filter_le keep (qs.take i)
        rw [List.length_take] at h2
        rw [List.length_map]
        exact small_len (by omega)
      · rw [upd_same, List.map_append]
        rfl
    · rw [h, if_neg (by decide), List.append_nil] at ef
      rw [ef]
      exact ⟨same_trans sm s3, cs, hD3, tps_same s3 tc⟩
  · intro H ⟨sm, cs, hD, tc⟩
    rw [List.length_map, tp.len, List.take_length] at tc
    exact hQ D cs H sm nD hD tc
/-- [(s, True) for s in l if ..] -/
theorem lc_prsL (hw : ∀ q : Addr, wipe ((wipe σ [n]).set n (some (.ref q))) [n] = wipe σ [n]) (hv : ∀ q : Addr, ((wipe σ [n]).set n (some (.ref q)))[n]? = some (some (.ref q))) (hl : H2 l = some (.lst (bs.map V.ref))) (tp : Tps H2 bs qs) (hm : qs.length ≤ 1296)
    (ht : ∀ (s : List Int) (q : Addr) (H : Hp) (R : Bool → Hp → Prop), s ∈ qs → H q = some (.tup (s.map V.int)) → Same H2 H → (∀ H3, Same H H3 → R (keep s) H3) → tt ((wipe σ [n]).set n (some (.ref q))) H R)
    (hQ : ∀ (D : Addr) (ts : List Addr) (zs : List (List Key × Addr × V)) (H' : Hp), Same H2 H' → H2 D = none → H' D = some (.lst (ts.map V.ref)) → PrsT H' ts zs → zs.map (·.1) = (qs.filter keep).map ik → zs.map (·.2.2) = (qs.filter keep).map (fun _ => V.bl true) → Q (.ref D) H') :
    tLc (iList K (tC (.ref l))) (gName n) tt (tTup (tCons (tVar n) (tCons (tC (.bl true)) tNil))) [n] σ H2 Q := by
  refine ⟨l, rfl, ⟨_, SqL.of hl⟩, fun D nD => ?_⟩
  refine lc_list (xs := bs.map V.ref) (fun i H' => Same H2 H' ∧ ∃ ts zs, H' D = some (.lst (ts.map V.ref)) ∧ PrsT H' ts zs ∧ zs.map (·.1) = ((qs.take i).filter keep).map ik ∧ zs.map (·.2.2) = ((qs.take i).filter keep).map (fun _ => V.bl true)) ⟨same_new nD, [], [], upd_same, .nil, rfl, rfl⟩ (fun i H' _ h => SqL.of (h.1 _ _ hl)) ?_ ?_
  · intro i x H hx ⟨sm, ts, zs, hD, tc, hz1, hz2⟩
    obtain ⟨q, hq, rfl⟩ : ∃ q, bs[i]? = some q ∧ V.ref q = x := by
      rw [List.getElem?_map] at hx
      cases e5 : bs[i]? with
      | none =>
        rw [e5] at hx
        cases hx
      | some q =>
        rw [e5] at hx
        exact ⟨q, rfl, Option.some.inj hx⟩
    obtain ⟨s, hs, hqs⟩ := tp.get hq
    refine ⟨hw q, ht s q H _ (List.mem_of_getElem? hs) (sm _ _ hqs) sm fun H3 s3 => ?_⟩
    have ef : (qs.take (i + 1)).filter keep = (qs.take i).filter keep ++ if keep s = true then [s] else [] := by
      rw [take_get hs, List.filter_append, List.filter_cons, List.filter_nil]
    have hD3 := s3 _ _ hD
    refine iteB (fun h => ?_) (fun h => ?_)
    · rw [h, if_pos rfl] at ef
      rw [ef]
      refine ⟨.ref q, hv q, (by show 2 ≤ sizeLine; decide), fun T nT => ?_⟩
      have s4 : Same H3 (upd H3 T (.tup [.ref q, .bl true])) := same_new nT
      have hD4 := s4 _ _ hD3
      have kD : TupK (upd H3 T (.tup [.ref q, .bl true])) (upd (upd H3 T (.tup [.ref q, .bl true])) D (.lst (ts.map V.ref ++ [.ref T]))) := tupK_upd hD4 (fun xs z => nomatch z)
      refine ⟨_, hD4, ?_, same_own (same_trans sm (same_trans s3 s4)) nD, ts ++ [T], zs ++ [(ik s, q, .bl true)], ?_, ?_, ?_, ?_⟩
      · have e6 := congrArg List.length hz1
        have h2 := List.length_filter_le keep (qs.take i)
        rw [List.length_take] at h2
        rw [List.length_map, List.length_map] at e6
        rw [List.length_map, prs_len tc]
        exact small_len (by omega)
      · rw [upd_same, List.map_append]
        rfl
      · exact prs_snoc (kD _ _ upd_same) (by rw [ik_kV]; exact kD _ _ (s4 _ _ (s3 _ _ (sm _ _ hqs)))) (kD.prs (prs_same s4 (prs_same s3 tc)))
      · rw [List.map_append, List.map_append, hz1]
        rfl
      · rw [List.map_append, List.map_append, hz2]
        rfl
    · rw [h, if_neg (by decide), List.append_nil] at ef
      rw [ef]
      exact ⟨same_trans sm s3, ts, zs, hD3, prs_same s3 tc, hz1, hz2⟩
  · intro H ⟨sm, ts, zs, hD, tc, hz1, hz2⟩
    rw [List.length_map, tp.len, List.take_length] at hz1 hz2
    exact hQ D ts zs H sm nD hD tc hz1 hz2
end
/-- the row at l: the states that follow -/
def RowL (H : Hp) (l : Addr) (L : List (List Int)) : Prop := ∃ bs : List Addr, H l = some (.lst (bs.map V.ref)) ∧ Tps H bs L
theorem RowL.imp {H H' : Hp} {l : Addr} {L : List (List Int)} (r : RowL H l L) (k : TupK H H') (e : H' l = H l) : RowL H' l L := by
  obtain ⟨bs, h1, h2⟩ := r
  exact ⟨bs, by rw [e]; exact h1, k.tps h2⟩
/-- the rows at e for ks, the queue at u: ks, then rs -/
structure Gq (d : List Int) (H0 H : Hp) (e u : Addr) (ks rs : List (List Int)) (rows : List Int → Addr) (bs : List Addr) : Prop where
  sm : Same H0 H
  e0 : H0 e = none
  u0 : H0 u = none
  dict : H e = some (.dT (dS (mkR ks rows)))
  que : H u = some (.lst (bs.map V.ref))
  tps : Tps H bs (ks ++ rs)
  nd : (ks ++ rs).Nodup
  vs : ∀ s ∈ ks ++ rs, Vs d s
  start : d ∈ ks ++ rs
  row : ∀ s ∈ ks, RowL H (rows s) (succL d s s.length) ∧ rows s ≠ u
section
variable {d : List Int} {H0 H H' : Hp} {e u : Addr} {ks rs : List (List Int)} {rows : List Int → Addr} {bs : List Addr}
theorem Gq.few (vd : Vd d) (G : Gq d H0 H e u ks rs rows bs) : (ks ++ rs).length ≤ 1296 := few_states vd G.nd G.vs
theorem Gq.ne (G : Gq d H0 H e u ks rs rows bs) : u ≠ e := ne_of G.que G.dict (fun z => nomatch z)
theorem Gq.same (G : Gq d H0 H e u ks rs rows bs) (s : Same H H') : Gq d H0 H' e u ks rs rows bs := by
  refine ⟨same_trans G.sm s, G.e0, G.u0, s _ _ G.dict, s _ _ G.que, tps_same s G.tps, G.nd, G.vs, G.start, fun r hr => ⟨?_, (G.row r hr).2⟩⟩
  obtain ⟨cs, h1, h2⟩ := (G.row r hr).1
  exact ⟨cs, s _ _ h1, tps_same s h2⟩
theorem Gq.lst (G : Gq d H0 H e u ks rs rows bs) {s : List Int} (hs : s ∈ ks) : ∃ xs, H (rows s) = some (.lst xs) := let ⟨_, h, _⟩ := (G.row s hs).1; ⟨_, h⟩
theorem Gq.app (G : Gq d H0 H e u ks rs rows bs) {t : List Int} {b : Addr} (hb : H b = some (.tup (t.map V.int))) (v : Vs d t) (hn : t ∉ ks ++ rs) : Gq d H0 (upd H u (.lst ((bs ++ [b]).map V.ref))) e u ks (rs ++ [t]) rows (bs ++ [b]) := by
  have k : TupK H (upd H u (.lst ((bs ++ [b]).map V.ref))) := tupK_upd G.que (fun _ z => nomatch z)
  have ea : ks ++ (rs ++ [t]) = (ks ++ rs) ++ [t] := (List.append_assoc ..).symm
  refine ⟨same_own G.sm G.u0, G.e0, G.u0, ?_, upd_same, ?_, ?_, fun s hs => ?_, ?_, fun s hs => ⟨(G.row s hs).1.imp k (upd_ne (G.row s hs).2), (G.row s hs).2⟩⟩
  · rw [upd_ne G.ne.symm]
    exact G.dict
  · rw [ea]
    exact (k.tps G.tps).snoc (k _ _ hb)
  · rw [ea]
    exact nd_snoc G.nd hn
  · rw [ea] at hs
    rcases List.mem_append.mp hs with z | z
    · exact G.vs s z
    · rw [List.mem_singleton.mp z]
      exact v
  · rw [ea]
    exact List.mem_append_left _ G.start
/-- the row of the next state is stored -/
theorem Gq.key {s : List Int} (G : Gq d H0 H e u ks (s :: rs) rows bs) {p : Addr} (hp : RowL H p (succL d s s.length)) (hpu : p ≠ u) :
    ∃ rows' : List Int → Addr, putK (dS (mkR ks rows)) (ik s) (.ref p) = dS (mkR (ks ++ [s]) rows') ∧ rows' s = p ∧ Gq d H0 (upd H e (.dT (dS (mkR (ks ++ [s]) rows')))) e u (ks ++ [s]) rs rows' bs := by
  have ea : ks ++ s :: rs = (ks ++ [s]) ++ rs := by rw [List.append_assoc]; rfl
  have hs : s ∉ ks := fun z => (List.nodup_append.mp G.nd).2.2 s z s List.mem_cons_self rfl
  have hf : ∀ r ∈ ks, (if r = s then p else rows r) = rows r := fun r hr => if_neg (fun z : r = s => hs (z ▸ hr))
  have k : TupK H (upd H e (.dT (dS (mkR (ks ++ [s]) (fun r => if r = s then p else rows r))))) := tupK_upd G.dict (fun _ z => nomatch z)
  refine ⟨fun r => if r = s then p else rows r, ?_, if_pos rfl, same_own G.sm G.e0, G.e0, G.u0, upd_same, ?_, ?_, ?_, ?_, ?_, fun r hr => ?_⟩
  · rw [putK_dS]
    refine congrArg dS (putK_map_new (f := fun s => V.ref (rows s)) hs (fun r => V.ref (if r = s then p else rows r)) ?_ fun r hr => ?_)
    · rw [if_pos rfl]
    · rw [hf r hr]
  · rw [upd_ne G.ne]
    exact G.que
  · rw [← ea]
    exact k.tps G.tps
  · rw [← ea]
    exact G.nd
  · rw [← ea]
    exact G.vs
  · rw [← ea]
    exact G.start
  · show RowL _ (if r = s then p else rows r) _ ∧ (if r = s then p else rows r) ≠ u
    rcases List.mem_append.mp hr with z | z
    · rw [hf r z]
      obtain ⟨xs, hx⟩ := G.lst z
      exact ⟨(G.row r z).1.imp k (upd_ne (ne_of hx G.dict (fun z => nomatch z))), (G.row r z).2⟩
    · have er := List.mem_singleton.mp z
      rw [if_pos er, er]
      obtain ⟨cs, hc, _⟩ := hp
      exact ⟨RowL.imp ⟨cs, hc, ‹_›⟩ k (upd_ne (ne_of hc G.dict (fun z => nomatch z))), hpu⟩
theorem Gq.has (G : Gq d H0 H e u ks rs rows bs) {s : List Int} {b : Addr} (hb : H b = some (.tup (s.map V.int))) : ∃ o, DGet H e (.ref b) o ∧ o.isSome = decide (s ∈ ks) := by
  refine ⟨_, DGet.t (k := ik s) G.dict (by rw [ik_kV]; exact hb), ?_⟩
  rw [valV_dS]
  exact valV_map_is (fun s => V.ref (rows s)) s ks
theorem Gq.get (G : Gq d H0 H e u ks rs rows bs) {s : List Int} (hs : s ∈ ks) {b : Addr} (hb : H b = some (.tup (s.map V.int))) : DGet H e (.ref b) (some (.ref (rows s))) := by
  have h := DGet.t (k := ik s) G.dict (by rw [ik_kV]; exact hb)
  rw [valV_dS, show valV (mkR ks rows) s = some (V.ref (rows s)) from valV_map (f := fun s => V.ref (rows s)) hs] at h
  exact h
end
theorem mem_succL {d s t : List Int} {n : Nat} : t ∈ succL d s n ↔ ∃ i, i < n ∧ srv d s i = some t := by
  unfold succL
  rw [List.mem_filterMap]
  constructor
  · rintro ⟨i, hi, e⟩
    exact ⟨i, List.mem_range.mp hi, e⟩
  · rintro ⟨i, hi, e⟩
    exact ⟨i, List.mem_range.mpr hi, e⟩
/-- nothing alive follows -/
def lostL (d : List Int) (as : List (List Int)) (s : List Int) : Bool := ((succL d s s.length).filter fun t => decide (t ∈ as)).isEmpty
theorem lostL_false {d : List Int} {as : List (List Int)} {s : List Int} : lostL d as s = false ↔ ∃ t, t ∈ succL d s s.length ∧ t ∈ as := by
  unfold lostL
  rw [List.isEmpty_eq_false_iff]
  constructor
  · intro h
    obtain ⟨t, ht⟩ := List.exists_mem_of_ne_nil _ h
    have := List.mem_filter.mp ht
    exact ⟨t, this.1, of_decide_eq_true this.2⟩
  · rintro ⟨t, h1, h2⟩ z
    have : t ∈ (succL d s s.length).filter fun t => decide (t ∈ as) := List.mem_filter.mpr ⟨h1, decide_eq_true h2⟩
    rw [z] at this
    cases this
/-- the alive states in the law's second loop -/
structure Aq (d : List Int) (ks as : List (List Int)) : Prop where
  nd : as.Nodup
  sub : ∀ s ∈ as, s ∈ ks
  good : ∀ s ∈ ks, Good d s → s ∈ as
theorem Aq.next {d : List Int} {ks as rs cs : List (List Int)} (A : Aq d ks as) (vs : ∀ s ∈ ks, s.length = d.length) (cl : ∀ s ∈ ks, ∀ t ∈ succL d s s.length, t ∈ ks) (pr : rs.Perm as) (pc : cs.Perm as) (hne : rs.filter (lostL d as) ≠ []) :
    Aq d ks (cs.filter fun s => !decide (s ∈ rs.filter (lostL d as))) ∧ (cs.filter fun s => !decide (s ∈ rs.filter (lostL d as))).length < as.length := by
  refine ⟨⟨(pc.nodup_iff.mpr A.nd).filter _, fun s hs => A.sub s (pc.mem_iff.mp (List.mem_filter.mp hs).1), fun s hs g => ?_⟩, ?_⟩
  · refine List.mem_filter.mpr ⟨pc.mem_iff.mpr (A.good s hs g), ?_⟩
    obtain ⟨i, hi, t, e, gt⟩ := g.step
    have hm : t ∈ succL d s s.length := mem_succL.mpr ⟨i, by rw [vs s hs]; exact hi, e⟩
    have h2 : lostL d as s = false := lostL_false.mpr ⟨t, hm, A.good t (cl s hs t hm) gt⟩
    rw [decide_eq_false fun z => by
      have := (List.mem_filter.mp z).2
      rw [h2] at this
      cases this]
    rfl
  · obtain ⟨s, hs⟩ := List.exists_mem_of_ne_nil _ hne
    have h1 : s ∈ cs := pc.mem_iff.mpr (pr.mem_iff.mp (List.mem_filter.mp hs).1)
    have h2 := List.length_filter_le (fun s => !decide (s ∈ rs.filter (lostL d as))) cs
    rw [← pc.length_eq]
    refine Nat.lt_of_le_of_ne h2 fun z => ?_
    have h3 := List.length_filter_eq_length_iff.mp z s h1
    rw [decide_eq_true hs] at h3
    cases h3
theorem Aq.done {d : List Int} {ks as rs : List (List Int)} (A : Aq d ks as) (vs : ∀ s ∈ ks, s.length = d.length) (start : d ∈ ks) (pr : rs.Perm as) (he : rs.filter (lostL d as) = []) : decide (d ∈ as) = true ↔ Good d d := by
  refine ⟨fun h => good_of (L := as) (fun t ht => ?_) (of_decide_eq_true h), fun g => decide_eq_true (A.good d start g)⟩
  have h1 : lostL d as t = false := by
    cases e : lostL d as t with
    | false => rfl
    | true =>
      have : t ∈ rs.filter (lostL d as) := List.mem_filter.mpr ⟨pr.mem_iff.mpr ht, e⟩
      rw [he] at this
      cases this
  obtain ⟨u, h2, h3⟩ := lostL_false.mp h1
  obtain ⟨i, hi, e⟩ := mem_succL.mp h2
  exact ⟨i, by rw [← vs t (A.sub t ht)]; exact hi, u, e, h3⟩
end K64
/-! _law_goes_on: the walk -/
namespace K64
open PySem PySem.Spec PyProof.Rows L2 GxR
abbrev NGo : List Str := ["_law_distances_here", "_law_rows", "_law_queue", "_law_turn", "_law_one", "_law_alive", "_law_gone", "_law_state"]
theorem in_lcV {K : PySem.W.Frag} {i : Nat} {v : V} {g : TG} {tt : TT} {te : TE} {vs : List Nat} {σ : L2.St} {H : Hp} {Q : VK} (h0 : σ[i]? = some (some v)) (h : tLc (iList K (tC v)) g tt te vs σ H Q) : tLc (iList K (tVar i)) g tt te vs σ H Q := ⟨v, h0, h⟩
theorem in_lcD {K : PySem.W.Frag} {i j : Nat} {e q : Addr} {v : V} {g : TG} {tt : TT} {te : TE} {vs : List Nat} {σ : L2.St} {H : Hp} {Q : VK} (h0 : σ[i]? = some (some (.ref e))) (h1 : σ[j]? = some (some (.ref q))) (hd : DGet H e (.ref q) (some v)) (h : tLc (iList K (tC v)) g tt te vs σ H Q) :
    tLc (iList K (tDGet (tVar i) (tVar j))) g tt te vs σ H Q := ⟨_, h0, _, h1, e, v, rfl, hd, h⟩
def rLd : List V → Hp → VK → Prop := fun xs H Q => ∃ d kvs, xs = [V.ref d] ∧ Rd H d (.dT kvs) ∧ ∀ p bs, H p = none → IsKeys H kvs bs → Q (.ref p) (upd H p (.lst (bs.map V.ref)))
theorem keys_tps {H : Hp} : ∀ {as : List (List Int)} {bs : List Addr}, IsKeys H (dS (as.map fun s => (s, V.bl true))) bs → Tps H bs as
  | [], [], _ => .nil
  | s :: as, b :: bs, h => by
    cases h with
    | cons h t =>
      refine .cons ?_ (keys_tps t)
      rw [← ik_kV]
      exact h
/-- for s in sorted(list(d)) -/
theorem in_lcS {K : PySem.W.Frag} {i : Nat} {p : Addr} {as : List (List Int)} {g : TG} {tt : TT} {te : TE} {vs : List Nat} {σ : L2.St} {H : Hp} {Q : VK} (h0 : σ[i]? = some (some (.ref p))) (hp : H p = some (aD as)) (hne : ∀ s ∈ as, s ≠ [])
    (h : ∀ (l : Addr) (bs : List Addr) (rs : List (List Int)) (H2 : Hp), Same H H2 → H2 l = some (.lst (bs.map V.ref)) → Tps H2 bs rs → rs.Perm as → tLc (iList K (tC (.ref l))) g tt te vs σ H2 Q) :
    tLc (iList K (tCB (rSortedT K) (tCons (tCB rLd (tCons (tVar i) tNil)) tNil))) g tt te vs σ H Q := by
  refine ⟨_, h0, p, _, rfl, .inl hp, fun l1 bs1 n1 k1 => ?_⟩
  have s1 : Same H (upd H l1 (.lst (bs1.map V.ref))) := same_new n1
  refine ⟨l1, bs1, as, rfl, SqL.of upd_same, tps_same s1 (keys_tps k1), hne, fun l2 cs rs n2 tc pr => ?_⟩
  have s2 : Same (upd H l1 (.lst (bs1.map V.ref))) (upd (upd H l1 (.lst (bs1.map V.ref))) l2 (.lst (cs.map V.ref))) := same_new n2
  exact h l2 cs rs _ (same_trans s1 s2) upd_same (tps_same s2 tc) pr
theorem in_test {t : TE} {σ : L2.St} {H : Hp} {R : Bool → Hp → Prop} (h : t σ H fun v H1 => ∃ c, v = .bl c ∧ R c H1) : tB t σ H R := h
theorem in_op {r : R2} {ta tb : TE} {σ : L2.St} {H : Hp} {Q : VK} (h : ta σ H fun x H1 => tb σ H1 fun y H2 => r x y H2 Q) : tOp r ta tb σ H Q := h
theorem in_cb1 {r : List V → Hp → VK → Prop} {ta : TE} {σ : L2.St} {H : Hp} {Q : VK} (h : ta σ H fun x H1 => r [x] H1 Q) : tCB r (tCons ta tNil) σ H Q := h
theorem in_next {D : Ends} {σ : L2.St} {H : Hp} (h : D.nx σ H) : tNext D σ H := h
theorem in_asg {te : TE} {g : TG} {D : Ends} {σ : L2.St} {H : Hp} (h : te σ H fun x H1 => g x σ H1 D.nx) : tAsg te g D σ H := h
def spGoes : Sp := fun vs H Q _ => ∃ (a : Addr) (d : List Int), vs = [.ref a] ∧ H a = some (.tup (d.map V.int)) ∧ Vd d ∧ ∀ H' b, Same H H' → (b = true ↔ Good d d) → Q (.bl b) H'
section
variable {P : Program} {w : World} {K : PySem.W.Frag} {mg : Str → Option Value} {base : Heap}
theorem ok_goes {f fS : Addr} {fd fdS : FuncData} (F : Fun K "_law_goes_on" "_law_goes_on" sGoes f fd) (M : Nm mg) (GS : FnOk P w K mg base CX0 1 fS fdS ["_law_distances_here", "_law_state"] spSteps) (FS : Fun K "_law_steps" "_law_steps" sSteps fS fdS) (bS : L2.Binds K fdS ["_law_distances_here", "_law_state"] []) (gS : mg "_law_steps" = some (.ref fS)) :
    FnOk P w K mg base CX0 2 f fd ["_law_distances_here"] spGoes := by
  refine F.ok scGoes (fun vs H Q E h => ?_) (fun cdv A outer st0 H vs Q E hr h => ?_)
  · obtain ⟨a, d, rfl, _⟩ := h
    rfl
  · obtain ⟨a, d, rfl, ha, vd, q⟩ := h
    have nd := scGoes.nd
    have hu := hu_of hr
    have h8 := hu8 hr
    have h65 := hu65 hr
    have h64 : (A.deeper (envOfC "_law_goes_on" (defScope sGoes) st0.heap.objs.size f cdv)).units + 64 < cLine := Nat.lt_of_succ_lt h65
    refine ⟨_,
      pss_cons (ps_asg (pe_tup (pa_cons pe_dnewT (pa_cons (pe_lst (pa_cons (pe_callTy call_tuple_of (by rfl) M.tuple (by decide +kernel) (pa_cons (pv 0) pa_nil)) pa_nil)) pa_nil))) (pg_tup rfl (pgs_cons (pg_name (i := 1) nd rfl (by first | exact .inl rfl | exact .inr rfl)) (pgs_cons (pg_name (i := 2) nd rfl (by first | exact .inl rfl | exact .inr rfl)) pgs_nil))))
      (pss_cons (ps_for PassesOwn.never rfl (pi_range1 rfl M.range (pa_cons pe_int pa_nil)) (pg_name (i := 3) nd rfl (by first | exact .inl rfl | exact .inr rfl))
        (pss_cons (ps_if (pt_cmpR op_ge (pv 3) (pe_callB call_len_seq (by rfl) M.len PySem.boot_len (pa_cons (pv 2) pa_nil)) (nomark _)) (pss_one ps_break) pss_nil)
        (pss_cons (ps_dput hu (pv 1) (pe_ix ix_list (pv 2) (pv 3) (fun _ _ => rfl)) (pe_call GS hr (by rfl) gS FS.kp bS .nil pass0 (pa_cons (pv 0) (pa_cons (pe_ix ix_list (pv 2) (pv 3) (fun _ _ => rfl)) pa_nil))) rfl)
        (pss_one (ps_for PassesOwn.never rfl (pi_list (pe_dget hu (pv 1) (pe_ix ix_list (pv 2) (pv 3) (fun _ _ => rfl)) (fun _ _ => rfl))) (pg_name (i := 4) nd rfl (by first | exact .inl rfl | exact .inr rfl))
          (pss_one (ps_if (PW.pt (pw_and (pt_cmp (pc_dnotin hu (pv 4) (pv 1)) (by rfl)) (pw_and1 (pt_cmpR (op_notInD h65) (pv 4) (pv 2) (by rfl)))))
            (pss_one (ps_expr (pe_bm PySem.F.plainAttrs_list PySem.F.slot_list_append PySem.F.type_list_append mt_append (pv 2) (pa_cons (pv 4) pa_nil)))) pss_nil)))))))
      (pss_cons (ps_set (i := 5) nd rfl (by first | exact .inl rfl | exact .inr rfl) (pe_callTy (call_dictT h8 rfl) (by rfl) M.dict (by decide +kernel) (pa_cons (pe_lc (own := [("_law_state", 7)]) (g := gName 7) rfl nd (pi_list (pv 2)) (blkOk_by (own := [("_law_state", 7)]) (N := NGo) (sc := defScope sGoes) (by decide +kernel))
          (fun _ _ _ _ _ => pg_name (i := 7) nd rfl (Or.inl rfl)) (fun _ _ _ _ _ => pts_nil) (fun _ _ _ _ _ => pe_tup (pa_cons (pv 7) (pa_cons pe_bl pa_nil)))) pa_nil)))
      (pss_cons (ps_for PassesOwn.never rfl (pi_range1 rfl M.range (pa_cons (pe_op op_add (pe_callB call_len_seq (by rfl) M.len PySem.boot_len (pa_cons (pv 2) pa_nil)) pe_int) pa_nil)) (pg_name (i := 3) nd rfl (by first | exact .inl rfl | exact .inr rfl))
        (pss_cons (ps_set (i := 6) nd rfl (.inr rfl) (pe_lc (own := [("_law_state", 7)]) (g := gName 7) rfl nd (pi_list (pe_callB (cr_sortedT h8) (by rfl) M.sorted (by decide +kernel) (pa_cons (pe_callTy (call_list_dT rfl) (by rfl) M.list (by decide +kernel) (pa_cons (pv 5) pa_nil)) pa_nil))) (blkOk_by (own := [("_law_state", 7)]) (N := NGo) (sc := defScope sGoes) (by decide +kernel))
          (fun _ _ _ _ _ => pg_name (i := 7) nd rfl (Or.inl rfl))
          (fun _ _ _ _ _ => pts_one (pt_cmpR (r := rEqD K) (ta := tLc (iList K (tDGet (tVar 1) (tVar 7))) (gName 4) (tB (tDIn (tVar 4) (tVar 5))) (tVar 4) [4]) (tb := tLst tNil) (op_eqD h64) (by refine pe_lc (own := [("_law_one", 4)]) (g := gName 4) ?_ ?_ ?_ ?_ ?_ ?_ ?_; exact rfl; exact nd; exact (pi_list (pe_dget hu (pv 1) (pv 7) (fun _ _ => rfl))); exact (blkOk_by (own := [("_law_one", 4)]) (N := NGo) (by rfl)); exact (fun _ _ _ _ _ => pg_name (i := 4) nd rfl (Or.inl rfl)); exact (fun _ _ _ _ _ => pts_one (pt_cmp (pc_din hu (pv 4) (pv 5)) (by rfl))); exact (fun _ _ _ _ _ => pv 4)) (pe_lst pa_nil) (nomark _)))
          (fun _ _ _ _ _ => pv 7)))
        (pss_cons (ps_if (pt_cmpR (op_eqD h64) (pv 6) (pe_lst pa_nil) (nomark _)) (pss_one ps_break) pss_nil)
        (pss_one (ps_set (i := 5) nd rfl (by first | exact .inl rfl | exact .inr rfl) (pe_callTy (call_dictT h8 rfl) (by rfl) M.dict (by decide +kernel) (pa_cons (pe_lc (own := [("_law_state", 7)]) (g := gName 7) rfl nd (pi_list (pe_callB (cr_sortedT h8) (by rfl) M.sorted (by decide +kernel) (pa_cons (pe_callTy (call_list_dT rfl) (by rfl) M.list (by decide +kernel) (pa_cons (pv 5) pa_nil)) pa_nil))) (blkOk_by (own := [("_law_state", 7)]) (N := NGo) (sc := defScope sGoes) (by decide +kernel))
          (fun _ _ _ _ _ => pg_name (i := 7) nd rfl (Or.inl rfl)) (fun _ _ _ _ _ => pts_one (pt_cmpR (r := rNotInD K) (op_notInD h65) (pv 7) (pv 6) (by rfl))) (fun _ _ _ _ _ => pe_tup (pa_cons (pv 7) (pa_cons pe_bl pa_nil)))) pa_nil)))))))
      (pss_one (ps_ret (pe_cmp (pc_din hu (pe_callTy call_tuple_of (by rfl) M.tuple (by decide +kernel) (pa_cons (pv 0) pa_nil)) (pv 5)) (by rfl))))))), ?_⟩
    -- _law_rows, _law_queue = {}, [tuple(_law_distances_here)]
    refine fun e ne => ⟨.ref a, rfl, a, d.map V.int, rfl, .inr ⟨SqT.of (same_new ne _ _ ha), (by show 1 ≤ sizeLine; decide), fun u nu => ⟨(by show 2 ≤ sizeLine; decide), fun T nT => ?_⟩⟩⟩
    refine ⟨T, [.ref e, .ref u], rfl, SqT.of upd_same, rfl, .ref e, _, rfl, .ref u, _, rfl, rfl, ?_⟩
    have s0 : Same H (upd (upd (upd H e (.dT [])) u (.lst [.ref a])) T (.tup [.ref e, .ref u])) := same_trans (same_new ne) (same_trans (same_new nu) (same_new nT))
    have G0 : Gq d H (upd (upd (upd H e (.dT [])) u (.lst [.ref a])) T (.tup [.ref e, .ref u])) e u [] [d] (fun _ => 0) [a] :=
      ⟨s0, ne, Same.free (same_new ne) nu, same_new nT _ _ (same_new nu _ _ upd_same), same_new nT _ _ upd_same, .cons (s0 _ _ ha) .nil, List.nodup_cons.mpr ⟨List.not_mem_nil, List.nodup_nil⟩, fun s hs => by
        rw [List.mem_singleton.mp hs]
        exact vd.self, List.mem_singleton_self _, fun s hs => absurd hs List.not_mem_nil⟩
    -- for _law_turn in range(2000)
    refine ⟨2000, rfl, by decide, by decide, ?_⟩
    refine for_range (lo := 0) (n := 2000) (fun i σ H' => ∃ ks rs rows bs y3 y4, σ = [some (.ref a), some (.ref e), some (.ref u), y3, y4, none, none, none] ∧ Gq d H H' e u ks rs rows bs ∧ ks.length = i ∧ ∀ s ∈ ks, ∀ t ∈ succL d s s.length, t ∈ ks ++ rs) ⟨[], [d], _, [a], none, none, rfl, G0, rfl, fun s hs => absurd hs List.not_mem_nil⟩ ?_ ?_
    · rintro i σ H1 hi ⟨ks, rs, rows, bs, y3, y4, rfl, G, hk, cl⟩
      rw [show (0 : Int) + (i : Nat) = ((i : Nat) : Int) from Int.zero_add _]
      have lb := G.tps.len
      refine ⟨_, rfl, .ref u, rfl, u, bs.map V.ref, rfl, .inl (SqL.of G.que), (i : Nat), _, rfl, rfl, _, rfl, ?_⟩
      refine ite_same (fun en => ?_) (fun en => ?_)
      · -- all are through
        have hrs : rs = [] := by
          have h1 := of_decide_eq_true en
          rw [List.length_map, lb, List.length_append] at h1
          exact List.eq_nil_of_length_eq_zero (by omega)
        subst hrs
        rw [List.append_nil] at cl
        have few := G.few vd
        have hst := G.start
        have hvs := G.vs
        have htp := G.tps
        rw [List.append_nil] at few hst hvs htp
        have hnd := G.nd
        rw [List.append_nil] at hnd
        have sl : ∀ s ∈ ks, s.length = d.length := fun s hs => (hvs s hs).len
        -- _law_alive = dict(..)
        show tSeq _ _ _ _ H1
        refine in_seqA (in_cb1 (in_lcV rfl ?_))
        refine lc_prsL (keep := fun _ => true) (n := 7) (fun _ => rfl) (fun _ => rfl) G.que htp few (fun s q H R _ _ _ r => r H (same_refl H)) fun D ts zs H2 s2 nD hD tp hz1 hz2 => ?_
        rw [filter_all fun _ _ => rfl] at hz1 hz2
        refine ⟨D, ts, zs, rfl, .inl (.inl hD), tp, by rw [hz1]; exact nodup_ik hnd, fun p np => ?_⟩
        rw [dS_of hz1 hz2]
        have G3 := (G.same s2).same (same_new (o := aD ks) np)
        have hp3 : (upd H2 p (aD ks)) p = some (aD ks) := upd_same
        have A3 : Aq d ks ks := ⟨hnd, fun _ h => h, fun _ h _ => h⟩
        show tSeq _ _ _ _ (upd H2 p (aD ks))
        generalize upd H2 p (aD ks) = H3 at G3 hp3 ⊢
        have lk : ((((bs.map V.ref).length : Nat) : Int) + 1).toNat = ks.length + 1 := by
          rw [List.length_map, lb, List.append_nil]
          omega
        -- for _law_turn in range(len(_law_queue) + 1)
        refine ⟨.ref u, rfl, u, bs.map V.ref, rfl, .inl (SqL.of G3.que), _, 1, rfl, rfl, _, rfl, ?_, ?_, ?_⟩
        · rw [List.length_map, lb, List.append_nil]
          omega
        · rw [List.length_map, lb, List.append_nil]
          omega
        rw [lk]
        refine for_range (lo := 0) (n := ks.length + 1) (fun j σ H' => ∃ as p y3 y4 y6 y7, σ = [some (.ref a), some (.ref e), some (.ref u), y3, y4, some (.ref p), y6, y7] ∧ Gq d H H' e u ks [] rows bs ∧ H' p = some (aD as) ∧ Aq d ks as ∧ as.length + j ≤ ks.length) ⟨ks, p, _, _, _, _, rfl, G3, hp3, A3, Nat.le_refl _⟩ ?_ ?_
        · rintro j σ H4 hj ⟨as, p, y3, y4, y6, y7, rfl, G4, hp4, A4, lj⟩
          have hne : ∀ s ∈ as, s ≠ [] := fun s hs z => by
            have h1 := sl s (A4.sub s hs)
            have h2 := vd.pos
            rw [z] at h1
            rw [← h1] at h2
            exact absurd h2 (by decide)
          have fewA : as.length ≤ 1296 := by omega
          -- _law_gone
          refine in_seqA (in_lcS rfl hp4 hne fun l bs1 rs1 H5 s5 hl5 tp5 pr5 => ?_)
          have G5 := G4.same s5
          have hp5 := s5 _ _ hp4
          refine lc_fltL (keep := lostL d as) (n := 7) (fun _ => rfl) (fun _ => rfl) hl5 tp5 (by rw [pr5.length_eq]; exact fewA) ?_ ?_
          · intro s q H6 R hs hq s6 r
            have G6 := G5.same s6
            have hsk := A4.sub s (pr5.mem_iff.mp hs)
            obtain ⟨cs, hc, tc⟩ := (G6.row s hsk).1
            have hp6 := s6 _ _ hp5
            refine in_test (in_op (in_lcD rfl rfl (G6.get hsk hq) (lc_fltL (keep := fun t => decide (t ∈ as)) (n := 4) (fun _ => rfl) (fun _ => rfl) hc tc ?_ ?_ ?_)))
            · have h1 : (succL d s s.length).length ≤ (List.range s.length).length := List.length_filterMap_le _ _
              rw [List.length_range] at h1
              have := sl s hsk
              have := vd.few
              omega
            · intro t b H7 R2 ht hb s7 r2
              refine ⟨_, rfl, _, rfl, p, _, rfl, .inr ⟨_, ik t, b, .inl (s7 _ _ hp6), rfl, by rw [ik_kV]; exact hb, rfl⟩, _, rfl, ?_⟩
              rw [aD_is]
              exact r2 H7 (same_refl H7)
            · intro D2 cs2 H7 s7 nD2 hD2 tc2
              refine ⟨Nat.zero_le _, fun e2 ne2 => ?_⟩
              have s8 : Same H7 (upd H7 e2 (.lst [])) := same_new ne2
              refine ⟨_, .list (([] : List (List Int)).map iD), dp_tps (SqL.of (s8 _ _ hD2)) (tps_same s8 tc2), dp_tps (bs := []) (ss := []) (SqL.of upd_same) .nil, shaped_iDs _, shaped_iDs [], _, rfl, ?_⟩
              rw [show PyData.eqv (.list (((succL d s s.length).filter fun t => decide (t ∈ as)).map iD)) (.list (([] : List (List Int)).map iD)) = (((succL d s s.length).filter fun t => decide (t ∈ as)).map iD).isEmpty from eqv_nil _, isEmpty_map]
              exact r _ (same_trans s7 s8)
          · intro D cs H6 s6 nD hD6 tc6
            have G6 := G5.same s6
            have hp6 := s6 _ _ hp5
            have few6 : ((rs1.filter (lostL d as))).length ≤ 1296 := Nat.le_trans (List.length_filter_le _ _) (by rw [pr5.length_eq]; exact fewA)
            -- if _law_gone == []
            refine ⟨_, rfl, Nat.zero_le _, fun e2 ne2 => ?_⟩
            have s7 : Same H6 (upd H6 e2 (.lst [])) := same_new ne2
            refine ⟨_, .list (([] : List (List Int)).map iD), dp_tps (SqL.of (s7 _ _ hD6)) (tps_same s7 tc6), dp_tps (bs := []) (ss := []) (SqL.of upd_same) .nil, shaped_iDs _, shaped_iDs [], _, rfl, ?_⟩
            rw [show PyData.eqv (.list ((rs1.filter (lostL d as)).map iD)) (.list (([] : List (List Int)).map iD)) = ((rs1.filter (lostL d as)).map iD).isEmpty from eqv_nil _, isEmpty_map]
            have G7 := G6.same s7
            have hp7 := s7 _ _ hp6
            have hD7 := s7 _ _ hD6
            have tc7 := tps_same s7 tc6
            generalize upd H6 e2 (.lst []) = H7 at s7 G7 hp7 hD7 tc7 ⊢
            refine iteB (fun em => ?_) (fun em => ?_)
            · -- return tuple(_law_distances_here) in _law_alive
              refine ⟨.ref a, rfl, a, d.map V.int, rfl, .inr ⟨SqT.of (G7.sm _ _ ha), .ref p, rfl, p, _, rfl, .inr ⟨_, ik d, a, .inl hp7, rfl, by rw [ik_kV]; exact G7.sm _ _ ha, rfl⟩, ?_⟩⟩
              rw [aD_is]
              exact q H7 _ G7.sm (A4.done sl hst pr5 (List.isEmpty_iff.mp em))
            · have hgn : rs1.filter (lostL d as) ≠ [] := fun z => by
                rw [z] at em
                cases em
              refine in_next ?_
              refine in_asg (in_cb1 (in_lcS rfl hp7 hne ?_))
              intro l2 bs2 rs2 H8 s8 hl8 tp8 pr8
              have G8 := G7.same s8
              have hD8 := s8 _ _ hD7
              have tc8 := tps_same s8 tc7
              obtain ⟨A9, lt9⟩ := A4.next sl cl pr5 pr8 hgn
              refine lc_prsL (keep := fun s => !decide (s ∈ rs1.filter (lostL d as))) (n := 7) (fun _ => rfl) (fun _ => rfl) hl8 tp8 (by rw [pr8.length_eq]; exact fewA) ?_ ?_
              · intro s q H9 R hs hq s9 r
                refine ⟨_, rfl, _, rfl, iD s, (rs1.filter (lostL d as)).map iD, dp_tup hq, dp_tps (SqL.of (s9 _ _ hD8)) (tps_same s9 tc8), shaped_iD _, shaped_iDs _, _, rfl, ?_⟩
                rw [any_iD]
                exact r H9 (same_refl H9)
              · intro D2 ts zs H9 s9 nD2 hD2 tp hz1 hz2
                refine ⟨D2, ts, zs, rfl, .inl (.inl hD2), tp, by rw [hz1]; exact nodup_ik A9.nd, fun p2 np2 => ?_⟩
                rw [dS_of hz1 hz2]
                exact ⟨_, p2, _, _, _, _, rfl, (G8.same s9).same (same_new (o := aD _) np2), upd_same, A9, by omega⟩
        · rintro σ H4 ⟨as, p, y3, y4, y6, y7, rfl, G4, hp4, A4, lj⟩
          exact absurd lj (by omega)
      · -- the next state's row
        rw [List.length_map, lb, List.length_append] at en
        cases rs with
        | nil => exact absurd (decide_eq_true (by rw [List.length_nil]; omega)) en
        | cons s rs' =>
          have few := G.few vd
          obtain ⟨b, hbi, hb⟩ := G.tps.get2 (i := i) (s := s) (by rw [← hk, List.getElem?_append_right (Nat.le_refl _), Nat.sub_self]; rfl)
          have vs : Vs d s := G.vs s (List.mem_append_right _ List.mem_cons_self)
          have hat : atI (bs.map V.ref) ((i : Nat) : Int) = some (.ref b) := atI_nat (by rw [List.getElem?_map, hbi]; rfl)
          refine ⟨_, rfl, _, rfl, _, rfl, u, bs.map V.ref, (i : Nat), .ref b, rfl, rfl, SqL.of G.que, hat, a, b, d, s, rfl, G.sm _ _ ha, hb, vs.len, vd.few, fun H2 p cs s2 np hp tc => ?_⟩
          have G2 := G.same s2
          have hb2 := s2 _ _ hb
          have hpu : p ≠ u := (ne_of_none G.que np).symm
          obtain ⟨rows', e1, e2, G3⟩ := G2.key ⟨cs, hp, tc⟩ hpu
          refine ⟨_, rfl, _, rfl, _, rfl, u, bs.map V.ref, (i : Nat), .ref b, rfl, rfl, SqL.of G2.que, hat, e, _, rfl, DPut.t (k := ik s) (kvs := dS (mkR ks rows)) G2.dict (by rw [ik_kV]; exact hb2) (by
            rw [dS_len, mkR_len]
            rw [List.length_append] at few
            exact small_len (by omega)), ?_⟩
          rw [e1]
          have hb3 : (upd H2 e (.dT (dS (mkR (ks ++ [s]) rows')))) b = some (.tup (s.map V.int)) := tupK_upd G2.dict (fun _ z => nomatch z) _ _ hb2
          generalize upd H2 e (.dT (dS (mkR (ks ++ [s]) rows'))) = H3 at G3 hb3 ⊢
          have hsm : s ∈ ks ++ [s] := List.mem_append_right _ (List.mem_singleton_self _)
          obtain ⟨⟨cs', hc3, tc3⟩, hru⟩ := G3.row s hsm
          -- for _law_one in _law_rows[..]
          refine ⟨_, rfl, _, rfl, _, rfl, u, bs.map V.ref, (i : Nat), .ref b, rfl, rfl, SqL.of G3.que, hat, e, _, rfl, G3.get hsm hb3, rows' s, rfl, ⟨_, SqL.of hc3⟩, ?_⟩
          refine for_list (xs := cs'.map V.ref) (fun j σ H' => ∃ rs2 bs2 y4, σ = [some (.ref a), some (.ref e), some (.ref u), some (.int (i : Nat)), y4, none, none, none] ∧ Gq d H H' e u (ks ++ [s]) rs2 rows' bs2 ∧ H' (rows' s) = some (.lst (cs'.map V.ref)) ∧ Tps H' cs' (succL d s s.length) ∧ (∀ t ∈ rs', t ∈ rs2) ∧ ∀ t ∈ (succL d s s.length).take j, t ∈ (ks ++ [s]) ++ rs2)
            ⟨rs', bs, _, rfl, G3, hc3, tc3, fun _ h => h, fun t ht => absurd ht List.not_mem_nil⟩ (fun j σ H' _ ⟨_, _, _, _, _, h, _⟩ => SqL.of h) ?_ ?_
          · rintro j x σ H4 hx ⟨rs2, bs2, y4, rfl, G4, hc4, tc4, k1, k2⟩
            obtain ⟨q2, hq, rfl⟩ : ∃ q, cs'[j]? = some q ∧ V.ref q = x := by
              rw [List.getElem?_map] at hx
              cases e5 : cs'[j]? with
              | none =>
                rw [e5] at hx
                cases hx
              | some q =>
                rw [e5] at hx
                exact ⟨q, rfl, Option.some.inj hx⟩
            obtain ⟨t, hts, ht⟩ := tc4.get hq
            obtain ⟨o, ho, eo⟩ := G4.has ht
            have htake := take_get hts
            have stay2 : t ∈ (ks ++ [s]) ++ rs2 → ∀ z ∈ (succL d s s.length).take (j + 1), z ∈ (ks ++ [s]) ++ rs2 := fun hin z hz => by
              rw [htake] at hz
              rcases List.mem_append.mp hz with w | w
              · exact k2 z w
              · rw [List.mem_singleton.mp w]
                exact hin
            refine ⟨_, rfl, _, rfl, e, o, rfl, ho, _, rfl, ?_⟩
            rw [eo]
            refine iteNB (fun e5 => ?_) (fun e5 => ?_)
            · refine ⟨_, rfl, _, rfl, iD t, ((ks ++ [s]) ++ rs2).map iD, dp_tup ht, dp_tps (SqL.of G4.que) G4.tps, shaped_iD _, shaped_iDs _, _, rfl, ?_⟩
              rw [any_iD]
              refine iteNB (fun e6 => ?_) (fun e6 => ?_)
              · have hnt : t ∉ (ks ++ [s]) ++ rs2 := of_decide_eq_false e6
                obtain ⟨ix, hix, hsrv⟩ := mem_succL.mp (List.mem_of_getElem? hts)
                have G5 := G4.app ht (vs.step vd hsrv) hnt
                have few4 := G4.few vd
                refine ⟨_, rfl, .inl ⟨rfl, _, SqL.of G4.que⟩, _, rfl, u, _, _, rfl, rfl, G4.que, ?_, ?_⟩
                · rw [List.length_map, G4.tps.len]
                  exact small_len (by omega)
                rw [List.map_append] at G5
                refine ⟨rs2 ++ [t], bs2 ++ [q2], _, rfl, G5, ?_, ?_, fun z hz => List.mem_append_left _ (k1 z hz), fun z hz => ?_⟩
                · rw [upd_ne hru]
                  exact hc4
                · exact (tupK_upd G4.que (fun _ z => nomatch z) : TupK _ _).tps tc4
                · rw [← List.append_assoc]
                  rw [htake] at hz
                  rcases List.mem_append.mp hz with w | w
                  · exact List.mem_append_left _ (k2 z w)
                  · exact List.mem_append_right _ w
              · exact ⟨rs2, bs2, _, rfl, G4, hc4, tc4, k1, stay2 (of_decide_eq_true e6)⟩
            · exact iteF ⟨rs2, bs2, _, rfl, G4, hc4, tc4, k1, stay2 (List.mem_append_left _ (of_decide_eq_true e5))⟩
          · rintro σ H4 ⟨rs2, bs2, y4, rfl, G4, hc4, tc4, k1, k2⟩
            rw [List.length_map, tc4.len, List.take_length] at k2
            refine ⟨ks ++ [s], rs2, rows', bs2, _, _, rfl, G4, by rw [List.length_append, hk]; rfl, fun r hr t ht => ?_⟩
            rcases List.mem_append.mp hr with w | w
            · rcases List.mem_append.mp (cl r w t ht) with v | v
              · exact List.mem_append_left _ (List.mem_append_left _ v)
              · rcases List.mem_cons.mp v with v | v
                · rw [v]
                  exact List.mem_append_left _ hsm
                · exact List.mem_append_right _ (k1 t v)
            · rw [List.mem_singleton.mp w] at ht
              exact k2 t ht
    · rintro σ H1 ⟨ks, rs, rows, bs, y3, y4, rfl, G, hk, cl⟩
      have few := G.few vd
      rw [List.length_append] at few
      exact absurd few (by omega)
end
end K64
/-! law -/
namespace K64
open PySem PySem.Spec PyProof.Rows L2 GxR
abbrev NLw : List Str := ["_law_script", "_law_row", "_law_turn", "_law_distances_here", "_law_found", "_law_one"]
theorem DS.self {K : PySem.W.Frag} {P1 P2 rw sc : Addr} {ns : List Int} {H0 H : Hp} (D : DS K P1 P2 rw sc ns H0 H) : DS K P1 P2 rw sc ns H H := ⟨fun _ _ _ e _ => e, fun _ h => h, D.tabs, D.row, D.scr⟩
def cap5 (x : Int) : Int := if 5 < x then 5 else x
theorem cap5_in {x : Int} (h : 1 ≤ x ∧ x ≤ 6) : 1 ≤ cap5 x ∧ cap5 x ≤ 6 := by
  unfold cap5
  split <;> omega
def spLaw (K : PySem.W.Frag) (P1 P2 : Addr) : Sp := fun vs H Q _ => ∃ (sc : Addr) (ns : List Int), vs = [.ref sc] ∧ SqL K H sc (ns.map V.int) ∧ Tabs2 P1 P2 H ∧ ∀ H', Q (.bl true) H'
section
variable {P : Program} {w : World} {K : PySem.W.Frag} {mg : Str → Option Value} {base : Heap}
theorem ok_law {f fD fR fG fI P1 P2 : Addr} {fd fdD fdR fdG fdI : FuncData} (F : Fun K "law" "law" sLaw f fd) (M : Nm mg)
    (GD : FnOk P w K mg base CX0 3 fD fdD ["_law_row", "_law_most"] (spDist K P1 P2)) (FD : Fun K "_law_distances" "_law_distances" sDist fD fdD) (bD : L2.Binds K fdD ["_law_row", "_law_most"] []) (gD : mg "_law_distances" = some (.ref fD))
    (GR : FnOk P w K mg base CX0 3 fR fdR ["distances"] (spRing P1 P2)) (FR : Fun K "ring_for" "ring_for" sRing fR fdR) (bR : L2.Binds K fdR ["distances"] []) (gR : mg "ring_for" = some (.ref fR))
    (GG : FnOk P w K mg base CX0 2 fG fdG ["_law_distances_here"] spGoes) (FG : Fun K "_law_goes_on" "_law_goes_on" sGoes fG fdG) (bG : L2.Binds K fdG ["_law_distances_here"] []) (gG : mg "_law_goes_on" = some (.ref fG))
    (GI : FnOk P w K mg base CX0 1 fI fdI ["_law_distances_here", "_law_value"] spIsRing) (FI : Fun K "_law_is_ring" "_law_is_ring" sIsRing fI fdI) (bI : L2.Binds K fdI ["_law_distances_here", "_law_value"] []) (gI : mg "_law_is_ring" = some (.ref fI)) :
    FnOk P w K mg base CX0 4 f fd ["_law_script"] (spLaw K P1 P2) := by
  have GG3 : FnOk P w K mg base CX0 3 fG fdG ["_law_distances_here"] spGoes := GG.mono (by omega)
  have GI3 : FnOk P w K mg base CX0 3 fI fdI ["_law_distances_here", "_law_value"] spIsRing := GI.mono (by omega)
  refine F.ok scLaw (fun vs H Q E h => ?_) (fun cdv A outer st0 H vs Q E hr h => ?_)
  · obtain ⟨sc, ns, rfl, _⟩ := h
    rfl
  · obtain ⟨sc, ns, rfl, hs, hT, q⟩ := h
    have nd := scLaw.nd
    refine ⟨_,
      pss_cons (ps_set (i := 1) nd rfl (.inl rfl) (pe_lst (pa_cons (pv 0) (pa_cons pe_int (pa_cons pe_int (pa_cons pe_int pa_nil))))))
      (pss_cons (ps_for PassesOwn.never rfl (pi_range1 rfl M.range (pa_cons pe_int pa_nil)) (pg_name (i := 2) nd rfl (.inl rfl))
        (pss_cons (ps_set (i := 3) nd rfl (by first | exact .inl rfl | exact .inr rfl) (pe_call GD hr (by rfl) gD FD.kp bD .nil pass0 (pa_cons (pv 1) (pa_cons pe_int pa_nil))))
        (pss_cons (ps_if (pt_cmpR op_eq (pe_callB call_len_seq (by rfl) M.len PySem.boot_len (pa_cons (pv 3) pa_nil)) pe_int (nomark _))
          (pss_one (ps_set (i := 3) nd rfl (by first | exact .inl rfl | exact .inr rfl) (pe_callTy call_tuple_of (by rfl) M.tuple (by decide +kernel) (pa_cons (pe_lc (own := [("_law_one", 5)]) (g := gName 5) rfl nd (pi_tup (pv 3)) (blkOk_by (own := [("_law_one", 5)]) (N := NLw) (sc := defScope sLaw) (by decide +kernel))
            (fun _ _ _ _ _ => pg_name (i := 5) nd rfl (Or.inl rfl)) (fun _ _ _ _ _ => pts_nil) (fun _ _ _ _ _ => pe_callB (call_min2 rfl) (by rfl) M.min (by decide +kernel) (pa_cons (pv 5) (pa_cons pe_int pa_nil)))) pa_nil)))) pss_nil)
        (pss_cons (ps_set (i := 4) nd rfl (.inl rfl) (pe_call GR hr (by rfl) gR FR.kp bR .nil pass0 (pa_cons (pv 3) pa_nil)))
        (pss_cons (ps_if (pt_cmpR op_ne (pe_cmpR op_notN (pv 4) pe_non (nomark _)) (pe_call GG3 hr (by rfl) gG FG.kp bG .nil pass0 (pa_cons (pv 3) pa_nil)) (nomark _)) (pss_one (ps_ret pe_bl)) pss_nil)
        (pss_one (ps_if (PW.pt (pw_and (pt_cmpR op_notN (pv 4) pe_non (nomark _)) (pw_and1 (pt_not (pt_val (pe_call GI3 hr (by rfl) gI FI.kp bI .nil pass0 (pa_cons (pv 3) (pa_cons (pv 4) pa_nil)))))))) (pss_one (ps_ret pe_bl)) pss_nil)))))))
      (pss_one (ps_ret pe_bl))), ?_⟩
    -- _law_row
    refine ⟨_, rfl, (by show 4 ≤ sizeLine; decide), fun rw nrw => ?_⟩
    have D0 : DS K P1 P2 rw sc ns (upd H rw (.lst [.ref sc, .int 0, .int 3264, .int 0])) (upd H rw (.lst [.ref sc, .int 0, .int 3264, .int 0])) :=
      ⟨fun _ _ _ e _ => e, fun _ h => h, hT.new nrw, ⟨0, 3264, 0, by decide, upd_same⟩, (Sc.make hs nrw).kx (.of (kept_new nrw))⟩
    refine ⟨2, rfl, by decide, by decide, ?_⟩
    refine for_range (lo := 0) (n := 2) (fun i σ H' => ∃ y2 y3 y4 y5, σ = [some (.ref sc), some (.ref rw), y2, y3, y4, y5] ∧ DS K P1 P2 rw sc ns H' H') ⟨_, _, _, _, rfl, D0⟩ ?_ ?_
    · rintro i σ H1 hi ⟨y2, y3, y4, y5, rfl, D1⟩
      -- the distances
      refine ⟨_, rfl, rw, sc, ns, rfl, D1, fun t H2 d D2 ht vd => ?_⟩
      refine ⟨.ref t, rfl, t, d.map V.int, rfl, .inr (SqT.of ht), rfl, _, rfl, ?_⟩
      refine ite_same (fun h4 => ?_) (fun h4 => ?_)
      -- four of them: none above 5
      refine ⟨_, rfl, t, rfl, ⟨_, SqT.of ht⟩, fun e ne => ?_⟩
      refine lc_tup (xs := d.map V.int) (fun i H' => Same H2 H' ∧ H' e = some (.lst (((d.take i).map (cap5)).map V.int))) ⟨same_new ne, upd_same⟩ (fun i H' _ h => SqT.of (h.1 _ _ ht)) ?A ?B
      case A =>
        intro i v H' hv ⟨sm, he⟩
        obtain ⟨c, hc, rfl⟩ := map_at hv
        refine ⟨rfl, _, rfl, c, 5, rfl, _, he, ?_, same_own sm ne, ?_⟩
        · rw [List.length_map, List.length_map, List.length_take]
          have := vd.few
          exact small_len (by omega)
        · rw [upd_same, take_get hc, List.map_append, List.map_append]
          rfl
      intro H' ⟨sm, he⟩
      rw [List.length_map, List.take_length] at he
      refine ⟨e, _, rfl, .inl ⟨SqL.of he, fun t' nt => ?_⟩⟩
      have D3 := (D2.same sm).same (same_new (o := .tup ((d.map cap5).map V.int)) nt)
      have ht3 : (upd H' t' (.tup ((d.map cap5).map V.int))) t' = some (.tup ((d.map cap5).map V.int)) := upd_same
      have vd3 : Vd (d.map cap5) := ⟨by rw [List.length_map]; exact vd.pos, by rw [List.length_map]; exact vd.few, fun c hc => by
        obtain ⟨c', hc', rfl⟩ := List.mem_map.mp hc
        exact cap5_in (vd.rng c' hc')⟩
      clear ht vd D2 sm he ne nt
      show tSeq _ _ _ _ (upd H' t' (.tup ((d.map cap5).map V.int)))
      generalize upd H' t' (.tup ((d.map cap5).map V.int)) = H3 at D3 ht3 ⊢
      generalize d.map cap5 = d3 at ht3 vd3 ⊢
      clear h4
      have D2 := D3
      have ht := ht3
      have vd := vd3
      clear D3 ht3 vd3
      all_goals
        refine ⟨_, rfl, _, _, rfl, ht, vd, D2.tabs, fun ng H4 k4 T4 => ?_, fun g H4 r R k4 T4 ring hlen hR => ?_⟩
        · have D4 := D2.kept k4 T4
          refine ⟨_, rfl, rfl, _, rfl, _, _, rfl, k4.tup ht, vd, fun H5 b s5 hb => ⟨rfl, _, rfl, ?_⟩⟩
          have eb : b = false := by
            cases b with
            | false => rfl
            | true => exact absurd (hb.mp rfl) ng
          rw [eb]
          refine iteF ⟨_, rfl, rfl, _, rfl, iteF (iteF ?_)⟩
          exact ⟨_, _, _, _, rfl, (D4.same s5).self⟩
        · have D4 := D2.kept k4 T4
          refine ⟨_, rfl, rfl, _, rfl, _, _, rfl, k4.tup ht, vd, fun H5 b s5 hb => ⟨rfl, _, rfl, ?_⟩⟩
          rw [hb.mpr g]
          refine iteF ⟨_, rfl, rfl, _, rfl, iteNT (fun z => nomatch z) ?_⟩
          refine ⟨_, rfl, _, rfl, _, r, _, R, rfl, s5 _ _ (k4.tup ht), s5 _ _ hR, vd, ring, hlen, fun H6 s6 => ⟨_, rfl, iteF ?_⟩⟩
          exact ⟨_, _, _, _, rfl, ((D4.same s5).same s6).self⟩
    · rintro σ H1 ⟨y2, y3, y4, y5, rfl, D1⟩
      exact q H1
end
end K64
/-! The head: what the top leaves, by names; all defs keep their promises. -/
namespace K64
open PySem PySem.Spec PyProof.Rows L2 GxR
abbrev dIsIn : He.DefD := ⟨("is_in", none), "is_in", "is_in", defArgs sIsIn, defBody sIsIn, defScope sIsIn, [], []⟩
abbrev dNeed : He.DefD := ⟨("need_distances", none), "need_distances", "need_distances", defArgs sNeed, defBody sNeed, defScope sNeed, [], []⟩
abbrev dServed : He.DefD := ⟨("served", none), "served", "served", defArgs sServed, defBody sServed, defScope sServed, [], []⟩
abbrev dAlive : He.DefD := ⟨("alive_states", none), "alive_states", "alive_states", defArgs sAlive, defBody sAlive, defScope sAlive, [], []⟩
abbrev dRing : He.DefD := ⟨("ring_for", none), "ring_for", "ring_for", defArgs sRing, defBody sRing, defScope sRing, [], []⟩
abbrev dTaken : He.DefD := ⟨("_law_taken", none), "_law_taken", "_law_taken", defArgs sTaken, defBody sTaken, defScope sTaken, [], []⟩
abbrev dPick : He.DefD := ⟨("_law_pick", none), "_law_pick", "_law_pick", defArgs sPick, defBody sPick, defScope sPick, [], []⟩
abbrev dDist : He.DefD := ⟨("_law_distances", none), "_law_distances", "_law_distances", defArgs sDist, defBody sDist, defScope sDist, [], []⟩
abbrev dIsRing : He.DefD := ⟨("_law_is_ring", none), "_law_is_ring", "_law_is_ring", defArgs sIsRing, defBody sIsRing, defScope sIsRing, [], []⟩
abbrev dSteps : He.DefD := ⟨("_law_steps", none), "_law_steps", "_law_steps", defArgs sSteps, defBody sSteps, defScope sSteps, [], []⟩
abbrev dGoes : He.DefD := ⟨("_law_goes_on", none), "_law_goes_on", "_law_goes_on", defArgs sGoes, defBody sGoes, defScope sGoes, [], []⟩
abbrev dLaw : He.DefD := ⟨("law", none), "law", "law", defArgs sLaw, defBody sLaw, defScope sLaw, [], []⟩
def fn : List He.DefD := [dIsIn, dNeed, dServed, dAlive, dRing, dTaken, dPick, dDist, dIsRing, dSteps, dGoes, dLaw]
def fa : List He.Fa := [.glo "is_in", .glo "need_distances", .glo "served", .glo "alive_states", .glo "ring_for", .glo "_law_taken", .glo "_law_pick", .glo "_law_distances", .glo "_law_is_ring", .glo "_law_steps", .glo "_law_goes_on", .glo "law",
  .free "isinstance", .free "tuple", .free "int", .free "bool", .free "len", .free "all", .free "any", .free "range", .free "dict", .free "enumerate", .free "list", .free "sorted", .free "max", .free "min", .int "MOST_DISTANCES" 4, .int "MOST_DISTANCE" 8]
def tf : List He.Defn := [("need_distances", none), ("alive_states", none)]
abbrev R64 : PySem.W.OpenRow := PySem.W.OpenLaw.row PySem.Challenge.rw_eventcore_k64_whole_rings
def names : List Str := ["EventError", "BadDistances", "is_in", "MOST_DISTANCES", "MOST_DISTANCE", "need_distances", "served", "alive_states", "ring_for", "_law_taken", "_law_pick", "_law_distances", "_law_is_ring", "_law_steps", "_law_goes_on"]
abbrev hk : PySem.W.Hook := He.hookX 4 fa fn [] tf (fun _ => true)
def ob (s : PySem.W.SharedT) : He.AlX := He.obsX 4 fa fn [] tf (fun _ => true) (HandSHeadRun.getT s)
theorem ob_eq (s : PySem.W.SharedT) : ob s = hk.obs s.abs := He.obsX_eq (HandSHeadRun.getT_eq s)
theorem run (w : World) : HandSHeadRun.RunEq R64 (PySem.W.view R64.prog [19]) hk ob 3000 names w := by
  intro os
  kernel_rfl
end K64
/-! The facts by names, the law at every script. -/
namespace K64
open PySem PySem.Spec PyProof.Rows L2 GxR
theorem code_at {K : PySem.W.Frag} {x qual : Str} {pa : Arguments} {bd : List Stmt} {sc : Scope} {dvs : List V} {kws : List (Str × V)} {p : Str × Option Str} {fd : FuncData} (F : FunD K x qual pa bd sc dvs kws (He.fAd K p) fd) : fd.code = .ref (He.codeOf K p) := by
  obtain ⟨oc, od, dV, kV, doc, pm, an, cdv, ct, osl, rfl, lk, hcd, _⟩ := F.ex
  obtain ⟨c, rfl⟩ := He.codeIn_ref hcd
  rw [He.codeOf_eq lk rfl]
theorem tab_of {base : Heap} {mg : Str → Option Value} {c P : Addr} (t : LamX.TabB base mg c P) : GxR.TabB base mg c P := ⟨t.code, t.bm, t.gP⟩
theorem facts {w : World} {K : PySem.W.Frag} {h : Heap} {mg : Str → Option Value} {f : Addr} (X : K.In h) (G : h.Ns mainGlobals mg) (hfa : mg ("law" : Str) = some (.ref f)) (c : He.SaysX fa fn [] tf (fun _ => true) w h K) :
    LamX.LawAtS PySem.Challenge.rw_eventcore_k64_whole_rings w K CX0 4 63 "_law_script" mg f h := by
  have c' : He.SaysD fa fn K := c.t.d
  obtain ⟨fdI, FI⟩ := c'.def_ 0 (d := dIsIn) rfl
  obtain ⟨fdN, FN⟩ := c'.def_ 1 (d := dNeed) rfl
  obtain ⟨fdS, FS⟩ := c'.def_ 2 (d := dServed) rfl
  obtain ⟨fdA, FA⟩ := c'.def_ 3 (d := dAlive) rfl
  obtain ⟨fdR, FR⟩ := c'.def_ 4 (d := dRing) rfl
  obtain ⟨fdT, FT⟩ := c'.def_ 5 (d := dTaken) rfl
  obtain ⟨fdP, FP⟩ := c'.def_ 6 (d := dPick) rfl
  obtain ⟨fdD, FD⟩ := c'.def_ 7 (d := dDist) rfl
  obtain ⟨fdQ, FQ⟩ := c'.def_ 8 (d := dIsRing) rfl
  obtain ⟨fdV, FV⟩ := c'.def_ 9 (d := dSteps) rfl
  obtain ⟨fdG, FG⟩ := c'.def_ 10 (d := dGoes) rfl
  obtain ⟨fd, F⟩ := c'.def_ 11 (d := dLaw) rfl
  have e := hfa.symm.trans (He.glo_ok X G (c'.fact 11 (f := .glo "law") rfl))
  cases e
  have M : Nm mg := ⟨He.free_ok X G (c'.fact 12 (f := .free "isinstance") rfl), He.free_ok X G (c'.fact 13 (f := .free "tuple") rfl), He.free_ok X G (c'.fact 14 (f := .free "int") rfl), He.free_ok X G (c'.fact 15 (f := .free "bool") rfl),
    He.free_ok X G (c'.fact 16 (f := .free "len") rfl), He.free_ok X G (c'.fact 17 (f := .free "all") rfl), He.free_ok X G (c'.fact 18 (f := .free "any") rfl), He.free_ok X G (c'.fact 19 (f := .free "range") rfl), He.free_ok X G (c'.fact 20 (f := .free "dict") rfl),
    He.free_ok X G (c'.fact 21 (f := .free "enumerate") rfl), He.free_ok X G (c'.fact 22 (f := .free "list") rfl), He.free_ok X G (c'.fact 23 (f := .free "sorted") rfl), He.free_ok X G (c'.fact 24 (f := .free "max") rfl), He.free_ok X G (c'.fact 25 (f := .free "min") rfl),
    He.int_ok X G (c'.fact 26 (f := .int "MOST_DISTANCES" 4) rfl), He.int_ok X G (c'.fact 27 (f := .int "MOST_DISTANCE" 8) rfl)⟩
  have gI := He.glo_ok X G (c'.fact 0 (f := .glo "is_in") rfl)
  have gN := He.glo_ok X G (c'.fact 1 (f := .glo "need_distances") rfl)
  have gS := He.glo_ok X G (c'.fact 2 (f := .glo "served") rfl)
  have gA := He.glo_ok X G (c'.fact 3 (f := .glo "alive_states") rfl)
  have gR := He.glo_ok X G (c'.fact 4 (f := .glo "ring_for") rfl)
  have gT := He.glo_ok X G (c'.fact 5 (f := .glo "_law_taken") rfl)
  have gP := He.glo_ok X G (c'.fact 6 (f := .glo "_law_pick") rfl)
  have gD := He.glo_ok X G (c'.fact 7 (f := .glo "_law_distances") rfl)
  have gQ := He.glo_ok X G (c'.fact 8 (f := .glo "_law_is_ring") rfl)
  have gV := He.glo_ok X G (c'.fact 9 (f := .glo "_law_steps") rfl)
  have gG := He.glo_ok X G (c'.fact 10 (f := .glo "_law_goes_on") rfl)
  have bI : L2.Binds K fdI ["value", "least", "most"] [] := FI.bindsN fun _ _ _ _ _ _ us hl => match us, hl with | [_, _, _], _ => rfl
  have bN : L2.Binds K fdN ["distances"] [] := FN.bindsN fun _ _ _ _ _ _ us hl => match us, hl with | [_], _ => rfl
  have bS : L2.Binds K fdS ["distances", "state", "index"] [] := FS.bindsN fun _ _ _ _ _ _ us hl => match us, hl with | [_, _, _], _ => rfl
  have bA : L2.Binds K fdA ["distances"] [] := FA.bindsN fun _ _ _ _ _ _ us hl => match us, hl with | [_], _ => rfl
  have bR : L2.Binds K fdR ["distances"] [] := FR.bindsN fun _ _ _ _ _ _ us hl => match us, hl with | [_], _ => rfl
  have bT : L2.Binds K fdT ["_law_row", "_law_many"] [] := FT.bindsN fun _ _ _ _ _ _ us hl => match us, hl with | [_, _], _ => rfl
  have bP : L2.Binds K fdP ["_law_row", "_law_things"] [] := FP.bindsN fun _ _ _ _ _ _ us hl => match us, hl with | [_, _], _ => rfl
  have bD : L2.Binds K fdD ["_law_row", "_law_most"] [] := FD.bindsN fun _ _ _ _ _ _ us hl => match us, hl with | [_, _], _ => rfl
  have bQ : L2.Binds K fdQ ["_law_distances_here", "_law_value"] [] := FQ.bindsN fun _ _ _ _ _ _ us hl => match us, hl with | [_, _], _ => rfl
  have bV : L2.Binds K fdV ["_law_distances_here", "_law_state"] [] := FV.bindsN fun _ _ _ _ _ _ us hl => match us, hl with | [_, _], _ => rfl
  have bG : L2.Binds K fdG ["_law_distances_here"] [] := FG.bindsN fun _ _ _ _ _ _ us hl => match us, hl with | [_], _ => rfl
  have b := FunD.bindsA (ps := ["_law_script"]) F fun _ _ _ _ _ _ us hl => match us, hl with | [_], _ => rfl
  have hN := code_at FN
  have hA := code_at FA
  refine ⟨fd, tf.map (He.cT K), spLaw K (He.cT K ("need_distances", none)).2 (He.cT K ("alive_states", none)).2, ?_, ?_, ?_, fun s v => b s [v] rfl, ?_, ?_⟩
  · intro p hp
    obtain ⟨q, hq, rfl⟩ := List.mem_map.mp hp
    exact c.empty q hq
  · intro p hp
    obtain ⟨q, hq, rfl⟩ := List.mem_map.mp hp
    exact c.out q hq
  · intro p hp
    obtain ⟨q, hq, rfl⟩ := List.mem_map.mp hp
    exact PySem.W.codeHd_of_K X (c.hd q hq)
  · intro H a ns hl _ ht hS
    exact ⟨a, ns, rfl, hS, ⟨⟨#[], ht _ List.mem_cons_self, True.intro⟩, ⟨#[], ht _ (List.mem_cons_of_mem _ List.mem_cons_self), True.intro⟩⟩, fun _ => rfl⟩
  · intro base _ _ TB
    have TN := tab_of (TB _ List.mem_cons_self)
    have TA := tab_of (TB _ (List.mem_cons_of_mem _ List.mem_cons_self))
    have FI' : L2.Fun K "is_in" "is_in" sIsIn (He.fAd K ("is_in", none)) fdI := fun_ofD FI
    have FN' : L2.Fun K "need_distances" "need_distances" sNeed (He.fAd K ("need_distances", none)) fdN := fun_ofD FN
    have FS' : L2.Fun K "served" "served" sServed (He.fAd K ("served", none)) fdS := fun_ofD FS
    have FA' : L2.Fun K "alive_states" "alive_states" sAlive (He.fAd K ("alive_states", none)) fdA := fun_ofD FA
    have FR' : L2.Fun K "ring_for" "ring_for" sRing (He.fAd K ("ring_for", none)) fdR := fun_ofD FR
    have FT' : L2.Fun K "_law_taken" "_law_taken" sTaken (He.fAd K ("_law_taken", none)) fdT := fun_ofD FT
    have FP' : L2.Fun K "_law_pick" "_law_pick" sPick (He.fAd K ("_law_pick", none)) fdP := fun_ofD FP
    have FD' : L2.Fun K "_law_distances" "_law_distances" sDist (He.fAd K ("_law_distances", none)) fdD := fun_ofD FD
    have FQ' : L2.Fun K "_law_is_ring" "_law_is_ring" sIsRing (He.fAd K ("_law_is_ring", none)) fdQ := fun_ofD FQ
    have FV' : L2.Fun K "_law_steps" "_law_steps" sSteps (He.fAd K ("_law_steps", none)) fdV := fun_ofD FV
    have FG' : L2.Fun K "_law_goes_on" "_law_goes_on" sGoes (He.fAd K ("_law_goes_on", none)) fdG := fun_ofD FG
    have GN := ok_need (P := PySem.Challenge.rw_eventcore_k64_whole_rings.prog) (w := w) (base := base) FN' hN TN FI' bI gI M
    have GA := ok_alive (P := PySem.Challenge.rw_eventcore_k64_whole_rings.prog) (w := w) (base := base) (P1 := (He.cT K ("need_distances", none)).2) FA' hA TA FS' bS gS M
    have GR := ok_ring FR' M GN bN gN FN' GA bA gA FA'
    have GT := ok_taken (P := PySem.Challenge.rw_eventcore_k64_whole_rings.prog) (w := w) (base := base) FT' M
    have GP := ok_pick FP' M GT FT' bT gT
    have GD := ok_dist (P1 := (He.cT K ("need_distances", none)).2) (P2 := (He.cT K ("alive_states", none)).2) FD' M GT FT' bT gT GP FP' bP gP
    have GQ := ok_isring (P := PySem.Challenge.rw_eventcore_k64_whole_rings.prog) (w := w) (base := base) FQ' M
    have GV := ok_steps (P := PySem.Challenge.rw_eventcore_k64_whole_rings.prog) (w := w) (base := base) FV' M
    have GG := ok_goes FG' M GV FV' bV gV
    have F' : L2.Fun K "law" "law" sLaw (He.fAd K ("law", none)) fd := fun_ofD F
    exact ok_law F' M GD FD' bD gD GR FR' bR gR GG FG' bG gG GQ FQ' bQ gQ
end K64
open PySem PySem.W PySem.Calls PyProof.Rows
theorem PySem.Challenge.cw_eventcore_k64_whole_rings_holds : PySem.Challenge.rw_eventcore_k64_whole_rings.Holds := by
  w_on; o_law
  refine HandSHeadRun.head_any (r := OpenLaw.row PySem.Challenge.rw_eventcore_k64_whole_rings) (q := view (OpenLaw.row PySem.Challenge.rw_eventcore_k64_whole_rings).prog [19]) (H := K64.hk) (ob := K64.ob) (M := 3000) (loose := K64.names) (d := HandSHeadRun.topDef (OpenLaw.row PySem.Challenge.rw_eventcore_k64_whole_rings).prog 19) (kwd := []) K64.ob_eq
    (by kernel_rfl) (fun s => by kernel_rfl) K64.run (by kernel_rfl) (by kernel_rfl) (by kernel_rfl) (by rfl) (by first | assumption | decide +kernel) (by decide +kernel) ⟨rfl, rfl, rfl, rfl, rfl, by decide +kernel⟩ ?hw ?hc
  case hw => w_witness2
  case hc =>
    refine LamX.walk_ofTsE (l := PySem.Challenge.rw_eventcore_k64_whole_rings) (n := 63) (k := 4) (x := "_law_script") (CX := fun _ => L2.CX0) rfl (by decide) (by kernel_rfl) ⟨rfl, by decide, by decide⟩ ?F (fun _ _ _ _ _ z => z)
    intro w mg fa h Y G hmg0
    obtain ⟨K, KX, c⟩ := Y
    have hmg : mg ("law" : PySem.Str) = some (.ref fa) := by
      have e : (HandSHeadRun.topDef (OpenLaw.row PySem.Challenge.rw_eventcore_k64_whole_rings).prog 19).name = ("law" : PySem.Str) := by kernel_rfl
      rw [← e]
      exact hmg0
    exact ⟨K, KX, K64.facts KX G hmg c⟩
