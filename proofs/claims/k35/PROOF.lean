import PyProof.Rows.All
import Wide.All
import OpenK.AllK
import Wide.FinOn
import HandS.ForMost
import HandS.Exc
import HandS.ExcOwn
import HandS.WordsExc
import HandS.TryOnly
import HandS.Defaults
import HandS.Deep
import HandS.IsInst
import HandS.Conv
import HandS.Wide
import HandS.More
import HandS.SetFor
import HandS.Flow
import HandS.Walk
import HandS.Small
import KE.DataEq
import KE.DataFind
import KE.Datum
import HandS.Head0
import HandS.Head1
import HandS.Head2
import HandS.HeadEnd
import HandS.HeadHook1
import HandS.HeadHook2
import HandS.HeadHook3
import HandS.HeadHook4
import PySem.Challenge.RW_heardahead_k35_whole_a_house_by_the_rule
set_option Elab.async false
set_option linter.all false
set_option maxRecDepth 100000
set_option maxHeartbeats 4000000
namespace G
open PySem PySem.Spec PyProof.Rows L2
def top (i : Nat) : Stmt := PySem.Challenge.pw_heardahead_k35_whole_a_house_by_the_rule.main.body.getD i (.Pass ⟨0, 0, 0, 0⟩)
abbrev s_is_count : Stmt := top 12
abbrev s_is_name : Stmt := top 13
abbrev s_is_letter : Stmt := top 24
abbrev s_Place_init : Stmt := inClass (top 26) 0
abbrev s_House_init : Stmt := inClass (top 27) 0
abbrev s_House_need_near : Stmt := inClass (top 27) 1
abbrev s_House_tell : Stmt := inClass (top 27) 2
abbrev s_House_gone : Stmt := inClass (top 27) 3
abbrev s_House_deal : Stmt := inClass (top 27) 4
abbrev s_House_named : Stmt := inClass (top 27) 5
abbrev s_House_given : Stmt := inClass (top 27) 6
abbrev s_House_look : Stmt := inClass (top 27) 7
abbrev s_House_look_at_all : Stmt := inClass (top 27) 8
abbrev s_House_no_more_for : Stmt := inClass (top 27) 9
abbrev s_House_put : Stmt := inClass (top 27) 10
abbrev s_House_out : Stmt := inClass (top 27) 11
abbrev s_House_resize : Stmt := inClass (top 27) 12
abbrev s_House_hear : Stmt := inClass (top 27) 13
abbrev s_House_look_behind : Stmt := inClass (top 27) 14
abbrev s_House_answer_for : Stmt := inClass (top 27) 15
abbrev s_House_close : Stmt := inClass (top 27) 16
abbrev s_House_name : Stmt := inClass (top 27) 17
abbrev s_House_room : Stmt := inClass (top 27) 18
abbrev s_House_order : Stmt := inClass (top 27) 19
abbrev s_House_word : Stmt := inClass (top 27) 20
abbrev s_House_is_open : Stmt := inClass (top 27) 21
abbrev s_House_cause : Stmt := inClass (top 27) 22
abbrev s_House_reason : Stmt := inClass (top 27) 23
abbrev s_House_heard_of : Stmt := inClass (top 27) 24
abbrev s_House_is_ahead : Stmt := inClass (top 27) 25
abbrev s_House_awaited : Stmt := inClass (top 27) 26
abbrev s_House_chairs : Stmt := inClass (top 27) 27
abbrev s_House_owed : Stmt := inClass (top 27) 28
abbrev s_House_turns : Stmt := inClass (top 27) 29
abbrev s_L_pot : Stmt := top 29
abbrev s_L_dip : Stmt := top 30
abbrev s_L_names : Stmt := top 31
abbrev s_L_done : Stmt := top 32
abbrev s_L_what : Stmt := top 33
abbrev s_L_new : Stmt := top 34
abbrev s_L_given : Stmt := top 35
abbrev s_L_look : Stmt := top 36
abbrev s_L_look_all : Stmt := top 37
abbrev s_L_paid : Stmt := top 38
abbrev s_L_put : Stmt := top 39
abbrev s_L_out : Stmt := top 40
abbrev s_L_behind : Stmt := top 41
abbrev s_L_hears : Stmt := top 42
abbrev s_L_did : Stmt := top 43
abbrev s_L_reason : Stmt := top 44
abbrev s_L_told_alike : Stmt := top 45
abbrev s_L_alike : Stmt := top 46
abbrev s_L_long : Stmt := top 47
abbrev s_L_next : Stmt := top 48
abbrev s_L_right : Stmt := top 49
abbrev s_law : Stmt := top 50
end G
set_option Elab.async false
set_option linter.all false
set_option maxRecDepth 100000
set_option maxHeartbeats 4000000
/-! Rules that the layer lacks: powers of great ints, == of data without a bound on texts, texts in lists, dict.update, repr. -/
namespace G
open PySem PySem.Spec PyProof.Rows L2

section
variable {X : Cx}

/-! ### a ** b, the left one of any size in bounds -/
theorem op_powW : OpR X (binaryOp .Pow) (rI (fun i j => 0 ≤ j ∧ (Builtin.Int.intBits i : Int) * j ≤ 2 ^ 27) fun i j => .int (i ^ j.toNat)) :=
  opI fun _ _ _ _ _ _ _ c k => pow_int c.1 c.2 k
theorem bits_of {i : Int} {n : Nat} (h : i.natAbs < 2 ^ n) : Builtin.Int.intBits i ≤ n := by
  unfold Builtin.Int.intBits
  split
  · exact Nat.zero_le _
  · rename_i hz
    have h0 : i.natAbs ≠ 0 := by
      intro e
      apply hz
      have : i = 0 := Int.natAbs_eq_zero.mp e
      rw [this]; rfl
    have := (Nat.log2_lt h0).mpr h
    omega

/-! ### == and != of data (no dict within) -/
def rEqP (K : PySem.W.Frag) : R2 := fun x y H Q => ∃ d e, Dp K H x d ∧ Dp K H y e ∧ d.plain = true ∧ e.plain = true ∧ d.depth ≤ 60 ∧ Q (.bl (PyData.eqv d e)) H
def rNeP (K : PySem.W.Frag) : R2 := fun x y H Q => ∃ d e, Dp K H x d ∧ Dp K H y e ∧ d.plain = true ∧ e.plain = true ∧ d.depth ≤ 60 ∧ Q (.bl (!PyData.eqv d e)) H
theorem op_eqP (hu : X.A.units + 64 < cLine) : OpR X (compareOp .Eq) (rEqP X.K) := fun pins s σ H x y v u Q I rx ry h => by
  obtain ⟨d, e, hd, he, pd, pe, hz, q⟩ := h
  obtain ⟨as, k1⟩ := Dp.reads I d x v hd rx
  obtain ⟨bs, k2⟩ := Dp.reads I e y u he ry
  have hr : X.A.units + min d.depth e.depth < cLine := by have := Nat.min_le_left d.depth e.depth; omega
  exact SeqAt.eq_plain k1 k2 pd pe hr ⟨.bl _, H, I, rfl, q⟩
theorem op_neP (hu : X.A.units + 64 < cLine) : OpR X (compareOp .NotEq) (rNeP X.K) := fun pins s σ H x y v u Q I rx ry h => by
  obtain ⟨d, e, hd, he, pd, pe, hz, q⟩ := h
  obtain ⟨as, k1⟩ := Dp.reads I d x v hd rx
  obtain ⟨bs, k2⟩ := Dp.reads I e y u he ry
  have hr : X.A.units + min d.depth e.depth < cLine := by have := Nat.min_le_left d.depth e.depth; omega
  exact SeqAt.ne_plain k1 k2 pd pe hr ⟨.bl _, H, I, rfl, q⟩

/-- x in c, c a list or tuple of data -/
def rInP (K : PySem.W.Frag) : R2 := fun x y H Q => ∃ d ds, Dp K H x d ∧ (Dp K H y (.list ds) ∨ Dp K H y (.tuple ds)) ∧ d.plain = true ∧ PyData.plainAll ds = true ∧ d.depth ≤ 60 ∧ Q (.bl (ds.any fun z => PyData.eqv z d)) H
theorem op_inP (hu : X.A.units + 64 < cLine) : OpR X (compareOp .In) (rInP X.K) := fun pins s σ H x y v u Q I rx ry h => by
  obtain ⟨d, ds, hd, hc, pd, pe, hz, q⟩ := h
  obtain ⟨as, k1⟩ := Dp.reads I d x v hd rx
  have hr : X.A.units + 1 + min (PyData.depthAll ds) d.depth < cLine := by have := Nat.min_le_right (PyData.depthAll ds) d.depth; omega
  rcases hc with hc | hc
  · obtain ⟨bs, k2⟩ := Dp.reads I _ y u hc ry
    exact SeqAt.in_list_data k2 k1 pe pd hr ⟨.bl _, H, I, rfl, q⟩
  · obtain ⟨bs, k2⟩ := Dp.reads I _ y u hc ry
    exact SeqAt.in_tuple_data k2 k1 pe pd hr ⟨.bl _, H, I, rfl, q⟩

/-! ### lists of texts -/
theorem dp_strs {K : PySem.W.Frag} {H : Hp} : ∀ l : List Str, DpAll K H (l.map V.str) (l.map PyData.str)
  | [] => .nil
  | x :: l => .cons (.str x) (dp_strs l)
/-- a tuple, a list of texts as data -/
def tS (l : List Str) : PyData := .tuple (l.map .str)
def lS (l : List Str) : PyData := .list (l.map .str)
theorem plain_strs : ∀ l : List Str, PyData.plainAll (l.map .str) = true
  | [] => rfl
  | x :: l => by rw [List.map_cons, PyData.plainAll, plain_strs l]; rfl
theorem plain_tS (l : List Str) : (tS l).plain = true := by unfold tS; rw [PyData.plain]; exact plain_strs l
theorem plain_lS (l : List Str) : (lS l).plain = true := by unfold lS; rw [PyData.plain]; exact plain_strs l
theorem depth_strs : ∀ l : List Str, PyData.depthAll (l.map .str) = 0
  | [] => rfl
  | x :: l => by rw [List.map_cons, PyData.depthAll, depth_strs l, PyData.depth]; rfl
theorem depth_tS (l : List Str) : (tS l).depth = 1 := by unfold tS; rw [PyData.depth, depth_strs]
theorem depth_lS (l : List Str) : (lS l).depth = 1 := by unfold lS; rw [PyData.depth, depth_strs]
theorem eqvAll_strs (a b : List Str) : PyData.eqvAll (a.map .str) (b.map .str) = decide (a = b) := PySem.W.eqvAll_map a b
theorem eqv_tS (a b : List Str) : PyData.eqv (tS a) (tS b) = decide (a = b) := by unfold tS; rw [PyData.eqv]; exact eqvAll_strs a b
theorem eqv_lS (a b : List Str) : PyData.eqv (lS a) (lS b) = decide (a = b) := by unfold lS; rw [PyData.eqv]; exact eqvAll_strs a b
theorem any_tS (l : List Str) : ∀ ls : List (List Str), ((ls.map tS).any fun z => PyData.eqv z (tS l)) = decide (l ∈ ls)
  | [] => by simp
  | x :: ls => by
    rw [List.map_cons, List.any_cons, any_tS l ls, eqv_tS]
    by_cases h : x = l
    · subst h; simp
    · rw [decide_eq_false h, Bool.false_or]
      exact decide_eq_decide.mpr ⟨fun m => List.mem_cons_of_mem _ m, fun m => (List.mem_cons.mp m).resolve_left fun e => h e.symm⟩
theorem plain_tSs : ∀ ls : List (List Str), PyData.plainAll (ls.map tS) = true
  | [] => rfl
  | x :: ls => by rw [List.map_cons, PyData.plainAll, plain_tSs ls, plain_tS]; rfl
theorem dp_lst {K : PySem.W.Frag} {H : Hp} {a : Addr} {l : List Str} (h : SqL K H a (l.map .str)) : Dp K H (.ref a) (lS l) := .lst h (dp_strs l)
theorem dp_tup {K : PySem.W.Frag} {H : Hp} {a : Addr} {l : List Str} (h : SqT K H a (l.map .str)) : Dp K H (.ref a) (tS l) := .tup h (dp_strs l)
theorem eqV_str (a b : Str) : eqV (.str a) (.str b) = decide (a = b) := by
  show (a == b) = decide (a = b)
  rw [Bool.eq_iff_iff, beq_iff_eq, decide_eq_true_eq]
theorem flat_strs : ∀ l : List Str, (l.map V.str).all flatV = true
  | [] => rfl
  | _ :: l => by rw [List.map_cons, List.all_cons, flat_strs l]; rfl
theorem inV_str (g : Str) : ∀ l : List Str, inV (.str g) (l.map V.str) = decide (g ∈ l)
  | [] => by simp [inV]
  | x :: l => by
    have ih := inV_str g l
    unfold inV at ih ⊢
    rw [List.map_cons, List.any_cons, ih, eqV_str]
    by_cases h : x = g
    · subst h; simp
    · rw [decide_eq_false h, Bool.false_or]
      exact decide_eq_decide.mpr ⟨fun m => List.mem_cons_of_mem _ m, fun m => (List.mem_cons.mp m).resolve_left fun e => h e.symm⟩

/-- g in xs, xs a list of texts -/
def rInS (K : PySem.W.Frag) (neg : Bool) : R2 := fun x y H Q => ∃ (p : Addr) (l : List Str) (g : Str), x = .str g ∧ y = .ref p ∧ (SqL K H p (l.map V.str) ∨ SqT K H p (l.map V.str)) ∧ Q (.bl (if neg then !decide (g ∈ l) else decide (g ∈ l))) H
theorem op_inS : OpR X (compareOp .In) (rInS X.K false) := fun pins s σ H x y v u Q I rx ry h => by
  obtain ⟨p, l, g, rfl, rfl, hs, q⟩ := h
  refine op_in_seq pins s σ H _ _ v u Q I rx ry ⟨p, l.map V.str, rfl, hs, rfl, flat_strs l, ?_⟩
  rw [inV_str]; exact q
theorem op_notInS : OpR X (compareOp .NotIn) (rInS X.K true) := fun pins s σ H x y v u Q I rx ry h => by
  obtain ⟨p, l, g, rfl, rfl, hs, q⟩ := h
  refine op_notIn_seq pins s σ H _ _ v u Q I rx ry ⟨p, l.map V.str, rfl, hs, rfl, flat_strs l, ?_⟩
  rw [inV_str]; exact q

theorem idx_first : ∀ (l : List Str) (g : Str), g ∈ l → l[l.idxOf g]? = some g ∧ ∀ m, m < l.idxOf g → ∀ z, l[m]? = some z → z ≠ g
  | [], g, h => by cases h
  | x :: l, g, h => by
    rw [List.idxOf_cons]
    by_cases e : x = g
    · subst e
      simp
    · have e' : (x == g) = false := beq_eq_false_iff_ne.mpr e
      rw [e']
      have hm : g ∈ l := (List.mem_cons.mp h).resolve_left fun z => e z.symm
      obtain ⟨h1, h2⟩ := idx_first l g hm
      refine ⟨by simpa using h1, fun m hmm z hz => ?_⟩
      cases m with
      | zero =>
        have : x = z := Option.some.inj (by simpa using hz)
        rw [← this]; exact e
      | succ m => exact h2 m (by simpa using hmm) z (by simpa using hz)
/-- xs.index(g) -/
def rIndexS (K : PySem.W.Frag) : V → List V → Hp → VK → Prop := fun x xs H Q => ∃ (a : Addr) (l : List Str) (g : Str), x = .ref a ∧ xs = [.str g] ∧ SqL K H a (l.map V.str) ∧ g ∈ l ∧ Q (.int (l.idxOf g : Nat)) H
theorem mt_indexS : MtR X "list.index" (rIndexS X.K) := fun pins s σ H x xs v us Q I rx rxs h => by
  obtain ⟨a, l, g, rfl, rfl, hs, hg, q⟩ := h
  obtain ⟨h1, h2⟩ := idx_first l g hg
  refine mt_index pins s σ H _ _ v us Q I rx rxs ⟨a, l.map V.str, .str g, l.idxOf g, .str g, rfl, rfl, hs, rfl, flat_strs l, by rw [List.getElem?_map, h1]; rfl, by rw [eqV_str]; exact decide_eq_true rfl, fun m z' hm hz => ?_, q⟩
  rw [List.getElem?_map] at hz
  obtain ⟨y, hy, rfl⟩ := Option.map_eq_some_iff.mp hz
  rw [eqV_str]
  exact decide_eq_false (h2 m hm y hy)

theorem countU (g : Str) : ∀ {l : List Str} {us : List Value}, Vals (l.map V.str) us → us.countP (eqU (.str g)) = l.count g
  | [], _, r => by cases r; rfl
  | x :: l, _, r => by
    rw [List.map_cons] at r
    cases r with
    | cons a b =>
      rw [List.countP_cons, List.count_cons, countU g b, eqU_of a rfl]
      show _ + (if (x == g) = true then 1 else 0) = _
      rfl
/-- xs.count(g) -/
def rCountS (K : PySem.W.Frag) : V → List V → Hp → VK → Prop := fun x xs H Q => ∃ (p : Addr) (l : List Str) (g : Str), x = .ref p ∧ xs = [.str g] ∧ SqL K H p (l.map V.str) ∧ Q (.int (l.count g : Nat)) H
theorem mt_countS : MtR X "list.count" (rCountS X.K) := fun pins s σ H x xs v us Q I rx rxs h => by
  obtain ⟨p, l, g, rfl, rfl, hs, q⟩ := h
  cases rx
  obtain ⟨u, rfl, ru⟩ := rxs.one
  obtain ⟨its, rv, ⟨⟨cls, dd, data, sl⟩, n, ho, hc, hdn, hd⟩, hlen⟩ := I.list hs
  simp only at hc hd
  subst hc hd
  have key := mem_eqAt (A := X.A.in1) (s := s) ru (fx := rfl) rv (flat_strs l)
  have base := SeqAt.list_countAt p its.toArray n dd sl u (eqU (.str g))
  refine call_meets PySem.F.slot_list_count ⟨_, ho, rfl⟩ PySem.F.entry_list_count (PySem.F.args_list_count_2 _ _) base ⟨ho, ?_, ?_⟩
  · intro y hy
    exact mem_eqAt ru rfl rv (flat_strs l) y (by simpa using hy)
  · refine ⟨.int (l.count g : Nat), H, I.tok _, ⟨s.toks, ?_⟩, q⟩
    have ec : its.toArray.toList.countP (eqU (.str g)) = l.count g := countU g rv
    rw [ec]

/-- xs.remove(g), there -/
def rRemS : V → List V → Hp → VK → Prop := fun x xs H Q => ∃ (a : Addr) (l : List Str) (g : Str), x = .ref a ∧ xs = [.str g] ∧ H a = some (.lst (l.map V.str)) ∧ g ∈ l ∧ Q .non (upd H a (.lst ((l.erase g).map V.str)))
theorem erase_idx (g : Str) : ∀ l : List Str, g ∈ l → l.eraseIdx (l.idxOf g) = l.erase g
  | [], h => by cases h
  | x :: l, h => by
    rw [List.idxOf_cons, List.erase_cons]
    by_cases e : x = g
    · subst e; simp
    · have e' : (x == g) = false := beq_eq_false_iff_ne.mpr e
      rw [e']
      have hm : g ∈ l := (List.mem_cons.mp h).resolve_left fun z => e z.symm
      simp [erase_idx g l hm]
theorem map_erase_at (f : Str → V) : ∀ (l : List Str) (j : Nat), (l.map f).eraseIdx j = (l.eraseIdx j).map f
  | [], j => by simp
  | _ :: _, 0 => rfl
  | a :: l, j + 1 => by simp [map_erase_at f l j]
theorem mt_removeS : MtM X "list.remove" rRemS := fun pins s σ H x xs v us Q I rx rxs h => by
  obtain ⟨a, l, g, rfl, rfl, hH, hg, q⟩ := h
  cases rx
  obtain ⟨u, rfl, ru⟩ := rxs.one
  obtain ⟨z, its, n, r, hl, e⟩ := I.lstM hH
  obtain ⟨h1, h2⟩ := idx_first l g hg
  have hlen := r.length
  rw [List.length_map] at hlen hl z
  have hj : l.idxOf g < its.length := by
    have := (List.getElem?_eq_some_iff.mp h1).1
    omega
  have base := SeqAt.list_removeAt a its.toArray n none #[] u (eqU (.str g)) (l.idxOf g) (by simpa using hj) ?hit ?no (by rw [List.size_toArray]; omega)
  case hit =>
    obtain ⟨w, hw, rw'⟩ := r.get (i := l.idxOf g) (x := V.str g) (by rw [List.getElem?_map, h1]; rfl)
    obtain ⟨p1, p2⟩ := List.getElem?_eq_some_iff.mp hw
    have e1 : its.toArray[l.idxOf g]'(by simpa using hj) = w := by simpa using p2
    rw [e1, eqU_of rw' rfl, eqV_str]
    exact decide_eq_true rfl
  case no =>
    intro m hm hmj
    have hm' : m < l.length := by
      have : m < its.length := by simpa using hm
      omega
    obtain ⟨w, hw, rw'⟩ := r.get (i := m) (x := V.str l[m]) (by rw [List.getElem?_map, List.getElem?_eq_getElem hm']; rfl)
    obtain ⟨p1, p2⟩ := List.getElem?_eq_some_iff.mp hw
    have e1 : its.toArray[m]'hm = w := by simpa using p2
    rw [e1, eqU_of rw' rfl, eqV_str]
    exact decide_eq_false (h2 m hmj _ (List.getElem?_eq_getElem hm'))
  refine call_meets PySem.F.slot_list_remove ⟨_, e, rfl⟩ PySem.F.entry_list_remove (PySem.F.args_list_remove_2 _ _) base ⟨e, ?_, ?_⟩
  · intro y hy
    exact mem_eqAt ru rfl r (flat_strs l) y (by simpa using hy)
  · have rr := r.eraseIdx (l.idxOf g)
    rw [map_erase_at, erase_idx g l hg] at rr
    refine ⟨.non, _, I.lset (its' := its.eraseIdx (l.idxOf g)) (t' := s.toks) hH e ?_ rr ?_, rfl, q⟩
    · show its.toArray.eraseIdxIfInBounds (l.idxOf g) = (its.eraseIdx (l.idxOf g)).toArray
      rw [List.eraseIdxIfInBounds_toArray]
    · rw [List.length_map]
      have := List.length_erase_le (a := g) (l := l)
      omega

/-! ### d.update(e), e another dict -/
def rUpdate : V → List V → Hp → VK → Prop := fun x xs H Q => ∃ (a b : Addr) (kvs more : List (Key × V)), x = .ref a ∧ xs = [.ref b] ∧ a ≠ b ∧ H a = some (.dK kvs) ∧ H b = some (.dK more) ∧ kvs.length + more.length ≤ 1000 ∧ Q .non (upd H a (.dK (mergeK kvs more)))
theorem mt_update : MtR X "dict.update" rUpdate := fun pins s σ H x xs v us Q I rx rxs h => by
  obtain ⟨a, b, kvs, more, rfl, rfl, hab, ha, hb, hz, q⟩ := h
  cases rx
  obtain ⟨u, rfl, ru⟩ := rxs.one
  cases ru
  obtain ⟨z1, hs1, vs1, rel1, dd1⟩ := dk_of I.hok ha
  obtain ⟨z2, hs2, vs2, rel2, dd2⟩ := dk_of I.hok hb
  have l1 := rel1.length
  have l2 := rel2.length
  have hl := sizeLine_eq
  refine PySem.call_meetsIn PySem.F.slot_dict_update dd1.typeIs PySem.F.entry_dict_update (PySem.F.args_dict_update_2 _ _) (meets_dict_update (mixKind X.prog X.w) a b hab hs2)
    ⟨vs1, vs2, dd1, dd2, by omega, fun h' m1 m2 sb => ?_⟩
  have hm : (mergeK kvs more).length ≤ sizeLine := by
    have := length_mergeK more kvs
    omega
  refine ⟨.non, _, d_write (t' := s.toks) I (by rw [ha]; exact True.intro) sb ?_ (dk_new hm hs1 (KV.merge rel2 rel1) m1), rfl, q⟩
  obtain ⟨o, _, _, e, _⟩ := m1
  exact ⟨o, e⟩

/-! ### repr -/
theorem call_repr_bool : CallR X (.builtin "repr") (fun xs H Q => ∃ k, xs = [.bl k] ∧ Q (.str (if k then "True" else "False")) H) := fun pins s σ H xs us Q I r h => by
  obtain ⟨k, rfl, q⟩ := h
  obtain ⟨u, rfl, ru⟩ := r.one
  cases ru
  exact PySem.P.repr_of_bool ⟨.str _, H, I.tok _, ⟨_, rfl⟩, q⟩
theorem call_repr_data (hg : X.A.guards = some []) (hu : X.A.units + 64 < cLine) : CallR X (.builtin "repr") (fun xs H Q => ∃ a d, xs = [.ref a] ∧ Dp X.K H (.ref a) d ∧ d.showable = true ∧ d.hasDict = false ∧ d.depth ≤ 60 ∧ d.shown.length ≤ sizeLine ∧ Q (.str d.shown) H) := fun pins s σ H xs us Q I r h => by
  obtain ⟨a, d, rfl, hd, hs, hh, hdep, hz, q⟩ := h
  obtain ⟨u, rfl, ru⟩ := r.one
  cases ru
  obtain ⟨as, k1⟩ := Dp.reads I d (.ref a) (.ref a) hd rfl
  refine repr_of_reads' k1 hs (fun z => by rw [hh] at z; cases z) hg (by omega) (fun _ _ e => e) (fun h' t tk keep => ?_) hz
  exact ⟨.str d.shown, H, I.kept keep, ⟨_, rfl⟩, q⟩
end
end G
set_option Elab.async false
set_option linter.all false
set_option maxRecDepth 100000
set_option maxHeartbeats 0
namespace G
open PySem PySem.Spec PyProof.Rows L2
def d_is_count : He.DefD := ⟨("is_count", none), "is_count", "is_count", defArgs s_is_count, defBody s_is_count, defScope s_is_count, [], []⟩
def d_is_name : He.DefD := ⟨("is_name", none), "is_name", "is_name", defArgs s_is_name, defBody s_is_name, defScope s_is_name, [], []⟩
def d_is_letter : He.DefD := ⟨("is_letter", none), "is_letter", "is_letter", defArgs s_is_letter, defBody s_is_letter, defScope s_is_letter, [], []⟩
def d_Place_init : He.DefD := ⟨("Place", some "__init__"), "__init__", "Place.__init__", defArgs s_Place_init, defBody s_Place_init, defScope s_Place_init, [], []⟩
def d_House_init : He.DefD := ⟨("House", some "__init__"), "__init__", "House.__init__", defArgs s_House_init, defBody s_House_init, defScope s_House_init, [], []⟩
def d_House_need_near : He.DefD := ⟨("House", some "need_near"), "need_near", "House.need_near", defArgs s_House_need_near, defBody s_House_need_near, defScope s_House_need_near, [], []⟩
def d_House_tell : He.DefD := ⟨("House", some "tell"), "tell", "House.tell", defArgs s_House_tell, defBody s_House_tell, defScope s_House_tell, [], []⟩
def d_House_gone : He.DefD := ⟨("House", some "gone"), "gone", "House.gone", defArgs s_House_gone, defBody s_House_gone, defScope s_House_gone, [], []⟩
def d_House_deal : He.DefD := ⟨("House", some "deal"), "deal", "House.deal", defArgs s_House_deal, defBody s_House_deal, defScope s_House_deal, [], []⟩
def d_House_named : He.DefD := ⟨("House", some "named"), "named", "House.named", defArgs s_House_named, defBody s_House_named, defScope s_House_named, [], []⟩
def d_House_given : He.DefD := ⟨("House", some "given"), "given", "House.given", defArgs s_House_given, defBody s_House_given, defScope s_House_given, [], []⟩
def d_House_look : He.DefD := ⟨("House", some "look"), "look", "House.look", defArgs s_House_look, defBody s_House_look, defScope s_House_look, [], []⟩
def d_House_look_at_all : He.DefD := ⟨("House", some "look_at_all"), "look_at_all", "House.look_at_all", defArgs s_House_look_at_all, defBody s_House_look_at_all, defScope s_House_look_at_all, [], []⟩
def d_House_no_more_for : He.DefD := ⟨("House", some "no_more_for"), "no_more_for", "House.no_more_for", defArgs s_House_no_more_for, defBody s_House_no_more_for, defScope s_House_no_more_for, [], []⟩
def d_House_put : He.DefD := ⟨("House", some "put"), "put", "House.put", defArgs s_House_put, defBody s_House_put, defScope s_House_put, [], []⟩
def d_House_out : He.DefD := ⟨("House", some "out"), "out", "House.out", defArgs s_House_out, defBody s_House_out, defScope s_House_out, [], []⟩
def d_House_resize : He.DefD := ⟨("House", some "resize"), "resize", "House.resize", defArgs s_House_resize, defBody s_House_resize, defScope s_House_resize, [], []⟩
def d_House_hear : He.DefD := ⟨("House", some "hear"), "hear", "House.hear", defArgs s_House_hear, defBody s_House_hear, defScope s_House_hear, [], []⟩
def d_House_look_behind : He.DefD := ⟨("House", some "look_behind"), "look_behind", "House.look_behind", defArgs s_House_look_behind, defBody s_House_look_behind, defScope s_House_look_behind, [], []⟩
def d_House_answer_for : He.DefD := ⟨("House", some "answer_for"), "answer_for", "House.answer_for", defArgs s_House_answer_for, defBody s_House_answer_for, defScope s_House_answer_for, [], []⟩
def d_House_close : He.DefD := ⟨("House", some "close"), "close", "House.close", defArgs s_House_close, defBody s_House_close, defScope s_House_close, [], []⟩
def d_House_name : He.DefD := ⟨("House", some "name"), "name", "House.name", defArgs s_House_name, defBody s_House_name, defScope s_House_name, [], []⟩
def d_House_room : He.DefD := ⟨("House", some "room"), "room", "House.room", defArgs s_House_room, defBody s_House_room, defScope s_House_room, [], []⟩
def d_House_order : He.DefD := ⟨("House", some "order"), "order", "House.order", defArgs s_House_order, defBody s_House_order, defScope s_House_order, [], []⟩
def d_House_word : He.DefD := ⟨("House", some "word"), "word", "House.word", defArgs s_House_word, defBody s_House_word, defScope s_House_word, [], []⟩
def d_House_is_open : He.DefD := ⟨("House", some "is_open"), "is_open", "House.is_open", defArgs s_House_is_open, defBody s_House_is_open, defScope s_House_is_open, [], []⟩
def d_House_cause : He.DefD := ⟨("House", some "cause"), "cause", "House.cause", defArgs s_House_cause, defBody s_House_cause, defScope s_House_cause, [], []⟩
def d_House_reason : He.DefD := ⟨("House", some "reason"), "reason", "House.reason", defArgs s_House_reason, defBody s_House_reason, defScope s_House_reason, [], []⟩
def d_House_heard_of : He.DefD := ⟨("House", some "heard_of"), "heard_of", "House.heard_of", defArgs s_House_heard_of, defBody s_House_heard_of, defScope s_House_heard_of, [], []⟩
def d_House_is_ahead : He.DefD := ⟨("House", some "is_ahead"), "is_ahead", "House.is_ahead", defArgs s_House_is_ahead, defBody s_House_is_ahead, defScope s_House_is_ahead, [], []⟩
def d_House_awaited : He.DefD := ⟨("House", some "awaited"), "awaited", "House.awaited", defArgs s_House_awaited, defBody s_House_awaited, defScope s_House_awaited, [], []⟩
def d_House_chairs : He.DefD := ⟨("House", some "chairs"), "chairs", "House.chairs", defArgs s_House_chairs, defBody s_House_chairs, defScope s_House_chairs, [], []⟩
def d_House_owed : He.DefD := ⟨("House", some "owed"), "owed", "House.owed", defArgs s_House_owed, defBody s_House_owed, defScope s_House_owed, [], []⟩
def d_House_turns : He.DefD := ⟨("House", some "turns"), "turns", "House.turns", defArgs s_House_turns, defBody s_House_turns, defScope s_House_turns, [], []⟩
def d_L_pot : He.DefD := ⟨("_law_pot", none), "_law_pot", "_law_pot", defArgs s_L_pot, defBody s_L_pot, defScope s_L_pot, [], []⟩
def d_L_dip : He.DefD := ⟨("_law_dip", none), "_law_dip", "_law_dip", defArgs s_L_dip, defBody s_L_dip, defScope s_L_dip, [], []⟩
def d_L_names : He.DefD := ⟨("_law_names", none), "_law_names", "_law_names", defArgs s_L_names, defBody s_L_names, defScope s_L_names, [], []⟩
def d_L_done : He.DefD := ⟨("_law_done", none), "_law_done", "_law_done", defArgs s_L_done, defBody s_L_done, defScope s_L_done, [], []⟩
def d_L_what : He.DefD := ⟨("_law_what", none), "_law_what", "_law_what", defArgs s_L_what, defBody s_L_what, defScope s_L_what, [], []⟩
def d_L_new : He.DefD := ⟨("_law_new", none), "_law_new", "_law_new", defArgs s_L_new, defBody s_L_new, defScope s_L_new, [], []⟩
def d_L_given : He.DefD := ⟨("_law_given", none), "_law_given", "_law_given", defArgs s_L_given, defBody s_L_given, defScope s_L_given, [], []⟩
def d_L_look : He.DefD := ⟨("_law_look", none), "_law_look", "_law_look", defArgs s_L_look, defBody s_L_look, defScope s_L_look, [], []⟩
def d_L_look_all : He.DefD := ⟨("_law_look_all", none), "_law_look_all", "_law_look_all", defArgs s_L_look_all, defBody s_L_look_all, defScope s_L_look_all, [], []⟩
def d_L_paid : He.DefD := ⟨("_law_paid", none), "_law_paid", "_law_paid", defArgs s_L_paid, defBody s_L_paid, defScope s_L_paid, [], []⟩
def d_L_put : He.DefD := ⟨("_law_put", none), "_law_put", "_law_put", defArgs s_L_put, defBody s_L_put, defScope s_L_put, [], []⟩
def d_L_out : He.DefD := ⟨("_law_out", none), "_law_out", "_law_out", defArgs s_L_out, defBody s_L_out, defScope s_L_out, [], []⟩
def d_L_behind : He.DefD := ⟨("_law_behind", none), "_law_behind", "_law_behind", defArgs s_L_behind, defBody s_L_behind, defScope s_L_behind, [], []⟩
def d_L_hears : He.DefD := ⟨("_law_hears", none), "_law_hears", "_law_hears", defArgs s_L_hears, defBody s_L_hears, defScope s_L_hears, [], []⟩
def d_L_did : He.DefD := ⟨("_law_did", none), "_law_did", "_law_did", defArgs s_L_did, defBody s_L_did, defScope s_L_did, [], []⟩
def d_L_reason : He.DefD := ⟨("_law_reason", none), "_law_reason", "_law_reason", defArgs s_L_reason, defBody s_L_reason, defScope s_L_reason, [], []⟩
def d_L_told_alike : He.DefD := ⟨("_law_told_alike", none), "_law_told_alike", "_law_told_alike", defArgs s_L_told_alike, defBody s_L_told_alike, defScope s_L_told_alike, [], []⟩
def d_L_alike : He.DefD := ⟨("_law_alike", none), "_law_alike", "_law_alike", defArgs s_L_alike, defBody s_L_alike, defScope s_L_alike, [], []⟩
def d_L_long : He.DefD := ⟨("_law_long", none), "_law_long", "_law_long", defArgs s_L_long, defBody s_L_long, defScope s_L_long, [], []⟩
def d_L_next : He.DefD := ⟨("_law_next", none), "_law_next", "_law_next", defArgs s_L_next, defBody s_L_next, defScope s_L_next, [], []⟩
def d_L_right : He.DefD := ⟨("_law_right", none), "_law_right", "_law_right", defArgs s_L_right, defBody s_L_right, defScope s_L_right, [], []⟩
def d_law : He.DefD := ⟨("law", none), "law", "law", defArgs s_law, defBody s_law, defScope s_law, [], []⟩
def fn : List He.DefD := [d_is_count, d_is_name, d_is_letter, d_Place_init, d_House_init, d_House_need_near, d_House_tell, d_House_gone, d_House_deal, d_House_named, d_House_given, d_House_look, d_House_look_at_all, d_House_no_more_for, d_House_put, d_House_out, d_House_resize, d_House_hear, d_House_look_behind, d_House_answer_for, d_House_close, d_House_name, d_House_room, d_House_order, d_House_word, d_House_is_open, d_House_cause, d_House_reason, d_House_heard_of, d_House_is_ahead, d_House_awaited, d_House_chairs, d_House_owed, d_House_turns, d_L_pot, d_L_dip, d_L_names, d_L_done, d_L_what, d_L_new, d_L_given, d_L_look, d_L_look_all, d_L_paid, d_L_put, d_L_out, d_L_behind, d_L_hears, d_L_did, d_L_reason, d_L_told_alike, d_L_alike, d_L_long, d_L_next, d_L_right, d_law]
def fa : List He.Fa := [.glo "is_count", .glo "is_name", .glo "is_letter", .glo "_law_pot", .glo "_law_dip", .glo "_law_names", .glo "_law_done", .glo "_law_what", .glo "_law_new", .glo "_law_given", .glo "_law_look", .glo "_law_look_all", .glo "_law_paid", .glo "_law_put", .glo "_law_out", .glo "_law_behind", .glo "_law_hears", .glo "_law_did", .glo "_law_reason", .glo "_law_told_alike", .glo "_law_alike", .glo "_law_long", .glo "_law_next", .glo "_law_right", .glo "law", .glo "ChairError", .glo "NoName", .glo "NoRoom", .glo "NoSpot", .glo "NoRoad", .glo "NoLetter", .glo "Twice", .glo "Taken", .glo "Place", .glo "House", .glo "OPEN", .glo "HEARD", .glo "CHAIR", .glo "BACK", .free "isinstance", .free "int", .free "bool", .free "str", .free "tuple", .free "len", .free "all", .free "max", .free "min", .free "range", .free "list", .free "repr", .str "LETTERS" "abcdefghijklmnopqrstuvwxyz", .str "IN" "in", .str "OUT" "out", .str "CLEAR" "clear", .str "BARRED" "barred", .str "WORD" "word", .int "MOST_LETTERS" 8, .cls "Place", .cls "House", .mkr "Place", .mkr "House", .noat "Place" "told", .noat "Place" "mark", .noat "Place" "since", .noat "Place" "opened", .noat "Place" "source", .noat "House" "own", .noat "House" "size", .noat "House" "line", .noat "House" "places_by", .noat "House" "ears", .noat "House" "debts", .noat "House" "away", .noat "House" "past", .noat "House" "going", .meth "House" "need_near", .meth "House" "tell", .meth "House" "gone", .meth "House" "deal", .meth "House" "named", .meth "House" "given", .meth "House" "look", .meth "House" "look_at_all", .meth "House" "no_more_for", .meth "House" "put", .meth "House" "out", .meth "House" "resize", .meth "House" "hear", .meth "House" "look_behind", .meth "House" "answer_for", .meth "House" "close", .meth "House" "name", .meth "House" "room", .meth "House" "order", .meth "House" "word", .meth "House" "is_open", .meth "House" "cause", .meth "House" "reason", .meth "House" "heard_of", .meth "House" "is_ahead", .meth "House" "awaited", .meth "House" "chairs", .meth "House" "owed", .meth "House" "turns", .exc "NoName", .exm "NoName" "ChairError" true, .exc "NoRoom", .exm "NoRoom" "ChairError" true, .exc "NoSpot", .exm "NoSpot" "ChairError" true, .exc "NoRoad", .exm "NoRoad" "ChairError" true, .exc "NoLetter", .exm "NoLetter" "ChairError" true, .exc "Twice", .exm "Twice" "ChairError" true, .exc "Taken", .exm "Taken" "ChairError" true]
def ex (K : PySem.W.Frag) : Bool := He.tupB K "OPEN" [.str "open"] && (He.tupB K "HEARD" [.str "heard"] && (He.tupB K "CHAIR" [.str "chair"] && He.tupB K "BACK" [.str "back"]))

/-- what the top has left -/
structure Txt (K : PySem.W.Frag) (mg : Str → Option Value) : Prop where
  d : He.SaysD fa fn K
  more : ex K = true
  some_ : ∀ (x : Str) (v : Value), PySem.W.nsIn K mainGlobals x = some (some v) → mg x = some v
  none_ : ∀ x : Str, PySem.W.nsIn K mainGlobals x = some none → mg x = none
abbrev CH (K : PySem.W.Frag) : Addr := He.ga K "House"
abbrev CP (K : PySem.W.Frag) : Addr := He.ga K "Place"
section
variable {K : PySem.W.Frag} {mg : Str → Option Value}
theorem Txt.glo_ (T : Txt K mg) {x : Str} (c : (He.Fa.glo x).ok K = true) : mg x = some (.ref (He.ga K x)) := T.some_ _ _ (He.eqO_ok c)
theorem Txt.free_ (T : Txt K mg) {x : Str} (c : (He.Fa.free x).ok K = true) : mg x = none := T.none_ _ (He.eqO_ok c)
theorem Txt.str_ (T : Txt K mg) {x z : Str} (c : (He.Fa.str x z).ok K = true) : ∃ t, mg x = some (.str z t) := by
  have c2 : (match PySem.W.nsIn K mainGlobals x with | some (some (.str y _)) => decide (y = z) | _ => false) = true := c
  split at c2
  · rename_i y t e
    have ey : y = z := of_decide_eq_true c2
    subst ey
    exact ⟨t, T.some_ _ _ e⟩
  · cases c2
theorem Txt.int_ (T : Txt K mg) {x : Str} {i : Int} (c : (He.Fa.int x i).ok K = true) : ∃ t, mg x = some (.int i t) := by
  have c2 : (match PySem.W.nsIn K mainGlobals x with | some (some (.int j _)) => decide (j = i) | _ => false) = true := c
  split at c2
  · rename_i y t e
    have ey : y = i := of_decide_eq_true c2
    subst ey
    exact ⟨t, T.some_ _ _ e⟩
  · cases c2
theorem Txt.g_is_count (T : Txt K mg) : mg "is_count" = some (.ref (He.ga K "is_count")) := T.glo_ (T.d.fact 0 (f := .glo "is_count") rfl)
theorem Txt.g_is_name (T : Txt K mg) : mg "is_name" = some (.ref (He.ga K "is_name")) := T.glo_ (T.d.fact 1 (f := .glo "is_name") rfl)
theorem Txt.g_is_letter (T : Txt K mg) : mg "is_letter" = some (.ref (He.ga K "is_letter")) := T.glo_ (T.d.fact 2 (f := .glo "is_letter") rfl)
theorem Txt.g_L_pot (T : Txt K mg) : mg "_law_pot" = some (.ref (He.ga K "_law_pot")) := T.glo_ (T.d.fact 3 (f := .glo "_law_pot") rfl)
theorem Txt.g_L_dip (T : Txt K mg) : mg "_law_dip" = some (.ref (He.ga K "_law_dip")) := T.glo_ (T.d.fact 4 (f := .glo "_law_dip") rfl)
theorem Txt.g_L_names (T : Txt K mg) : mg "_law_names" = some (.ref (He.ga K "_law_names")) := T.glo_ (T.d.fact 5 (f := .glo "_law_names") rfl)
theorem Txt.g_L_done (T : Txt K mg) : mg "_law_done" = some (.ref (He.ga K "_law_done")) := T.glo_ (T.d.fact 6 (f := .glo "_law_done") rfl)
theorem Txt.g_L_what (T : Txt K mg) : mg "_law_what" = some (.ref (He.ga K "_law_what")) := T.glo_ (T.d.fact 7 (f := .glo "_law_what") rfl)
theorem Txt.g_L_new (T : Txt K mg) : mg "_law_new" = some (.ref (He.ga K "_law_new")) := T.glo_ (T.d.fact 8 (f := .glo "_law_new") rfl)
theorem Txt.g_L_given (T : Txt K mg) : mg "_law_given" = some (.ref (He.ga K "_law_given")) := T.glo_ (T.d.fact 9 (f := .glo "_law_given") rfl)
theorem Txt.g_L_look (T : Txt K mg) : mg "_law_look" = some (.ref (He.ga K "_law_look")) := T.glo_ (T.d.fact 10 (f := .glo "_law_look") rfl)
theorem Txt.g_L_look_all (T : Txt K mg) : mg "_law_look_all" = some (.ref (He.ga K "_law_look_all")) := T.glo_ (T.d.fact 11 (f := .glo "_law_look_all") rfl)
theorem Txt.g_L_paid (T : Txt K mg) : mg "_law_paid" = some (.ref (He.ga K "_law_paid")) := T.glo_ (T.d.fact 12 (f := .glo "_law_paid") rfl)
theorem Txt.g_L_put (T : Txt K mg) : mg "_law_put" = some (.ref (He.ga K "_law_put")) := T.glo_ (T.d.fact 13 (f := .glo "_law_put") rfl)
theorem Txt.g_L_out (T : Txt K mg) : mg "_law_out" = some (.ref (He.ga K "_law_out")) := T.glo_ (T.d.fact 14 (f := .glo "_law_out") rfl)
theorem Txt.g_L_behind (T : Txt K mg) : mg "_law_behind" = some (.ref (He.ga K "_law_behind")) := T.glo_ (T.d.fact 15 (f := .glo "_law_behind") rfl)
theorem Txt.g_L_hears (T : Txt K mg) : mg "_law_hears" = some (.ref (He.ga K "_law_hears")) := T.glo_ (T.d.fact 16 (f := .glo "_law_hears") rfl)
theorem Txt.g_L_did (T : Txt K mg) : mg "_law_did" = some (.ref (He.ga K "_law_did")) := T.glo_ (T.d.fact 17 (f := .glo "_law_did") rfl)
theorem Txt.g_L_reason (T : Txt K mg) : mg "_law_reason" = some (.ref (He.ga K "_law_reason")) := T.glo_ (T.d.fact 18 (f := .glo "_law_reason") rfl)
theorem Txt.g_L_told_alike (T : Txt K mg) : mg "_law_told_alike" = some (.ref (He.ga K "_law_told_alike")) := T.glo_ (T.d.fact 19 (f := .glo "_law_told_alike") rfl)
theorem Txt.g_L_alike (T : Txt K mg) : mg "_law_alike" = some (.ref (He.ga K "_law_alike")) := T.glo_ (T.d.fact 20 (f := .glo "_law_alike") rfl)
theorem Txt.g_L_long (T : Txt K mg) : mg "_law_long" = some (.ref (He.ga K "_law_long")) := T.glo_ (T.d.fact 21 (f := .glo "_law_long") rfl)
theorem Txt.g_L_next (T : Txt K mg) : mg "_law_next" = some (.ref (He.ga K "_law_next")) := T.glo_ (T.d.fact 22 (f := .glo "_law_next") rfl)
theorem Txt.g_L_right (T : Txt K mg) : mg "_law_right" = some (.ref (He.ga K "_law_right")) := T.glo_ (T.d.fact 23 (f := .glo "_law_right") rfl)
theorem Txt.g_law (T : Txt K mg) : mg "law" = some (.ref (He.ga K "law")) := T.glo_ (T.d.fact 24 (f := .glo "law") rfl)
theorem Txt.g_ChairError (T : Txt K mg) : mg "ChairError" = some (.ref (He.ga K "ChairError")) := T.glo_ (T.d.fact 25 (f := .glo "ChairError") rfl)
theorem Txt.g_NoName (T : Txt K mg) : mg "NoName" = some (.ref (He.ga K "NoName")) := T.glo_ (T.d.fact 26 (f := .glo "NoName") rfl)
theorem Txt.g_NoRoom (T : Txt K mg) : mg "NoRoom" = some (.ref (He.ga K "NoRoom")) := T.glo_ (T.d.fact 27 (f := .glo "NoRoom") rfl)
theorem Txt.g_NoSpot (T : Txt K mg) : mg "NoSpot" = some (.ref (He.ga K "NoSpot")) := T.glo_ (T.d.fact 28 (f := .glo "NoSpot") rfl)
theorem Txt.g_NoRoad (T : Txt K mg) : mg "NoRoad" = some (.ref (He.ga K "NoRoad")) := T.glo_ (T.d.fact 29 (f := .glo "NoRoad") rfl)
theorem Txt.g_NoLetter (T : Txt K mg) : mg "NoLetter" = some (.ref (He.ga K "NoLetter")) := T.glo_ (T.d.fact 30 (f := .glo "NoLetter") rfl)
theorem Txt.g_Twice (T : Txt K mg) : mg "Twice" = some (.ref (He.ga K "Twice")) := T.glo_ (T.d.fact 31 (f := .glo "Twice") rfl)
theorem Txt.g_Taken (T : Txt K mg) : mg "Taken" = some (.ref (He.ga K "Taken")) := T.glo_ (T.d.fact 32 (f := .glo "Taken") rfl)
theorem Txt.g_Place (T : Txt K mg) : mg "Place" = some (.ref (He.ga K "Place")) := T.glo_ (T.d.fact 33 (f := .glo "Place") rfl)
theorem Txt.g_House (T : Txt K mg) : mg "House" = some (.ref (He.ga K "House")) := T.glo_ (T.d.fact 34 (f := .glo "House") rfl)
theorem Txt.g_OPEN (T : Txt K mg) : mg "OPEN" = some (.ref (He.ga K "OPEN")) := T.glo_ (T.d.fact 35 (f := .glo "OPEN") rfl)
theorem Txt.g_HEARD (T : Txt K mg) : mg "HEARD" = some (.ref (He.ga K "HEARD")) := T.glo_ (T.d.fact 36 (f := .glo "HEARD") rfl)
theorem Txt.g_CHAIR (T : Txt K mg) : mg "CHAIR" = some (.ref (He.ga K "CHAIR")) := T.glo_ (T.d.fact 37 (f := .glo "CHAIR") rfl)
theorem Txt.g_BACK (T : Txt K mg) : mg "BACK" = some (.ref (He.ga K "BACK")) := T.glo_ (T.d.fact 38 (f := .glo "BACK") rfl)
theorem Txt.n_isinstance (T : Txt K mg) : mg "isinstance" = none := T.free_ (T.d.fact 39 (f := .free "isinstance") rfl)
theorem Txt.n_int (T : Txt K mg) : mg "int" = none := T.free_ (T.d.fact 40 (f := .free "int") rfl)
theorem Txt.n_bool (T : Txt K mg) : mg "bool" = none := T.free_ (T.d.fact 41 (f := .free "bool") rfl)
theorem Txt.n_str (T : Txt K mg) : mg "str" = none := T.free_ (T.d.fact 42 (f := .free "str") rfl)
theorem Txt.n_tuple (T : Txt K mg) : mg "tuple" = none := T.free_ (T.d.fact 43 (f := .free "tuple") rfl)
theorem Txt.n_len (T : Txt K mg) : mg "len" = none := T.free_ (T.d.fact 44 (f := .free "len") rfl)
theorem Txt.n_all (T : Txt K mg) : mg "all" = none := T.free_ (T.d.fact 45 (f := .free "all") rfl)
theorem Txt.n_max (T : Txt K mg) : mg "max" = none := T.free_ (T.d.fact 46 (f := .free "max") rfl)
theorem Txt.n_min (T : Txt K mg) : mg "min" = none := T.free_ (T.d.fact 47 (f := .free "min") rfl)
theorem Txt.n_range (T : Txt K mg) : mg "range" = none := T.free_ (T.d.fact 48 (f := .free "range") rfl)
theorem Txt.n_list (T : Txt K mg) : mg "list" = none := T.free_ (T.d.fact 49 (f := .free "list") rfl)
theorem Txt.n_repr (T : Txt K mg) : mg "repr" = none := T.free_ (T.d.fact 50 (f := .free "repr") rfl)
theorem Txt.c_LETTERS (T : Txt K mg) : ∃ t, mg "LETTERS" = some (.str "abcdefghijklmnopqrstuvwxyz" t) := T.str_ (T.d.fact 51 (f := .str "LETTERS" "abcdefghijklmnopqrstuvwxyz") rfl)
theorem Txt.c_IN (T : Txt K mg) : ∃ t, mg "IN" = some (.str "in" t) := T.str_ (T.d.fact 52 (f := .str "IN" "in") rfl)
theorem Txt.c_OUT (T : Txt K mg) : ∃ t, mg "OUT" = some (.str "out" t) := T.str_ (T.d.fact 53 (f := .str "OUT" "out") rfl)
theorem Txt.c_CLEAR (T : Txt K mg) : ∃ t, mg "CLEAR" = some (.str "clear" t) := T.str_ (T.d.fact 54 (f := .str "CLEAR" "clear") rfl)
theorem Txt.c_BARRED (T : Txt K mg) : ∃ t, mg "BARRED" = some (.str "barred" t) := T.str_ (T.d.fact 55 (f := .str "BARRED" "barred") rfl)
theorem Txt.c_WORD (T : Txt K mg) : ∃ t, mg "WORD" = some (.str "word" t) := T.str_ (T.d.fact 56 (f := .str "WORD" "word") rfl)
theorem Txt.c_MOST_LETTERS (T : Txt K mg) : ∃ t, mg "MOST_LETTERS" = some (.int 8 t) := T.int_ (T.d.fact 57 (f := .int "MOST_LETTERS" 8) rfl)
theorem Txt.cls_Place (T : Txt K mg) : Cls K (He.ga K "Place") := He.cls_ok (T.d.fact 58 (f := .cls "Place") rfl)
theorem Txt.cls_House (T : Txt K mg) : Cls K (He.ga K "House") := He.cls_ok (T.d.fact 59 (f := .cls "House") rfl)
theorem Txt.mk_Place (T : Txt K mg) : Mk K (He.ga K "Place") (He.fAd K ("Place", some "__init__")) := He.mkr_ok (T.d.fact 60 (f := .mkr "Place") rfl)
theorem Txt.mk_House (T : Txt K mg) : Mk K (He.ga K "House") (He.fAd K ("House", some "__init__")) := He.mkr_ok (T.d.fact 61 (f := .mkr "House") rfl)
theorem Txt.na_P_told (T : Txt K mg) : NoAttr K (He.ga K "Place") "told" := He.noat_ok (T.d.fact 62 (f := .noat "Place" "told") rfl)
theorem Txt.na_P_mark (T : Txt K mg) : NoAttr K (He.ga K "Place") "mark" := He.noat_ok (T.d.fact 63 (f := .noat "Place" "mark") rfl)
theorem Txt.na_P_since (T : Txt K mg) : NoAttr K (He.ga K "Place") "since" := He.noat_ok (T.d.fact 64 (f := .noat "Place" "since") rfl)
theorem Txt.na_P_opened (T : Txt K mg) : NoAttr K (He.ga K "Place") "opened" := He.noat_ok (T.d.fact 65 (f := .noat "Place" "opened") rfl)
theorem Txt.na_P_source (T : Txt K mg) : NoAttr K (He.ga K "Place") "source" := He.noat_ok (T.d.fact 66 (f := .noat "Place" "source") rfl)
theorem Txt.na_H_own (T : Txt K mg) : NoAttr K (He.ga K "House") "own" := He.noat_ok (T.d.fact 67 (f := .noat "House" "own") rfl)
theorem Txt.na_H_size (T : Txt K mg) : NoAttr K (He.ga K "House") "size" := He.noat_ok (T.d.fact 68 (f := .noat "House" "size") rfl)
theorem Txt.na_H_line (T : Txt K mg) : NoAttr K (He.ga K "House") "line" := He.noat_ok (T.d.fact 69 (f := .noat "House" "line") rfl)
theorem Txt.na_H_places_by (T : Txt K mg) : NoAttr K (He.ga K "House") "places_by" := He.noat_ok (T.d.fact 70 (f := .noat "House" "places_by") rfl)
theorem Txt.na_H_ears (T : Txt K mg) : NoAttr K (He.ga K "House") "ears" := He.noat_ok (T.d.fact 71 (f := .noat "House" "ears") rfl)
theorem Txt.na_H_debts (T : Txt K mg) : NoAttr K (He.ga K "House") "debts" := He.noat_ok (T.d.fact 72 (f := .noat "House" "debts") rfl)
theorem Txt.na_H_away (T : Txt K mg) : NoAttr K (He.ga K "House") "away" := He.noat_ok (T.d.fact 73 (f := .noat "House" "away") rfl)
theorem Txt.na_H_past (T : Txt K mg) : NoAttr K (He.ga K "House") "past" := He.noat_ok (T.d.fact 74 (f := .noat "House" "past") rfl)
theorem Txt.na_H_going (T : Txt K mg) : NoAttr K (He.ga K "House") "going" := He.noat_ok (T.d.fact 75 (f := .noat "House" "going") rfl)
theorem Txt.m_need_near (T : Txt K mg) : Meth K (CH K) "need_near" (He.fAd K ("House", some "need_near")) := He.meth_ok (T.d.fact 76 (f := .meth "House" "need_near") rfl)
theorem Txt.m_tell (T : Txt K mg) : Meth K (CH K) "tell" (He.fAd K ("House", some "tell")) := He.meth_ok (T.d.fact 77 (f := .meth "House" "tell") rfl)
theorem Txt.m_gone (T : Txt K mg) : Meth K (CH K) "gone" (He.fAd K ("House", some "gone")) := He.meth_ok (T.d.fact 78 (f := .meth "House" "gone") rfl)
theorem Txt.m_deal (T : Txt K mg) : Meth K (CH K) "deal" (He.fAd K ("House", some "deal")) := He.meth_ok (T.d.fact 79 (f := .meth "House" "deal") rfl)
theorem Txt.m_named (T : Txt K mg) : Meth K (CH K) "named" (He.fAd K ("House", some "named")) := He.meth_ok (T.d.fact 80 (f := .meth "House" "named") rfl)
theorem Txt.m_given (T : Txt K mg) : Meth K (CH K) "given" (He.fAd K ("House", some "given")) := He.meth_ok (T.d.fact 81 (f := .meth "House" "given") rfl)
theorem Txt.m_look (T : Txt K mg) : Meth K (CH K) "look" (He.fAd K ("House", some "look")) := He.meth_ok (T.d.fact 82 (f := .meth "House" "look") rfl)
theorem Txt.m_look_at_all (T : Txt K mg) : Meth K (CH K) "look_at_all" (He.fAd K ("House", some "look_at_all")) := He.meth_ok (T.d.fact 83 (f := .meth "House" "look_at_all") rfl)
theorem Txt.m_no_more_for (T : Txt K mg) : Meth K (CH K) "no_more_for" (He.fAd K ("House", some "no_more_for")) := He.meth_ok (T.d.fact 84 (f := .meth "House" "no_more_for") rfl)
theorem Txt.m_put (T : Txt K mg) : Meth K (CH K) "put" (He.fAd K ("House", some "put")) := He.meth_ok (T.d.fact 85 (f := .meth "House" "put") rfl)
theorem Txt.m_out (T : Txt K mg) : Meth K (CH K) "out" (He.fAd K ("House", some "out")) := He.meth_ok (T.d.fact 86 (f := .meth "House" "out") rfl)
theorem Txt.m_resize (T : Txt K mg) : Meth K (CH K) "resize" (He.fAd K ("House", some "resize")) := He.meth_ok (T.d.fact 87 (f := .meth "House" "resize") rfl)
theorem Txt.m_hear (T : Txt K mg) : Meth K (CH K) "hear" (He.fAd K ("House", some "hear")) := He.meth_ok (T.d.fact 88 (f := .meth "House" "hear") rfl)
theorem Txt.m_look_behind (T : Txt K mg) : Meth K (CH K) "look_behind" (He.fAd K ("House", some "look_behind")) := He.meth_ok (T.d.fact 89 (f := .meth "House" "look_behind") rfl)
theorem Txt.m_answer_for (T : Txt K mg) : Meth K (CH K) "answer_for" (He.fAd K ("House", some "answer_for")) := He.meth_ok (T.d.fact 90 (f := .meth "House" "answer_for") rfl)
theorem Txt.m_close (T : Txt K mg) : Meth K (CH K) "close" (He.fAd K ("House", some "close")) := He.meth_ok (T.d.fact 91 (f := .meth "House" "close") rfl)
theorem Txt.m_name (T : Txt K mg) : Meth K (CH K) "name" (He.fAd K ("House", some "name")) := He.meth_ok (T.d.fact 92 (f := .meth "House" "name") rfl)
theorem Txt.m_room (T : Txt K mg) : Meth K (CH K) "room" (He.fAd K ("House", some "room")) := He.meth_ok (T.d.fact 93 (f := .meth "House" "room") rfl)
theorem Txt.m_order (T : Txt K mg) : Meth K (CH K) "order" (He.fAd K ("House", some "order")) := He.meth_ok (T.d.fact 94 (f := .meth "House" "order") rfl)
theorem Txt.m_word (T : Txt K mg) : Meth K (CH K) "word" (He.fAd K ("House", some "word")) := He.meth_ok (T.d.fact 95 (f := .meth "House" "word") rfl)
theorem Txt.m_is_open (T : Txt K mg) : Meth K (CH K) "is_open" (He.fAd K ("House", some "is_open")) := He.meth_ok (T.d.fact 96 (f := .meth "House" "is_open") rfl)
theorem Txt.m_cause (T : Txt K mg) : Meth K (CH K) "cause" (He.fAd K ("House", some "cause")) := He.meth_ok (T.d.fact 97 (f := .meth "House" "cause") rfl)
theorem Txt.m_reason (T : Txt K mg) : Meth K (CH K) "reason" (He.fAd K ("House", some "reason")) := He.meth_ok (T.d.fact 98 (f := .meth "House" "reason") rfl)
theorem Txt.m_heard_of (T : Txt K mg) : Meth K (CH K) "heard_of" (He.fAd K ("House", some "heard_of")) := He.meth_ok (T.d.fact 99 (f := .meth "House" "heard_of") rfl)
theorem Txt.m_is_ahead (T : Txt K mg) : Meth K (CH K) "is_ahead" (He.fAd K ("House", some "is_ahead")) := He.meth_ok (T.d.fact 100 (f := .meth "House" "is_ahead") rfl)
theorem Txt.m_awaited (T : Txt K mg) : Meth K (CH K) "awaited" (He.fAd K ("House", some "awaited")) := He.meth_ok (T.d.fact 101 (f := .meth "House" "awaited") rfl)
theorem Txt.m_chairs (T : Txt K mg) : Meth K (CH K) "chairs" (He.fAd K ("House", some "chairs")) := He.meth_ok (T.d.fact 102 (f := .meth "House" "chairs") rfl)
theorem Txt.m_owed (T : Txt K mg) : Meth K (CH K) "owed" (He.fAd K ("House", some "owed")) := He.meth_ok (T.d.fact 103 (f := .meth "House" "owed") rfl)
theorem Txt.m_turns (T : Txt K mg) : Meth K (CH K) "turns" (He.fAd K ("House", some "turns")) := He.meth_ok (T.d.fact 104 (f := .meth "House" "turns") rfl)
theorem Txt.x_NoName (T : Txt K mg) : PySem.W.excIn K (He.ga K "NoName") He.veBase "ValueError.__new__" = true ∧ PySem.W.keepIn K (.ref (He.ga K "NoName")) = true ∧ PySem.W.subIn K (.ref (He.ga K "NoName")) (.type "BaseException") = some true ∧ PySem.W.typeIn K (.ref (He.ga K "NoName")) = some (.type "type") := He.exc_ok (T.d.fact 105 (f := .exc "NoName") rfl)
theorem Txt.e_NoName (T : Txt K mg) : PySem.W.exmOne K (.ref (He.ga K "NoName")) (.ref (He.ga K "ChairError")) = some true := He.exm_ok (T.d.fact 106 (f := .exm "NoName" "ChairError" true) rfl)
theorem Txt.x_NoRoom (T : Txt K mg) : PySem.W.excIn K (He.ga K "NoRoom") He.veBase "ValueError.__new__" = true ∧ PySem.W.keepIn K (.ref (He.ga K "NoRoom")) = true ∧ PySem.W.subIn K (.ref (He.ga K "NoRoom")) (.type "BaseException") = some true ∧ PySem.W.typeIn K (.ref (He.ga K "NoRoom")) = some (.type "type") := He.exc_ok (T.d.fact 107 (f := .exc "NoRoom") rfl)
theorem Txt.e_NoRoom (T : Txt K mg) : PySem.W.exmOne K (.ref (He.ga K "NoRoom")) (.ref (He.ga K "ChairError")) = some true := He.exm_ok (T.d.fact 108 (f := .exm "NoRoom" "ChairError" true) rfl)
theorem Txt.x_NoSpot (T : Txt K mg) : PySem.W.excIn K (He.ga K "NoSpot") He.veBase "ValueError.__new__" = true ∧ PySem.W.keepIn K (.ref (He.ga K "NoSpot")) = true ∧ PySem.W.subIn K (.ref (He.ga K "NoSpot")) (.type "BaseException") = some true ∧ PySem.W.typeIn K (.ref (He.ga K "NoSpot")) = some (.type "type") := He.exc_ok (T.d.fact 109 (f := .exc "NoSpot") rfl)
theorem Txt.e_NoSpot (T : Txt K mg) : PySem.W.exmOne K (.ref (He.ga K "NoSpot")) (.ref (He.ga K "ChairError")) = some true := He.exm_ok (T.d.fact 110 (f := .exm "NoSpot" "ChairError" true) rfl)
theorem Txt.x_NoRoad (T : Txt K mg) : PySem.W.excIn K (He.ga K "NoRoad") He.veBase "ValueError.__new__" = true ∧ PySem.W.keepIn K (.ref (He.ga K "NoRoad")) = true ∧ PySem.W.subIn K (.ref (He.ga K "NoRoad")) (.type "BaseException") = some true ∧ PySem.W.typeIn K (.ref (He.ga K "NoRoad")) = some (.type "type") := He.exc_ok (T.d.fact 111 (f := .exc "NoRoad") rfl)
theorem Txt.e_NoRoad (T : Txt K mg) : PySem.W.exmOne K (.ref (He.ga K "NoRoad")) (.ref (He.ga K "ChairError")) = some true := He.exm_ok (T.d.fact 112 (f := .exm "NoRoad" "ChairError" true) rfl)
theorem Txt.x_NoLetter (T : Txt K mg) : PySem.W.excIn K (He.ga K "NoLetter") He.veBase "ValueError.__new__" = true ∧ PySem.W.keepIn K (.ref (He.ga K "NoLetter")) = true ∧ PySem.W.subIn K (.ref (He.ga K "NoLetter")) (.type "BaseException") = some true ∧ PySem.W.typeIn K (.ref (He.ga K "NoLetter")) = some (.type "type") := He.exc_ok (T.d.fact 113 (f := .exc "NoLetter") rfl)
theorem Txt.e_NoLetter (T : Txt K mg) : PySem.W.exmOne K (.ref (He.ga K "NoLetter")) (.ref (He.ga K "ChairError")) = some true := He.exm_ok (T.d.fact 114 (f := .exm "NoLetter" "ChairError" true) rfl)
theorem Txt.x_Twice (T : Txt K mg) : PySem.W.excIn K (He.ga K "Twice") He.veBase "ValueError.__new__" = true ∧ PySem.W.keepIn K (.ref (He.ga K "Twice")) = true ∧ PySem.W.subIn K (.ref (He.ga K "Twice")) (.type "BaseException") = some true ∧ PySem.W.typeIn K (.ref (He.ga K "Twice")) = some (.type "type") := He.exc_ok (T.d.fact 115 (f := .exc "Twice") rfl)
theorem Txt.e_Twice (T : Txt K mg) : PySem.W.exmOne K (.ref (He.ga K "Twice")) (.ref (He.ga K "ChairError")) = some true := He.exm_ok (T.d.fact 116 (f := .exm "Twice" "ChairError" true) rfl)
theorem Txt.x_Taken (T : Txt K mg) : PySem.W.excIn K (He.ga K "Taken") He.veBase "ValueError.__new__" = true ∧ PySem.W.keepIn K (.ref (He.ga K "Taken")) = true ∧ PySem.W.subIn K (.ref (He.ga K "Taken")) (.type "BaseException") = some true ∧ PySem.W.typeIn K (.ref (He.ga K "Taken")) = some (.type "type") := He.exc_ok (T.d.fact 117 (f := .exc "Taken") rfl)
theorem Txt.e_Taken (T : Txt K mg) : PySem.W.exmOne K (.ref (He.ga K "Taken")) (.ref (He.ga K "ChairError")) = some true := He.exm_ok (T.d.fact 118 (f := .exm "Taken" "ChairError" true) rfl)
theorem Txt.f_is_count (T : Txt K mg) : ∃ fd, FunD K "is_count" "is_count" (defArgs s_is_count) (defBody s_is_count) (defScope s_is_count) [] [] (He.fAd K ("is_count", none)) fd := T.d.def_ 0 (d := d_is_count) rfl
theorem Txt.f_is_name (T : Txt K mg) : ∃ fd, FunD K "is_name" "is_name" (defArgs s_is_name) (defBody s_is_name) (defScope s_is_name) [] [] (He.fAd K ("is_name", none)) fd := T.d.def_ 1 (d := d_is_name) rfl
theorem Txt.f_is_letter (T : Txt K mg) : ∃ fd, FunD K "is_letter" "is_letter" (defArgs s_is_letter) (defBody s_is_letter) (defScope s_is_letter) [] [] (He.fAd K ("is_letter", none)) fd := T.d.def_ 2 (d := d_is_letter) rfl
theorem Txt.f_Place_init (T : Txt K mg) : ∃ fd, FunD K "__init__" "Place.__init__" (defArgs s_Place_init) (defBody s_Place_init) (defScope s_Place_init) [] [] (He.fAd K ("Place", some "__init__")) fd := T.d.def_ 3 (d := d_Place_init) rfl
theorem Txt.f_House_init (T : Txt K mg) : ∃ fd, FunD K "__init__" "House.__init__" (defArgs s_House_init) (defBody s_House_init) (defScope s_House_init) [] [] (He.fAd K ("House", some "__init__")) fd := T.d.def_ 4 (d := d_House_init) rfl
theorem Txt.f_House_need_near (T : Txt K mg) : ∃ fd, FunD K "need_near" "House.need_near" (defArgs s_House_need_near) (defBody s_House_need_near) (defScope s_House_need_near) [] [] (He.fAd K ("House", some "need_near")) fd := T.d.def_ 5 (d := d_House_need_near) rfl
theorem Txt.f_House_tell (T : Txt K mg) : ∃ fd, FunD K "tell" "House.tell" (defArgs s_House_tell) (defBody s_House_tell) (defScope s_House_tell) [] [] (He.fAd K ("House", some "tell")) fd := T.d.def_ 6 (d := d_House_tell) rfl
theorem Txt.f_House_gone (T : Txt K mg) : ∃ fd, FunD K "gone" "House.gone" (defArgs s_House_gone) (defBody s_House_gone) (defScope s_House_gone) [] [] (He.fAd K ("House", some "gone")) fd := T.d.def_ 7 (d := d_House_gone) rfl
theorem Txt.f_House_deal (T : Txt K mg) : ∃ fd, FunD K "deal" "House.deal" (defArgs s_House_deal) (defBody s_House_deal) (defScope s_House_deal) [] [] (He.fAd K ("House", some "deal")) fd := T.d.def_ 8 (d := d_House_deal) rfl
theorem Txt.f_House_named (T : Txt K mg) : ∃ fd, FunD K "named" "House.named" (defArgs s_House_named) (defBody s_House_named) (defScope s_House_named) [] [] (He.fAd K ("House", some "named")) fd := T.d.def_ 9 (d := d_House_named) rfl
theorem Txt.f_House_given (T : Txt K mg) : ∃ fd, FunD K "given" "House.given" (defArgs s_House_given) (defBody s_House_given) (defScope s_House_given) [] [] (He.fAd K ("House", some "given")) fd := T.d.def_ 10 (d := d_House_given) rfl
theorem Txt.f_House_look (T : Txt K mg) : ∃ fd, FunD K "look" "House.look" (defArgs s_House_look) (defBody s_House_look) (defScope s_House_look) [] [] (He.fAd K ("House", some "look")) fd := T.d.def_ 11 (d := d_House_look) rfl
theorem Txt.f_House_look_at_all (T : Txt K mg) : ∃ fd, FunD K "look_at_all" "House.look_at_all" (defArgs s_House_look_at_all) (defBody s_House_look_at_all) (defScope s_House_look_at_all) [] [] (He.fAd K ("House", some "look_at_all")) fd := T.d.def_ 12 (d := d_House_look_at_all) rfl
theorem Txt.f_House_no_more_for (T : Txt K mg) : ∃ fd, FunD K "no_more_for" "House.no_more_for" (defArgs s_House_no_more_for) (defBody s_House_no_more_for) (defScope s_House_no_more_for) [] [] (He.fAd K ("House", some "no_more_for")) fd := T.d.def_ 13 (d := d_House_no_more_for) rfl
theorem Txt.f_House_put (T : Txt K mg) : ∃ fd, FunD K "put" "House.put" (defArgs s_House_put) (defBody s_House_put) (defScope s_House_put) [] [] (He.fAd K ("House", some "put")) fd := T.d.def_ 14 (d := d_House_put) rfl
theorem Txt.f_House_out (T : Txt K mg) : ∃ fd, FunD K "out" "House.out" (defArgs s_House_out) (defBody s_House_out) (defScope s_House_out) [] [] (He.fAd K ("House", some "out")) fd := T.d.def_ 15 (d := d_House_out) rfl
theorem Txt.f_House_resize (T : Txt K mg) : ∃ fd, FunD K "resize" "House.resize" (defArgs s_House_resize) (defBody s_House_resize) (defScope s_House_resize) [] [] (He.fAd K ("House", some "resize")) fd := T.d.def_ 16 (d := d_House_resize) rfl
theorem Txt.f_House_hear (T : Txt K mg) : ∃ fd, FunD K "hear" "House.hear" (defArgs s_House_hear) (defBody s_House_hear) (defScope s_House_hear) [] [] (He.fAd K ("House", some "hear")) fd := T.d.def_ 17 (d := d_House_hear) rfl
theorem Txt.f_House_look_behind (T : Txt K mg) : ∃ fd, FunD K "look_behind" "House.look_behind" (defArgs s_House_look_behind) (defBody s_House_look_behind) (defScope s_House_look_behind) [] [] (He.fAd K ("House", some "look_behind")) fd := T.d.def_ 18 (d := d_House_look_behind) rfl
theorem Txt.f_House_answer_for (T : Txt K mg) : ∃ fd, FunD K "answer_for" "House.answer_for" (defArgs s_House_answer_for) (defBody s_House_answer_for) (defScope s_House_answer_for) [] [] (He.fAd K ("House", some "answer_for")) fd := T.d.def_ 19 (d := d_House_answer_for) rfl
theorem Txt.f_House_close (T : Txt K mg) : ∃ fd, FunD K "close" "House.close" (defArgs s_House_close) (defBody s_House_close) (defScope s_House_close) [] [] (He.fAd K ("House", some "close")) fd := T.d.def_ 20 (d := d_House_close) rfl
theorem Txt.f_House_name (T : Txt K mg) : ∃ fd, FunD K "name" "House.name" (defArgs s_House_name) (defBody s_House_name) (defScope s_House_name) [] [] (He.fAd K ("House", some "name")) fd := T.d.def_ 21 (d := d_House_name) rfl
theorem Txt.f_House_room (T : Txt K mg) : ∃ fd, FunD K "room" "House.room" (defArgs s_House_room) (defBody s_House_room) (defScope s_House_room) [] [] (He.fAd K ("House", some "room")) fd := T.d.def_ 22 (d := d_House_room) rfl
theorem Txt.f_House_order (T : Txt K mg) : ∃ fd, FunD K "order" "House.order" (defArgs s_House_order) (defBody s_House_order) (defScope s_House_order) [] [] (He.fAd K ("House", some "order")) fd := T.d.def_ 23 (d := d_House_order) rfl
theorem Txt.f_House_word (T : Txt K mg) : ∃ fd, FunD K "word" "House.word" (defArgs s_House_word) (defBody s_House_word) (defScope s_House_word) [] [] (He.fAd K ("House", some "word")) fd := T.d.def_ 24 (d := d_House_word) rfl
theorem Txt.f_House_is_open (T : Txt K mg) : ∃ fd, FunD K "is_open" "House.is_open" (defArgs s_House_is_open) (defBody s_House_is_open) (defScope s_House_is_open) [] [] (He.fAd K ("House", some "is_open")) fd := T.d.def_ 25 (d := d_House_is_open) rfl
theorem Txt.f_House_cause (T : Txt K mg) : ∃ fd, FunD K "cause" "House.cause" (defArgs s_House_cause) (defBody s_House_cause) (defScope s_House_cause) [] [] (He.fAd K ("House", some "cause")) fd := T.d.def_ 26 (d := d_House_cause) rfl
theorem Txt.f_House_reason (T : Txt K mg) : ∃ fd, FunD K "reason" "House.reason" (defArgs s_House_reason) (defBody s_House_reason) (defScope s_House_reason) [] [] (He.fAd K ("House", some "reason")) fd := T.d.def_ 27 (d := d_House_reason) rfl
theorem Txt.f_House_heard_of (T : Txt K mg) : ∃ fd, FunD K "heard_of" "House.heard_of" (defArgs s_House_heard_of) (defBody s_House_heard_of) (defScope s_House_heard_of) [] [] (He.fAd K ("House", some "heard_of")) fd := T.d.def_ 28 (d := d_House_heard_of) rfl
theorem Txt.f_House_is_ahead (T : Txt K mg) : ∃ fd, FunD K "is_ahead" "House.is_ahead" (defArgs s_House_is_ahead) (defBody s_House_is_ahead) (defScope s_House_is_ahead) [] [] (He.fAd K ("House", some "is_ahead")) fd := T.d.def_ 29 (d := d_House_is_ahead) rfl
theorem Txt.f_House_awaited (T : Txt K mg) : ∃ fd, FunD K "awaited" "House.awaited" (defArgs s_House_awaited) (defBody s_House_awaited) (defScope s_House_awaited) [] [] (He.fAd K ("House", some "awaited")) fd := T.d.def_ 30 (d := d_House_awaited) rfl
theorem Txt.f_House_chairs (T : Txt K mg) : ∃ fd, FunD K "chairs" "House.chairs" (defArgs s_House_chairs) (defBody s_House_chairs) (defScope s_House_chairs) [] [] (He.fAd K ("House", some "chairs")) fd := T.d.def_ 31 (d := d_House_chairs) rfl
theorem Txt.f_House_owed (T : Txt K mg) : ∃ fd, FunD K "owed" "House.owed" (defArgs s_House_owed) (defBody s_House_owed) (defScope s_House_owed) [] [] (He.fAd K ("House", some "owed")) fd := T.d.def_ 32 (d := d_House_owed) rfl
theorem Txt.f_House_turns (T : Txt K mg) : ∃ fd, FunD K "turns" "House.turns" (defArgs s_House_turns) (defBody s_House_turns) (defScope s_House_turns) [] [] (He.fAd K ("House", some "turns")) fd := T.d.def_ 33 (d := d_House_turns) rfl
theorem Txt.f_L_pot (T : Txt K mg) : ∃ fd, FunD K "_law_pot" "_law_pot" (defArgs s_L_pot) (defBody s_L_pot) (defScope s_L_pot) [] [] (He.fAd K ("_law_pot", none)) fd := T.d.def_ 34 (d := d_L_pot) rfl
theorem Txt.f_L_dip (T : Txt K mg) : ∃ fd, FunD K "_law_dip" "_law_dip" (defArgs s_L_dip) (defBody s_L_dip) (defScope s_L_dip) [] [] (He.fAd K ("_law_dip", none)) fd := T.d.def_ 35 (d := d_L_dip) rfl
theorem Txt.f_L_names (T : Txt K mg) : ∃ fd, FunD K "_law_names" "_law_names" (defArgs s_L_names) (defBody s_L_names) (defScope s_L_names) [] [] (He.fAd K ("_law_names", none)) fd := T.d.def_ 36 (d := d_L_names) rfl
theorem Txt.f_L_done (T : Txt K mg) : ∃ fd, FunD K "_law_done" "_law_done" (defArgs s_L_done) (defBody s_L_done) (defScope s_L_done) [] [] (He.fAd K ("_law_done", none)) fd := T.d.def_ 37 (d := d_L_done) rfl
theorem Txt.f_L_what (T : Txt K mg) : ∃ fd, FunD K "_law_what" "_law_what" (defArgs s_L_what) (defBody s_L_what) (defScope s_L_what) [] [] (He.fAd K ("_law_what", none)) fd := T.d.def_ 38 (d := d_L_what) rfl
theorem Txt.f_L_new (T : Txt K mg) : ∃ fd, FunD K "_law_new" "_law_new" (defArgs s_L_new) (defBody s_L_new) (defScope s_L_new) [] [] (He.fAd K ("_law_new", none)) fd := T.d.def_ 39 (d := d_L_new) rfl
theorem Txt.f_L_given (T : Txt K mg) : ∃ fd, FunD K "_law_given" "_law_given" (defArgs s_L_given) (defBody s_L_given) (defScope s_L_given) [] [] (He.fAd K ("_law_given", none)) fd := T.d.def_ 40 (d := d_L_given) rfl
theorem Txt.f_L_look (T : Txt K mg) : ∃ fd, FunD K "_law_look" "_law_look" (defArgs s_L_look) (defBody s_L_look) (defScope s_L_look) [] [] (He.fAd K ("_law_look", none)) fd := T.d.def_ 41 (d := d_L_look) rfl
theorem Txt.f_L_look_all (T : Txt K mg) : ∃ fd, FunD K "_law_look_all" "_law_look_all" (defArgs s_L_look_all) (defBody s_L_look_all) (defScope s_L_look_all) [] [] (He.fAd K ("_law_look_all", none)) fd := T.d.def_ 42 (d := d_L_look_all) rfl
theorem Txt.f_L_paid (T : Txt K mg) : ∃ fd, FunD K "_law_paid" "_law_paid" (defArgs s_L_paid) (defBody s_L_paid) (defScope s_L_paid) [] [] (He.fAd K ("_law_paid", none)) fd := T.d.def_ 43 (d := d_L_paid) rfl
theorem Txt.f_L_put (T : Txt K mg) : ∃ fd, FunD K "_law_put" "_law_put" (defArgs s_L_put) (defBody s_L_put) (defScope s_L_put) [] [] (He.fAd K ("_law_put", none)) fd := T.d.def_ 44 (d := d_L_put) rfl
theorem Txt.f_L_out (T : Txt K mg) : ∃ fd, FunD K "_law_out" "_law_out" (defArgs s_L_out) (defBody s_L_out) (defScope s_L_out) [] [] (He.fAd K ("_law_out", none)) fd := T.d.def_ 45 (d := d_L_out) rfl
theorem Txt.f_L_behind (T : Txt K mg) : ∃ fd, FunD K "_law_behind" "_law_behind" (defArgs s_L_behind) (defBody s_L_behind) (defScope s_L_behind) [] [] (He.fAd K ("_law_behind", none)) fd := T.d.def_ 46 (d := d_L_behind) rfl
theorem Txt.f_L_hears (T : Txt K mg) : ∃ fd, FunD K "_law_hears" "_law_hears" (defArgs s_L_hears) (defBody s_L_hears) (defScope s_L_hears) [] [] (He.fAd K ("_law_hears", none)) fd := T.d.def_ 47 (d := d_L_hears) rfl
theorem Txt.f_L_did (T : Txt K mg) : ∃ fd, FunD K "_law_did" "_law_did" (defArgs s_L_did) (defBody s_L_did) (defScope s_L_did) [] [] (He.fAd K ("_law_did", none)) fd := T.d.def_ 48 (d := d_L_did) rfl
theorem Txt.f_L_reason (T : Txt K mg) : ∃ fd, FunD K "_law_reason" "_law_reason" (defArgs s_L_reason) (defBody s_L_reason) (defScope s_L_reason) [] [] (He.fAd K ("_law_reason", none)) fd := T.d.def_ 49 (d := d_L_reason) rfl
theorem Txt.f_L_told_alike (T : Txt K mg) : ∃ fd, FunD K "_law_told_alike" "_law_told_alike" (defArgs s_L_told_alike) (defBody s_L_told_alike) (defScope s_L_told_alike) [] [] (He.fAd K ("_law_told_alike", none)) fd := T.d.def_ 50 (d := d_L_told_alike) rfl
theorem Txt.f_L_alike (T : Txt K mg) : ∃ fd, FunD K "_law_alike" "_law_alike" (defArgs s_L_alike) (defBody s_L_alike) (defScope s_L_alike) [] [] (He.fAd K ("_law_alike", none)) fd := T.d.def_ 51 (d := d_L_alike) rfl
theorem Txt.f_L_long (T : Txt K mg) : ∃ fd, FunD K "_law_long" "_law_long" (defArgs s_L_long) (defBody s_L_long) (defScope s_L_long) [] [] (He.fAd K ("_law_long", none)) fd := T.d.def_ 52 (d := d_L_long) rfl
theorem Txt.f_L_next (T : Txt K mg) : ∃ fd, FunD K "_law_next" "_law_next" (defArgs s_L_next) (defBody s_L_next) (defScope s_L_next) [] [] (He.fAd K ("_law_next", none)) fd := T.d.def_ 53 (d := d_L_next) rfl
theorem Txt.f_L_right (T : Txt K mg) : ∃ fd, FunD K "_law_right" "_law_right" (defArgs s_L_right) (defBody s_L_right) (defScope s_L_right) [] [] (He.fAd K ("_law_right", none)) fd := T.d.def_ 54 (d := d_L_right) rfl
theorem Txt.f_law (T : Txt K mg) : ∃ fd, FunD K "law" "law" (defArgs s_law) (defBody s_law) (defScope s_law) [] [] (He.fAd K ("law", none)) fd := T.d.def_ 55 (d := d_law) rfl
theorem Txt.t_OPEN (T : Txt K mg) (H : Hp) : SqT K H (He.ga K "OPEN") [.str "open"] := He.tupB_ok (vs := [.str "open"]) (He.ba T.more).1 H
theorem Txt.t_HEARD (T : Txt K mg) (H : Hp) : SqT K H (He.ga K "HEARD") [.str "heard"] := He.tupB_ok (vs := [.str "heard"]) (He.ba (He.ba T.more).2).1 H
theorem Txt.t_CHAIR (T : Txt K mg) (H : Hp) : SqT K H (He.ga K "CHAIR") [.str "chair"] := He.tupB_ok (vs := [.str "chair"]) (He.ba (He.ba (He.ba T.more).2).2).1 H
theorem Txt.t_BACK (T : Txt K mg) (H : Hp) : SqT K H (He.ga K "BACK") [.str "back"] := He.tupB_ok (vs := [.str "back"]) (He.ba (He.ba (He.ba T.more).2).2).2 H
end
/-- a def with its promise, as callers use it -/
structure Ok (P : Program) (w : World) (K : PySem.W.Frag) (mg : Str → Option Value) (base : Heap) (CX : CXT) (k : Nat) (f : Addr) (ps : List Str) (sp : Sp) : Prop where
  ex : ∃ fd, FnOk P w K mg base CX k f fd ps sp ∧ Binds K fd ps [] ∧ PySem.W.keepIn K (.ref f) = true
section
variable {P : Program} {w : World} {K : PySem.W.Frag} {mg : Str → Option Value} {base : Heap}
/-- one def: nothing leaves it -/
theorem Ok.of {x qual : Str} {st : Stmt} {f : Addr} {N ps : List Str} {k : Nat} {sp : Sp} (F : ∃ fd, FunD K x qual (defArgs st) (defBody st) (defScope st) [] [] f fd) (S : FnScope N ps (defScope st))
    (bi : ∀ (kV doc pm : Value) (an : Option Addr) (cdv ct : Value) (us : List Value), us.length = ps.length → bindArgs (PySem.W.fnOf x qual (defArgs st) (defBody st) (defScope st) .none kV doc pm an cdv ct) ⟨us, []⟩ = pure (ps.zip us))
    (len : ∀ vs H Q E, sp vs H Q E → vs.length = ps.length)
    (hb : ∀ (cdv : Value) (A : Around) (outer : List Env) (s : Shared) (H : Hp) (vs : List V) (Q : VK) (E : XK), Room k (A.deeper (envOfC qual (defScope st) s.heap.objs.size f cdv)) → sp vs H Q E →
      ∃ t, PSs (cxOf CX0 P w K mg base N qual (defScope st) f cdv A outer s H E).nox (defBody st) t ∧ t { nx := fun _ H' => Q .non H', rt := Q } (start N vs) H) : Ok P w K mg base CX0 (k + 1) f ps sp := by
  obtain ⟨fd, F⟩ := F
  refine ⟨fd, F.ok S len fun cdv A outer s H vs Q E hr hsp => ?_, F.bindsN bi, F.kp⟩
  obtain ⟨t, h1, h2⟩ := hb cdv A outer s H vs Q E hr hsp
  exact ⟨t, h1.nox, h2⟩
/-- one def that may raise -/
theorem Ok.ofX {x qual : Str} {st : Stmt} {f : Addr} {N ps : List Str} {k : Nat} {sp : Sp} (F : ∃ fd, FunD K x qual (defArgs st) (defBody st) (defScope st) [] [] f fd) (S : FnScope N ps (defScope st))
    (bi : ∀ (kV doc pm : Value) (an : Option Addr) (cdv ct : Value) (us : List Value), us.length = ps.length → bindArgs (PySem.W.fnOf x qual (defArgs st) (defBody st) (defScope st) .none kV doc pm an cdv ct) ⟨us, []⟩ = pure (ps.zip us))
    (len : ∀ vs H Q E, sp vs H Q E → vs.length = ps.length)
    (hb : ∀ (cdv : Value) (A : Around) (outer : List Env) (s : Shared) (H : Hp) (vs : List V) (Q : VK) (E : XK), Room k (A.deeper (envOfC qual (defScope st) s.heap.objs.size f cdv)) → sp vs H Q E →
      ∃ t, PSs (cxOf (L2.CX P w) P w K mg base N qual (defScope st) f cdv A outer s H E) (defBody st) t ∧ t { nx := fun _ H' => Q .non H', rt := Q } (start N vs) H) : Ok P w K mg base (L2.CX P w) (k + 1) f ps sp := by
  obtain ⟨fd, F⟩ := F
  exact ⟨fd, F.ok S len hb, F.bindsN bi, F.kp⟩
end
end G
set_option Elab.async false
set_option linter.all false
set_option maxRecDepth 100000
set_option maxHeartbeats 4000000
/-! The mathematics: what a house is, and what its deeds and hearings do. No program in sight. -/
namespace G
open PySem

/-- a house's place for a guest: what was heard of the guest and as the how-manieth, the word, the number at its settling, whether it is open, by whom -/
structure Pl where
  told : Option (Str × Nat)
  mark : Option Str
  since : Nat
  opened : Bool
  source : Option Str
abbrev lWord (w : Str) : List Str := ["word", w]
abbrev lOpen : List Str := ["open"]
abbrev lHeard : List Str := ["heard"]
abbrev lChair : List Str := ["chair"]
abbrev lBack : List Str := ["back"]
def Pl.new : Pl := ⟨none, none, 0, false, none⟩
abbrev Turn_ := Str × Option Str × Option Str
abbrev Ltr := Str × List Str
structure S where
  own : Str
  size : Nat
  line : List Str
  pl : Str → Pl
  ears : Nat
  debts : Str → Option (List Str)
  away : List Str
  past : List Turn_
  going : List Ltr

def S.setPl (s : S) (g : Str) (p : Pl) : S := { s with pl := fun x => if x = g then p else s.pl x }
def S.setDebt (s : S) (g : Str) (d : Option (List Str)) : S := { s with debts := fun x => if x = g then d else s.debts x }
def S.say (s : S) (g : Str) (l : List Str) : S := { s with going := s.going ++ [(g, l)] }
def S.note (s : S) (g : Str) (w c : Option Str) : S := { s with past := s.past ++ [(g, w, c)] }
def S.new (own : Str) (size : Nat) : S := ⟨own, size, [], fun _ => Pl.new, 0, fun _ => none, [], [], []⟩

def front (s : S) (g : Str) : List Str := s.line.take (s.line.idxOf g)
def hit (w : Str) (upto : Option Nat) : Option (Str × Nat) → Bool
  | none => false
  | some (x, n) => decide (x = w) && (match upto with | none => true | some k => decide (n ≤ k))
/-- those ahead who were heard with a word (by a number) -/
def heardAs (s : S) (g w : Str) (upto : Option Nat) : List Str := (front s g).filter fun o => hit w upto (s.pl o).told
def upOf (s : S) (g : Str) (ahead : Bool) : Option Nat := if ahead then some (s.pl g).since else none
def named (s : S) (g w : Str) (ahead : Bool) : List Str := heardAs s g w (upOf s g ahead)
def givenBy (s : S) (g : Str) (upto : Option Nat) : Option Str :=
  if s.size ≤ (heardAs s g "in" upto).length then some "barred"
  else if (s.line.idxOf g : Int) - (heardAs s g "out" upto).length < s.size then some "clear" else none
def given (s : S) (g : Str) (ahead : Bool) : Option Str := givenBy s g (upOf s g ahead)

def giveUp (s : S) (g : Str) (c : Option Str) : S :=
  ((s.setPl g { (s.pl g) with mark := none, opened := true, source := c }).note g none c).say g lOpen
def settle (s : S) (g m : Str) : S :=
  ((s.setPl g { (s.pl g) with mark := some m, since := s.ears }).note g (some m) none).say g (lWord m)
def look (s : S) (g : Str) (c : Option Str) : S × Bool :=
  if (s.pl g).opened = true then (s, false)
  else match (s.pl g).mark with
    | some m => if given s g true = some m then (s, false) else (giveUp s g c, true)
    | none => match given s g false with
      | none => (s, false)
      | some m => (settle s g m, false)
/-- looks at some places, in order; who was given up -/
def lookStep (c : Option Str) (a : S × List Str) (g : Str) : S × List Str := ((look a.1 g c).1, if (look a.1 g c).2 then a.2 ++ [g] else a.2)
def lookN (s : S) (c : Option Str) (l : List Str) : S × List Str := l.foldl (lookStep c) (s, [])
def lookAll (s : S) : S := (lookN s none s.line).1
def behind (s : S) (g : Str) : List Str := s.line.drop (s.line.idxOf g + 1)

def pay (g : Str) (s : S) (o : Str) : S := match s.debts o with
  | none => s
  | some ds => if g ∈ ds then (if ds.filter (fun x => decide (x ≠ g)) = [] then (s.setDebt o none).say o lHeard else s.setDebt o (some (ds.filter fun x => decide (x ≠ g)))) else s
def noMore (s : S) (g : Str) : S := s.line.foldl (pay g) s

def dealOne (s : S) (g : Str) : S :=
  if hit "in" none (s.pl g).told = true ∧ g ∉ s.away ∧ s.away.length < s.size then { s with away := s.away ++ [g], going := s.going ++ [(g, lChair)] } else s
def deal (s : S) : S := s.line.foldl dealOne s
/-- what is told: all letters that went -/
def gone (s : S) : S × List Ltr := ({ (deal s) with going := [] }, (deal s).going)

def putIn (s : S) (g : Str) (k : Nat) : S := { (s.setPl g Pl.new) with line := s.line.take k ++ [g] ++ s.line.drop k }
def without (s : S) (g : Str) : S := { s with
  line := s.line.erase g
  pl := fun x => if (s.pl x).source = some g then { (s.pl x) with source := none } else s.pl x
  debts := fun x => if x = g then none else s.debts x
  away := s.away.filter fun x => decide (x ≠ g) }

/-- what a house may do or hear -/
inductive What where
  | put (g : Str) (k : Nat)
  | out (g : Str)
  | room (n : Nat)
  | hear (g : Str) (l : List Str)

def hearWord (s : S) (g w : Str) : S := (lookN { (s.setPl g { (s.pl g) with told := some (w, s.ears + 1) }) with ears := s.ears + 1 } (some g) (behind s g)).1
def hearOpen (s : S) (g : Str) : S :=
  let r := lookN (s.setPl g { (s.pl g) with told := none }) (some g) (behind s g)
  if r.2 = [] then r.1.say g lHeard else r.1.setDebt g (some r.2)
def close (s : S) (g : Str) : S := noMore (look (s.setPl g { (s.pl g) with opened := false, source := none }) g none).1 g
def back (s : S) (g : Str) : S := { s with away := s.away.filter fun x => decide (x ≠ g) }

/-- ahead of the chairs that go out; none: refused -/
def act (s : S) : What → Option S
  | .put g k => if g = s.own ∨ g ∈ s.line then none else if s.line.length < k then none else some (lookAll (putIn s g k))
  | .out g => if g ∈ s.line then some (noMore (lookAll (without s g)) g) else none
  | .room n => if n < s.away.length then none else some (lookAll { s with size := n })
  | .hear g l => if g ∈ s.line then
      (if (l = lWord "in" ∨ l = lWord "out") then
        (if (s.pl g).told = none ∧ s.debts g = none then some (hearWord s g (l.getD 1 "")) else none)
      else if l = lOpen then (if (s.pl g).told = none then none else some (hearOpen s g))
      else if l = lHeard then (if (s.pl g).opened = true then some (close s g) else none)
      else if l = lBack then (if g ∈ s.away then some (back s g) else none)
      else none) else none
def deed (s : S) (w : What) : Option (S × List Ltr) := (act s w).map gone
theorem deed_room (s : S) (n : Nat) : deed s (.room n) = if n < s.away.length then none else some (gone (lookAll { s with size := n })) := by
  show (if n < s.away.length then none else some (lookAll { s with size := n }) : Option S).map gone = _
  split <;> rfl
theorem deed_put (s : S) (g : Str) (k : Nat) : deed s (.put g k) = if g = s.own ∨ g ∈ s.line then none else if s.line.length < k then none else some (gone (lookAll (putIn s g k))) := by
  show (if g = s.own ∨ g ∈ s.line then none else if s.line.length < k then none else some (lookAll (putIn s g k)) : Option S).map gone = _
  split
  · rfl
  · split <;> rfl
theorem deed_out (s : S) (g : Str) : deed s (.out g) = if g ∈ s.line then some (gone (noMore (lookAll (without s g)) g)) else none := by
  show (if g ∈ s.line then some (noMore (lookAll (without s g)) g) else none : Option S).map gone = _
  split <;> rfl
theorem deed_hear (s : S) (g : Str) (l : List Str) : deed s (.hear g l) = (act s (.hear g l)).map gone := rfl
theorem deed_hear_no (s : S) (g : Str) (l : List Str) (h : g ∉ s.line) : deed s (.hear g l) = none := by
  show (if g ∈ s.line then _ else none : Option S).map gone = none
  rw [if_neg h]; rfl
theorem deed_word (s : S) (g w : Str) (hg : g ∈ s.line) (hw : w = "in" ∨ w = "out") : deed s (.hear g (lWord w)) = if (s.pl g).told = none ∧ s.debts g = none then some (gone (hearWord s g w)) else none := by
  have e : act s (.hear g (lWord w)) = if (s.pl g).told = none ∧ s.debts g = none then some (hearWord s g w) else none := by
    show (if g ∈ s.line then _ else none : Option S) = _
    rw [if_pos hg]
    have c : lWord w = lWord "in" ∨ lWord w = lWord "out" := hw.imp (fun z => by rw [z]) fun z => by rw [z]
    rw [if_pos c]
    rfl
  rw [deed_hear, e]
  split <;> rfl
theorem deed_clear (s : S) (g : Str) (hg : g ∈ s.line) : deed s (.hear g (lWord "clear")) = none := by
  have e : act s (.hear g (lWord "clear")) = none := by
    show (if g ∈ s.line then _ else none : Option S) = _
    rw [if_pos hg, if_neg (by decide), if_neg (by decide), if_neg (by decide), if_neg (by decide)]
  rw [deed_hear, e]; rfl
theorem deed_chair (s : S) (g : Str) (hg : g ∈ s.line) : deed s (.hear g lChair) = none := by
  have e : act s (.hear g lChair) = none := by
    show (if g ∈ s.line then _ else none : Option S) = _
    rw [if_pos hg, if_neg (by decide), if_neg (by decide), if_neg (by decide), if_neg (by decide)]
  rw [deed_hear, e]; rfl
theorem deed_open (s : S) (g : Str) (hg : g ∈ s.line) : deed s (.hear g lOpen) = if (s.pl g).told = none then none else some (gone (hearOpen s g)) := by
  have e : act s (.hear g lOpen) = if (s.pl g).told = none then none else some (hearOpen s g) := by
    show (if g ∈ s.line then _ else none : Option S) = _
    rw [if_pos hg, if_neg (by decide), if_pos rfl]
  rw [deed_hear, e]
  split <;> rfl
theorem deed_heard (s : S) (g : Str) (hg : g ∈ s.line) : deed s (.hear g lHeard) = if (s.pl g).opened = true then some (gone (close s g)) else none := by
  have e : act s (.hear g lHeard) = if (s.pl g).opened = true then some (close s g) else none := by
    show (if g ∈ s.line then _ else none : Option S) = _
    rw [if_pos hg, if_neg (by decide), if_neg (by decide), if_pos rfl]
  rw [deed_hear, e]
  split <;> rfl
theorem deed_back (s : S) (g : Str) (hg : g ∈ s.line) : deed s (.hear g lBack) = if g ∈ s.away then some (gone (back s g)) else none := by
  have e : act s (.hear g lBack) = if g ∈ s.away then some (back s g) else none := by
    show (if g ∈ s.line then _ else none : Option S) = _
    rw [if_pos hg, if_neg (by decide), if_neg (by decide), if_neg (by decide), if_pos rfl]
  rw [deed_hear, e]
  split <;> rfl
end G
set_option Elab.async false
set_option linter.all false
set_option maxRecDepth 100000
set_option maxHeartbeats 4000000
/-! How a house stands in the heap: each object of an owner has a role; unlike roles, unlike addresses. -/
namespace G
open PySem PySem.Spec PyProof.Rows L2

inductive R where
  | self | line | places | debts | away | past | going | heard | word | ats | opens
  | place (g : Str) | debt (g : Str)
  deriving DecidableEq
abbrev Rl := Addr → Option (Nat × R)
def setR (rl : Rl) (a : Addr) (v : Option (Nat × R)) : Rl := fun b => if b = a then v else rl b
theorem setR_same {rl : Rl} {a : Addr} {v : Option (Nat × R)} : setR rl a v a = v := if_pos rfl
theorem setR_ne {rl : Rl} {a b : Addr} {v : Option (Nat × R)} (h : b ≠ a) : setR rl a v b = rl b := if_neg h
def isTup : HO → Prop
  | .tup _ => True
  | _ => False
structure C (rl : Rl) (H : Hp) (i : Nat) (r : R) (a : Addr) (o : HO) : Prop where
  r : rl a = some (i, r)
  h : H a = some o
/-- tuples stay -/
def TK (H H' : Hp) : Prop := ∀ b xs, H b = some (.tup xs) → H' b = some (.tup xs)
theorem sameTk {H H' : Hp} (e : Same H H') : TK H H' := fun b xs h => e b _ h
theorem TK.trans {H H1 H2 : Hp} (a : TK H H1) (b : TK H1 H2) : TK H H2 := fun c xs h => b c xs (a c xs h)
theorem TK.refl (H : Hp) : TK H H := fun _ _ h => h
theorem tk_upd {H : Hp} {a : Addr} {o : HO} (h : ∀ xs, H a ≠ some (.tup xs)) : TK H (upd H a o) := fun b xs e => by
  rw [upd_ne fun z => h xs (by rw [← z]; exact e)]; exact e
theorem same_upd {H : Hp} {a : Addr} {o : HO} (h : H a = none) : Same H (upd H a o) := fun b u e => by
  rw [upd_ne (ne_of_none e h)]; exact e
theorem Same.upd {H H' : Hp} {a : Addr} {o : HO} (k : Same H H') (h : H' a = none) : Same H (upd H' a o) := k.trans (same_upd h)

structure Step (i : Nat) (rl : Rl) (H : Hp) (rl' : Rl) (H' : Hp) : Prop where
  keep : ∀ b o, H b = some o → ((∀ r, rl b ≠ some (i, r)) ∨ isTup o) → H' b = some o
  role : ∀ b, H b ≠ none → (∀ r, rl b ≠ some (i, r)) → rl' b = rl b
  live : ∀ b, H b ≠ none → H' b ≠ none
section
variable {i j : Nat} {rl rl' rl'' : Rl} {H H' H'' : Hp} {a b : Addr} {o u : HO} {r q : R}
theorem Step.refl : Step i rl H rl H := ⟨fun _ _ h _ => h, fun _ _ _ => rfl, fun _ h => h⟩
theorem Step.was_free (s : Step i rl H rl' H') (h : H' b = none) : H b = none := by
  cases e : H b with
  | none => rfl
  | some o => exact absurd h (s.live b (by rw [e]; simp))
theorem live_upd (h : H b ≠ none) {o' : HO} : L2.upd H a o' b ≠ none := by
  by_cases e : b = a
  · rw [e, upd_same]; simp
  · rw [upd_ne e]; exact h
theorem Step.tk (s : Step i rl H rl' H') : TK H H' := fun b xs h => s.keep b _ h (.inr trivial)
theorem Step.trans (s : Step i rl H rl' H') (t : Step i rl' H' rl'' H'') : Step i rl H rl'' H'' := by
  refine ⟨fun b o h k => ?_, fun b h k => ?_, fun b h => t.live b (s.live b h)⟩
  · rcases k with k | k
    · have h1 := s.keep b o h (.inl k)
      have e := s.role b (by rw [h]; simp) k
      exact t.keep b o h1 (.inl fun r => by rw [e]; exact k r)
    · exact t.keep b o (s.keep b o h (.inr k)) (.inr k)
  · obtain ⟨o, ho⟩ := Option.ne_none_iff_exists'.mp h
    have h1 := s.keep b o ho (.inl k)
    have e := s.role b h k
    rw [t.role b (by rw [h1]; simp) fun r => by rw [e]; exact k r, e]
theorem Step.same (s : Same H H') : Step i rl H rl H' := ⟨fun b o h _ => s b o h, fun _ _ _ => rfl, fun b h => by
  obtain ⟨o, ho⟩ := Option.ne_none_iff_exists'.mp h
  rw [s b o ho]; simp⟩
theorem Step.thenSame (s : Step i rl H rl' H') (t : Same H' H'') : Step i rl H rl' H'' := s.trans (Step.same t)
theorem C.ne (x : C rl H i r a o) (y : C rl H' j q b u) (d : (i, r) ≠ (j, q)) : a ≠ b := fun e => by
  have h1 := x.r
  rw [e, y.r] at h1
  exact d (Option.some.inj h1).symm
theorem C.same (x : C rl H i r a o) (s : Same H H') : C rl H' i r a o := ⟨x.r, s _ _ x.h⟩
theorem C.step (x : C rl H j r a o) (s : Step i rl H rl' H') (d : j ≠ i) : C rl' H' j r a o := by
  have k : ∀ q, rl a ≠ some (i, q) := fun q e => by
    rw [x.r] at e
    exact d (congrArg Prod.fst (Option.some.inj e))
  exact ⟨by rw [s.role a (by rw [x.h]; simp) k]; exact x.r, s.keep a o x.h (.inl k)⟩
theorem C.upd (x : C rl H i r a o) (y : C rl H' j q b u) (d : (i, r) ≠ (j, q)) {o' : HO} : C rl (upd H b o') i r a o := ⟨x.r, by rw [upd_ne (x.ne y d)]; exact x.h⟩
theorem C.put (x : C rl H i r a o) {o' : HO} : C rl (L2.upd H a o') i r a o' := ⟨x.r, upd_same⟩
theorem C.fresh (x : C rl H i r a o) (h : H b = none) {o' : HO} : C rl (L2.upd H b o') i r a o := x.same (same_upd h)
theorem C.role (x : C rl H i r a o) (h : H b = none) {v : Option (Nat × R)} : C (setR rl b v) H i r a o := ⟨by rw [setR_ne (ne_of_none x.h h)]; exact x.r, x.h⟩
theorem C.drop (x : C rl H i r a o) (y : C rl H' j q b u) (d : (i, r) ≠ (j, q)) {v : Option (Nat × R)} : C (setR rl b v) H i r a o := ⟨by rw [setR_ne (x.ne y d)]; exact x.r, x.h⟩
theorem C.own {o' : HO} : C (setR rl b (some (i, r))) (L2.upd H b o') i r b o' := ⟨setR_same, upd_same⟩
theorem C.tup (x : C rl H i r a o) (n : ¬ isTup o) : ∀ xs, H a ≠ some (.tup xs) := fun xs e => by
  rw [x.h] at e; cases e; exact n trivial
theorem Step.write (x : C rl H i r a o) (n : ¬ isTup o) {o' : HO} : Step i rl H rl (L2.upd H a o') := by
  refine ⟨fun b u h k => ?_, fun _ _ _ => rfl, fun b h => live_upd h⟩
  have hb : b ≠ a := fun e => by
    subst e
    rcases k with k | k
    · exact k r x.r
    · rw [x.h] at h; cases h; exact n k
  rw [upd_ne hb]; exact h
theorem Step.own (h : H b = none) {o' : HO} {v : Option (Nat × R)} : Step i rl H (setR rl b v) (L2.upd H b o') :=
  ⟨fun c u e _ => same_upd h c u e, fun c hc _ => setR_ne fun e => hc (by rw [e]; exact h), fun b h => live_upd h⟩
theorem Step.drop (x : C rl H i r a o) {v : Option (Nat × R)} : Step i rl H (setR rl a v) H :=
  ⟨fun c u e _ => e, fun c hc k => setR_ne fun e => k r (by rw [e]; exact x.r), fun _ h => h⟩
/-- roles may be given to what is not tracked -/
theorem Step.claim (h : H b = none) {v : Option (Nat × R)} : Step i rl H (setR rl b v) H :=
  ⟨fun c u e _ => e, fun c hc _ => setR_ne fun e => hc (by rw [e]; exact h), fun _ h => h⟩
/-- what was made since, and has no role, may be written -/
theorem Step.side (s : Step i rl H rl' H') (h : H b = none) {o' : HO} : Step i rl H rl' (L2.upd H' b o') :=
  ⟨fun c u e k => by rw [upd_ne (ne_of_none e h)]; exact s.keep c u e k, s.role, fun c e => live_upd (s.live c e)⟩
theorem Step.give (s : Step i rl H rl' H') (h : H b = none) {v : Option (Nat × R)} : Step i rl H (setR rl' b v) H' :=
  ⟨s.keep, fun c hc k => by rw [setR_ne fun e => hc (by rw [e]; exact h)]; exact s.role c hc k, s.live⟩
theorem C.give (x : C rl H i r a o) (h : ∀ q, rl b ≠ some (i, q)) {v : Option (Nat × R)} : C (setR rl b v) H i r a o :=
  ⟨by rw [setR_ne fun e => h r (by rw [← e]; exact x.r)]; exact x.r, x.h⟩
theorem C.side (x : C rl H i r a o) (h : rl b = none) {o' : HO} : C rl (L2.upd H b o') i r a o :=
  ⟨x.r, by rw [upd_ne fun e => by have z := x.r; rw [e, h] at z; cases z]; exact x.h⟩
end

/-! ### values -/
def oV : Option Str → V
  | none => .non
  | some x => .str x
def Told (H : Hp) (tv : V) : Option (Str × Nat) → Prop
  | none => tv = .non
  | some (x, n) => ∃ t, tv = .ref t ∧ H t = some (.tup [.str x, .int n])
theorem Told.tk {H H' : Hp} {tv : V} {t : Option (Str × Nat)} (h : Told H tv t) (k : TK H H') : Told H' tv t := by
  cases t with
  | none => exact h
  | some p => obtain ⟨a, e, q⟩ := h; exact ⟨a, e, k _ _ q⟩
def TurnV (H : Hp) (x : Turn_) (v : V) : Prop := ∃ t, v = .ref t ∧ H t = some (.tup [.str x.1, oV x.2.1, oV x.2.2])
/-- a tuple of texts: tracked, or of the written part -/
def StrT (K : PySem.W.Frag) (H : Hp) (u : Addr) (l : List Str) : Prop := H u = some (.tup (l.map .str)) ∨ ∀ H', SqT K H' u (l.map .str)
theorem StrT.sq {K : PySem.W.Frag} {H : Hp} {u : Addr} {l : List Str} (h : StrT K H u l) : SqT K H u (l.map .str) := by
  rcases h with h | h
  · exact SqT.of h
  · exact h H
theorem StrT.tk {K : PySem.W.Frag} {H H' : Hp} {u : Addr} {l : List Str} (h : StrT K H u l) (k : TK H H') : StrT K H' u l := h.imp (k _ _) id
def LtrV (K : PySem.W.Frag) (H : Hp) (x : Ltr) (v : V) : Prop := ∃ t u, v = .ref t ∧ H t = some (.tup [.str x.1, .ref u]) ∧ StrT K H u x.2
theorem TurnV.tk {H H' : Hp} {x : Turn_} {v : V} (h : TurnV H x v) (k : TK H H') : TurnV H' x v := by
  obtain ⟨t, e, q⟩ := h; exact ⟨t, e, k _ _ q⟩
theorem LtrV.tk {K : PySem.W.Frag} {H H' : Hp} {x : Ltr} {v : V} (h : LtrV K H x v) (k : TK H H') : LtrV K H' x v := by
  obtain ⟨t, u, e, q, z⟩ := h; exact ⟨t, u, e, k _ _ q, z.tk k⟩
theorem paired_snoc {α β : Type} {F : α → β → Prop} : ∀ {l : List α} {m : List β} {a : α} {b : β}, Paired F l m → F a b → Paired F (l ++ [a]) (m ++ [b])
  | _, _, _, _, .nil, h => .cons h .nil
  | _, _, _, _, .cons x t, h => .cons x (paired_snoc t h)

/-! ### a house's objects -/
def hfs (own : Str) (size : Nat) (l pb : Addr) (ears : Nat) (db aw pa go : Addr) : List (Str × V) :=
  [("own", .str own), ("size", .int size), ("line", .ref l), ("places_by", .ref pb), ("ears", .int ears), ("debts", .ref db), ("away", .ref aw), ("past", .ref pa), ("going", .ref go)]
def pfs (tv : V) (p : Pl) : List (Str × V) := [("told", tv), ("mark", oV p.mark), ("since", .int p.since), ("opened", .bl p.opened), ("source", oV p.source)]
def awk (l : List Str) : List (Key × V) := l.map fun g => (.inr g, .bl true)
structure HA where
  dx : Addr
  l : Addr
  pb : Addr
  db : Addr
  aw : Addr
  pa : Addr
  go : Addr
  kp : List (Key × V)
  kd : List (Key × V)
  vp : List V
  vg : List V
/-- the place of g: its object at a -/
structure PlAt (CP : Addr) (rl : Rl) (H : Hp) (i : Nat) (h : HA) (g : Str) (p : Pl) (a dxa : Addr) (tv : V) : Prop where
  v : valV h.kp (.inr g) = some (.ref a)
  c : C rl H i (.place g) a (.ins CP dxa (pfs tv p))
  t : Told H tv p.told
def DebtV (rl : Rl) (H : Hp) (i : Nat) (g : Str) (v : Option V) : Option (List Str) → Prop
  | none => v = none
  | some ds => ∃ a, v = some (.ref a) ∧ C rl H i (.debt g) a (.lst (ds.map .str))
def Debts (rl : Rl) (H : Hp) (i : Nat) (kd : List (Key × V)) (d : Str → Option (List Str)) : Prop := ∀ g, DebtV rl H i g (valV kd (.inr g)) (d g)
/-- how much there may be of each -/
structure Few (b : Nat) (s : S) : Prop where
  line : s.line.length ≤ b
  away : s.away.length ≤ b
  past : s.past.length ≤ b
  going : s.going.length ≤ b
  debts : ∀ g ds, s.debts g = some ds → ds.length ≤ b
structure House (K : PySem.W.Frag) (i : Nat) (rl : Rl) (H : Hp) (p : Addr) (b : Nat) (s : S) (h : HA) : Prop where
  self : C rl H i .self p (.ins (CH K) h.dx (hfs s.own s.size h.l h.pb s.ears h.db h.aw h.pa h.go))
  line : C rl H i .line h.l (.lst (s.line.map .str))
  pb : C rl H i .places h.pb (.dK h.kp)
  pl : ∀ g, g ∈ s.line → ∃ a dxa tv, PlAt (CP K) rl H i h g (s.pl g) a dxa tv
  pn : ∀ g, g ∉ s.line → valV h.kp (.inr g) = none
  db : C rl H i .debts h.db (.dK h.kd)
  de : Debts rl H i h.kd s.debts
  aw : C rl H i .away h.aw (.dK (awk s.away))
  pa : C rl H i .past h.pa (.lst h.vp)
  pv : Paired (TurnV H) s.past h.vp
  go : C rl H i .going h.go (.lst h.vg)
  gv : Paired (LtrV K H) s.going h.vg
  few : Few b s
  kpl : h.kp.length ≤ b
  kdl : h.kd.length ≤ b

theorem Few.mono {b c : Nat} {s : S} (f : Few b s) (h : b ≤ c) : Few c s :=
  ⟨Nat.le_trans f.line h, Nat.le_trans f.away h, Nat.le_trans f.past h, Nat.le_trans f.going h, fun g ds e => Nat.le_trans (f.debts g ds e) h⟩
section
variable {K : PySem.W.Frag} {i j : Nat} {rl rl' : Rl} {H H' : Hp} {p : Addr} {b c : Nat} {s : S} {h : HA}
theorem House.mono (x : House K i rl H p b s h) (l : b ≤ c) : House K i rl H p c s h :=
  { x with few := x.few.mono l, kpl := Nat.le_trans x.kpl l, kdl := Nat.le_trans x.kdl l }
theorem PlAt.tr {CP : Addr} {g : Str} {q : Pl} {a dxa : Addr} {tv : V} (x : PlAt CP rl H i h g q a dxa tv) (f : ∀ r a o, C rl H i r a o → C rl' H' i r a o) (k : TK H H') : PlAt CP rl' H' i h g q a dxa tv := ⟨x.v, f _ _ _ x.c, x.t.tk k⟩
theorem Debts.tr {kd : List (Key × V)} {d : Str → Option (List Str)} (x : Debts rl H i kd d) (f : ∀ r a o, C rl H i r a o → C rl' H' i r a o) : Debts rl' H' i kd d := fun g => by
  have q := x g
  cases e : d g with
  | none => rw [e] at q; exact q
  | some ds =>
    rw [e] at q
    obtain ⟨a, e1, e2⟩ := q
    exact ⟨a, e1, f _ _ _ e2⟩
/-- what keeps all of an owner's objects keeps the house -/
theorem House.tr (x : House K i rl H p b s h) (f : ∀ r a o, C rl H i r a o → C rl' H' i r a o) (k : TK H H') : House K i rl' H' p b s h where
  self := f _ _ _ x.self
  line := f _ _ _ x.line
  pb := f _ _ _ x.pb
  pl := fun g hg => let ⟨a, d, tv, q⟩ := x.pl g hg; ⟨a, d, tv, q.tr f k⟩
  pn := x.pn
  db := f _ _ _ x.db
  de := x.de.tr f
  aw := f _ _ _ x.aw
  pa := f _ _ _ x.pa
  pv := L2.Paired.mapP x.pv fun _ _ q => q.tk k
  go := f _ _ _ x.go
  gv := L2.Paired.mapP x.gv fun _ _ q => q.tk k
  few := x.few
  kpl := x.kpl
  kdl := x.kdl
theorem House.same (x : House K i rl H p b s h) (k : Same H H') : House K i rl H' p b s h := x.tr (fun _ _ _ q => q.same k) (sameTk k)
theorem House.step (x : House K j rl H p b s h) (k : Step i rl H rl' H') (d : j ≠ i) : House K j rl' H' p b s h := x.tr (fun _ _ _ q => q.step k d) k.tk
end
end G
set_option Elab.async false
set_option linter.all false
set_option maxRecDepth 100000
set_option maxHeartbeats 4000000
/-! What a write does to a house that stands in the heap. -/
namespace G
open PySem PySem.Spec PyProof.Rows L2
section
variable {K : PySem.W.Frag} {i j : Nat} {rl rl' : Rl} {H H' : Hp} {p : Addr} {b c : Nat} {s : S} {h : HA}

theorem House.say (x : House K i rl H p b s h) {v : V} {g : Str} {l : List Str} (q : LtrV K H (g, l) v) :
    House K i rl (upd H h.go (.lst (h.vg ++ [v]))) p (b + 1) (s.say g l) { h with vg := h.vg ++ [v] } := by
  have f : ∀ r a o, (i, r) ≠ (i, .going) → C rl H i r a o → C rl (upd H h.go (.lst (h.vg ++ [v]))) i r a o := fun r a o d z => z.upd x.go d
  have k : TK H (upd H h.go (.lst (h.vg ++ [v]))) := tk_upd (x.go.tup fun z => z)
  exact {
    self := f _ _ _ (by intro e; cases e) x.self
    line := f _ _ _ (by intro e; cases e) x.line
    pb := f _ _ _ (by intro e; cases e) x.pb
    pl := fun g hg => let ⟨a, d, tv, z⟩ := x.pl g hg; ⟨a, d, tv, z.v, f _ _ _ (by intro e; cases e) z.c, z.t.tk k⟩
    pn := x.pn
    db := f _ _ _ (by intro e; cases e) x.db
    de := fun g => by
      have z := x.de g
      show DebtV _ _ _ _ _ (s.debts g)
      cases e : s.debts g with
      | none => rw [e] at z; exact z
      | some ds =>
        rw [e] at z
        obtain ⟨a, e1, e2⟩ := z
        exact ⟨a, e1, f _ _ _ (by intro e; cases e) e2⟩
    aw := f _ _ _ (by intro e; cases e) x.aw
    pa := f _ _ _ (by intro e; cases e) x.pa
    pv := L2.Paired.mapP x.pv fun _ _ z => z.tk k
    go := x.go.put
    gv := paired_snoc (L2.Paired.mapP x.gv fun _ _ z => z.tk k) (q.tk k)
    few := ⟨Nat.le_succ_of_le x.few.line, Nat.le_succ_of_le x.few.away, Nat.le_succ_of_le x.few.past, by
      show (s.going ++ [(g, l)]).length ≤ _
      rw [List.length_append]; exact Nat.succ_le_succ x.few.going, fun g ds e => Nat.le_succ_of_le (x.few.debts g ds e)⟩
    kpl := Nat.le_succ_of_le x.kpl
    kdl := Nat.le_succ_of_le x.kdl }
theorem House.note (x : House K i rl H p b s h) {v : V} {g : Str} {m n : Option Str} (q : TurnV H (g, m, n) v) :
    House K i rl (upd H h.pa (.lst (h.vp ++ [v]))) p (b + 1) (s.note g m n) { h with vp := h.vp ++ [v] } := by
  have f : ∀ r a o, (i, r) ≠ (i, .past) → C rl H i r a o → C rl (upd H h.pa (.lst (h.vp ++ [v]))) i r a o := fun r a o d z => z.upd x.pa d
  have k : TK H (upd H h.pa (.lst (h.vp ++ [v]))) := tk_upd (x.pa.tup fun z => z)
  exact {
    self := f _ _ _ (by intro e; cases e) x.self
    line := f _ _ _ (by intro e; cases e) x.line
    pb := f _ _ _ (by intro e; cases e) x.pb
    pl := fun g hg => let ⟨a, d, tv, z⟩ := x.pl g hg; ⟨a, d, tv, z.v, f _ _ _ (by intro e; cases e) z.c, z.t.tk k⟩
    pn := x.pn
    db := f _ _ _ (by intro e; cases e) x.db
    de := fun g => by
      have z := x.de g
      show DebtV _ _ _ _ _ (s.debts g)
      cases e : s.debts g with
      | none => rw [e] at z; exact z
      | some ds =>
        rw [e] at z
        obtain ⟨a, e1, e2⟩ := z
        exact ⟨a, e1, f _ _ _ (by intro e; cases e) e2⟩
    aw := f _ _ _ (by intro e; cases e) x.aw
    go := f _ _ _ (by intro e; cases e) x.go
    gv := L2.Paired.mapP x.gv fun _ _ z => z.tk k
    pa := x.pa.put
    pv := paired_snoc (L2.Paired.mapP x.pv fun _ _ z => z.tk k) (q.tk k)
    few := ⟨Nat.le_succ_of_le x.few.line, Nat.le_succ_of_le x.few.away, by
      show (s.past ++ [(g, m, n)]).length ≤ _
      rw [List.length_append]; exact Nat.succ_le_succ x.few.past, Nat.le_succ_of_le x.few.going, fun g ds e => Nat.le_succ_of_le (x.few.debts g ds e)⟩
    kpl := Nat.le_succ_of_le x.kpl
    kdl := Nat.le_succ_of_le x.kdl }
/-- the place's fields -/
theorem House.setPl (x : House K i rl H p b s h) {g : Str} {q q' : Pl} {a dxa : Addr} {tv tv' : V} (y : PlAt (CP K) rl H i h g q a dxa tv) (t : Told H tv' q'.told) :
    House K i rl (upd H a (.ins (CP K) dxa (pfs tv' q'))) p b (s.setPl g q') h ∧ PlAt (CP K) rl (upd H a (.ins (CP K) dxa (pfs tv' q'))) i h g q' a dxa tv' := by
  have f : ∀ r a' o, (i, r) ≠ (i, .place g) → C rl H i r a' o → C rl (upd H a (.ins (CP K) dxa (pfs tv' q'))) i r a' o := fun r a' o d z => z.upd y.c d
  have k : TK H (upd H a (.ins (CP K) dxa (pfs tv' q'))) := tk_upd (y.c.tup fun z => z)
  have new : PlAt (CP K) rl (upd H a (.ins (CP K) dxa (pfs tv' q'))) i h g q' a dxa tv' := ⟨y.v, y.c.put, t.tk k⟩
  refine ⟨?_, new⟩
  exact {
    self := f _ _ _ (by intro e; cases e) x.self
    line := f _ _ _ (by intro e; cases e) x.line
    pb := f _ _ _ (by intro e; cases e) x.pb
    pl := fun g' hg => by
      by_cases e : g' = g
      · subst e
        refine ⟨a, dxa, tv', ?_⟩
        show PlAt _ _ _ _ _ _ (if g' = g' then q' else s.pl g') _ _ _
        rw [if_pos rfl]; exact new
      · obtain ⟨a', d, tv2, z⟩ := x.pl g' hg
        refine ⟨a', d, tv2, ?_⟩
        show PlAt _ _ _ _ _ _ (if g' = g then q' else s.pl g') _ _ _
        rw [if_neg e]
        exact ⟨z.v, f _ _ _ (by intro z; cases z; exact e rfl) z.c, z.t.tk k⟩
    pn := x.pn
    db := f _ _ _ (by intro e; cases e) x.db
    de := fun g' => by
      have z := x.de g'
      show DebtV _ _ _ _ _ (s.debts g')
      cases e : s.debts g' with
      | none => rw [e] at z; exact z
      | some ds =>
        rw [e] at z
        obtain ⟨a', e1, e2⟩ := z
        exact ⟨a', e1, f _ _ _ (by intro e; cases e) e2⟩
    aw := f _ _ _ (by intro e; cases e) x.aw
    pa := f _ _ _ (by intro e; cases e) x.pa
    pv := L2.Paired.mapP x.pv fun _ _ z => z.tk k
    go := f _ _ _ (by intro e; cases e) x.go
    gv := L2.Paired.mapP x.gv fun _ _ z => z.tk k
    few := ⟨x.few.line, x.few.away, x.few.past, x.few.going, x.few.debts⟩
    kpl := x.kpl
    kdl := x.kdl }
/-- the house's own fields -/
theorem House.setSelf (x : House K i rl H p b s h) {fs : List (Str × V)} {s' : S} {h' : HA}
    (e1 : fs = hfs s'.own s'.size h'.l h'.pb s'.ears h'.db h'.aw h'.pa h'.go) (l : h'.l = h.l) (l1 : h'.pb = h.pb) (l2 : h'.db = h.db) (l3 : h'.aw = h.aw) (l4 : h'.pa = h.pa) (l5 : h'.go = h.go) (l6 : h'.kp = h.kp) (l7 : h'.kd = h.kd) (l8 : h'.vp = h.vp) (l9 : h'.vg = h.vg) (l10 : h'.dx = h.dx)
    (z1 : s'.line = s.line) (z2 : s'.pl = s.pl) (z3 : s'.debts = s.debts) (z4 : s'.away = s.away) (z5 : s'.past = s.past) (z6 : s'.going = s.going) : House K i rl (upd H p (.ins (CH K) h.dx fs)) p b s' h' := by
  obtain ⟨dx, l_, pb_, db_, aw_, pa_, go_, kp_, kd_, vp_, vg_⟩ := h
  obtain ⟨dx', l_', pb_', db_', aw_', pa_', go_', kp_', kd_', vp_', vg_'⟩ := h'
  obtain ⟨o', si', li', pl', ea', de', aw', pa', go'⟩ := s'
  dsimp only at *
  subst l l1 l2 l3 l4 l5 l6 l7 l8 l9 l10 z1 z2 z3 z4 z5 z6 e1
  have f : ∀ r a' o, (i, r) ≠ (i, .self) → C rl H i r a' o → C rl (upd H p (.ins (CH K) dx' (hfs o' si' l_' pb_' ea' db_' aw_' pa_' go_'))) i r a' o := fun r a' o d z => z.upd x.self d
  have k : TK H (upd H p (.ins (CH K) dx' (hfs o' si' l_' pb_' ea' db_' aw_' pa_' go_'))) := tk_upd (x.self.tup fun z => z)
  exact {
    self := x.self.put
    line := f _ _ _ (by intro e; cases e) x.line
    pb := f _ _ _ (by intro e; cases e) x.pb
    pl := fun g hg => let ⟨a, d, tv, z⟩ := x.pl g hg; ⟨a, d, tv, z.v, f _ _ _ (by intro e; cases e) z.c, z.t.tk k⟩
    pn := x.pn
    db := f _ _ _ (by intro e; cases e) x.db
    de := fun g' => by
      have z := x.de g'
      show DebtV _ _ _ _ _ (s.debts g')
      cases e : s.debts g' with
      | none => rw [e] at z; exact z
      | some ds =>
        rw [e] at z
        obtain ⟨a', e1, e2⟩ := z
        exact ⟨a', e1, f _ _ _ (by intro e; cases e) e2⟩
    aw := f _ _ _ (by intro e; cases e) x.aw
    pa := f _ _ _ (by intro e; cases e) x.pa
    pv := L2.Paired.mapP x.pv fun _ _ z => z.tk k
    go := f _ _ _ (by intro e; cases e) x.go
    gv := L2.Paired.mapP x.gv fun _ _ z => z.tk k
    few := ⟨x.few.line, x.few.away, x.few.past, x.few.going, x.few.debts⟩
    kpl := x.kpl
    kdl := x.kdl }
/-- a new list of letters, empty -/
theorem House.clear (x : House K i rl H p b s h) {a : Addr} (ha : H a = none) :
    House K i (setR (setR rl h.go none) a (some (i, .going))) (upd (upd H a (.lst [])) p (.ins (CH K) h.dx (hfs s.own s.size h.l h.pb s.ears h.db h.aw h.pa a))) p b { s with going := [] } { h with go := a, vg := [] } := by
  have f : ∀ r a' o, (i, r) ≠ (i, .self) → (i, r) ≠ (i, .going) → C rl H i r a' o → C (setR (setR rl h.go none) a (some (i, .going))) (upd (upd H a (.lst [])) p (.ins (CH K) h.dx (hfs s.own s.size h.l h.pb s.ears h.db h.aw h.pa a))) i r a' o := fun r a' o d d2 z => by
    have z1 := ((z.drop x.go d2 (v := none)).role ha (v := some (i, R.going))).fresh ha (o' := .lst [])
    exact ⟨z1.r, by rw [upd_ne (z.ne x.self d)]; exact z1.h⟩
  have hp : p ≠ a := ne_of_none x.self.h ha
  have k : TK H (upd (upd H a (.lst [])) p (.ins (CH K) h.dx (hfs s.own s.size h.l h.pb s.ears h.db h.aw h.pa a))) := (sameTk (same_upd ha)).trans (tk_upd fun xs e => by
    rw [upd_ne hp, x.self.h] at e; cases e)
  exact {
    self := ⟨by
      rw [setR_ne hp, setR_ne (x.self.ne x.go (by intro e; cases e))]; exact x.self.r, upd_same⟩
    line := f _ _ _ (by intro e; cases e) (by intro e; cases e) x.line
    pb := f _ _ _ (by intro e; cases e) (by intro e; cases e) x.pb
    pl := fun g hg => let ⟨a, d, tv, z⟩ := x.pl g hg; ⟨a, d, tv, z.v, f _ _ _ (by intro e; cases e) (by intro e; cases e) z.c, z.t.tk k⟩
    pn := x.pn
    db := f _ _ _ (by intro e; cases e) (by intro e; cases e) x.db
    de := fun g' => by
      have z := x.de g'
      show DebtV _ _ _ _ _ (s.debts g')
      cases e : s.debts g' with
      | none => rw [e] at z; exact z
      | some ds =>
        rw [e] at z
        obtain ⟨a', e1, e2⟩ := z
        exact ⟨a', e1, f _ _ _ (by intro e; cases e) (by intro e; cases e) e2⟩
    aw := f _ _ _ (by intro e; cases e) (by intro e; cases e) x.aw
    pa := f _ _ _ (by intro e; cases e) (by intro e; cases e) x.pa
    pv := L2.Paired.mapP x.pv fun _ _ z => z.tk k
    go := ⟨setR_same, by rw [upd_ne hp.symm]; exact upd_same⟩
    gv := .nil
    few := ⟨x.few.line, x.few.away, x.few.past, Nat.zero_le _, x.few.debts⟩
    kpl := x.kpl
    kdl := x.kdl }
theorem House.clearStep (x : House K i rl H p b s h) {a : Addr} (ha : H a = none) {fs : List (Str × V)} :
    Step i rl H (setR (setR rl h.go none) a (some (i, .going))) (upd (upd H a (.lst [])) p (.ins (CH K) h.dx fs)) := by
  have s1 : Step i rl H (setR rl h.go none) H := Step.drop x.go
  have s2 : Step i (setR rl h.go none) H (setR (setR rl h.go none) a (some (i, .going))) (upd H a (.lst [])) := Step.own ha
  have y : C (setR (setR rl h.go none) a (some (i, R.going))) (upd H a (.lst [])) i .self p (.ins (CH K) h.dx (hfs s.own s.size h.l h.pb s.ears h.db h.aw h.pa h.go)) :=
    ((x.self.drop x.go (by intro e; cases e)).role ha).fresh ha
  exact (s1.trans s2).trans (Step.write y fun z => z)
/-- away changes -/
theorem House.setAway (x : House K i rl H p b s h) {l : List Str} (hl : l.length ≤ c) (hbc : b ≤ c) : House K i rl (upd H h.aw (.dK (awk l))) p c { s with away := l } h := by
  have f : ∀ r a' o, (i, r) ≠ (i, .away) → C rl H i r a' o → C rl (upd H h.aw (.dK (awk l))) i r a' o := fun r a' o d z => z.upd x.aw d
  have k : TK H (upd H h.aw (.dK (awk l))) := tk_upd (x.aw.tup fun z => z)
  exact {
    self := f _ _ _ (by intro e; cases e) x.self
    line := f _ _ _ (by intro e; cases e) x.line
    pb := f _ _ _ (by intro e; cases e) x.pb
    pl := fun g hg => let ⟨a, d, tv, z⟩ := x.pl g hg; ⟨a, d, tv, z.v, f _ _ _ (by intro e; cases e) z.c, z.t.tk k⟩
    pn := x.pn
    db := f _ _ _ (by intro e; cases e) x.db
    de := fun g' => by
      have z := x.de g'
      show DebtV _ _ _ _ _ (s.debts g')
      cases e : s.debts g' with
      | none => rw [e] at z; exact z
      | some ds =>
        rw [e] at z
        obtain ⟨a', e1, e2⟩ := z
        exact ⟨a', e1, f _ _ _ (by intro e; cases e) e2⟩
    aw := x.aw.put
    pa := f _ _ _ (by intro e; cases e) x.pa
    pv := L2.Paired.mapP x.pv fun _ _ z => z.tk k
    go := f _ _ _ (by intro e; cases e) x.go
    gv := L2.Paired.mapP x.gv fun _ _ z => z.tk k
    few := ⟨Nat.le_trans x.few.line hbc, hl, Nat.le_trans x.few.past hbc, Nat.le_trans x.few.going hbc, fun g ds e => Nat.le_trans (x.few.debts g ds e) hbc⟩
    kpl := Nat.le_trans x.kpl hbc
    kdl := Nat.le_trans x.kdl hbc }
end
end G
namespace G
open PySem PySem.Spec PyProof.Rows L2
theorem valV_drop {κ : Type} [DecidableEq κ] (k j : κ) : ∀ kvs : List (κ × V), valV (dropK kvs k) j = if j = k then none else valV kvs j
  | [] => by
    show none = _
    split <;> rfl
  | p :: r => by
    have ih := valV_drop k j r
    by_cases e : p.1 = k
    · rw [dropK_pos e, ih]
      by_cases h : j = k
      · rw [if_pos h, if_pos h]
      · rw [if_neg h, if_neg h, valV_neg (fun z => h (z.symm.trans e))]
    · rw [dropK_neg e]
      by_cases q : p.1 = j
      · rw [valV_pos q, valV_pos q, if_neg (fun z => e (q.trans z))]
      · rw [valV_neg q, valV_neg q, ih]
section
variable {K : PySem.W.Frag} {i j : Nat} {rl rl' : Rl} {H H' : Hp} {p : Addr} {b c : Nat} {s : S} {h : HA}
/-- what is owed to o is now l, a list that nobody has -/
theorem House.setDebt (x : House K i rl H p b s h) {o : Str} {l : List Str} {a : Addr} (ra : ∀ q, rl a ≠ some (i, q)) (ha : H a = some (.lst (l.map .str))) (hl : l.length ≤ b) :
    House K i (setR rl a (some (i, .debt o))) (upd H h.db (.dK (putK h.kd (.inr o) (.ref a)))) p (b + 1) (s.setDebt o (some l)) { h with kd := putK h.kd (.inr o) (.ref a) } := by
  have f : ∀ r a' u, (i, r) ≠ (i, .debts) → C rl H i r a' u → C (setR rl a (some (i, .debt o))) (upd H h.db (.dK (putK h.kd (.inr o) (.ref a)))) i r a' u := fun r a' u d z => (z.upd x.db d).give ra
  have k : TK H (upd H h.db (.dK (putK h.kd (.inr o) (.ref a)))) := tk_upd (x.db.tup fun z => z)
  have hab : a ≠ h.db := fun e => ra _ (by rw [e]; exact x.db.r)
  exact {
    self := f _ _ _ (by intro e; cases e) x.self
    line := f _ _ _ (by intro e; cases e) x.line
    pb := f _ _ _ (by intro e; cases e) x.pb
    pl := fun g hg => let ⟨a, d, tv, z⟩ := x.pl g hg; ⟨a, d, tv, z.v, f _ _ _ (by intro e; cases e) z.c, z.t.tk k⟩
    pn := x.pn
    db := x.db.put.give ra
    de := fun g => by
      show DebtV _ _ _ _ (valV (putK h.kd (.inr o) (.ref a)) (.inr g)) (if g = o then some l else s.debts g)
      rw [valV_put]
      by_cases e : g = o
      · subst e
        rw [if_pos rfl, if_pos rfl]
        exact ⟨a, rfl, setR_same, by rw [upd_ne hab]; exact ha⟩
      · rw [if_neg e, if_neg fun z => e (Sum.inr.inj z)]
        have z := x.de g
        cases eg : s.debts g with
        | none => rw [eg] at z; exact z
        | some ds =>
          rw [eg] at z
          obtain ⟨a', e1, e2⟩ := z
          exact ⟨a', e1, f _ _ _ (by intro e; cases e) e2⟩
    aw := f _ _ _ (by intro e; cases e) x.aw
    pa := f _ _ _ (by intro e; cases e) x.pa
    pv := L2.Paired.mapP x.pv fun _ _ z => z.tk k
    go := f _ _ _ (by intro e; cases e) x.go
    gv := L2.Paired.mapP x.gv fun _ _ z => z.tk k
    few := ⟨Nat.le_succ_of_le x.few.line, Nat.le_succ_of_le x.few.away, Nat.le_succ_of_le x.few.past, Nat.le_succ_of_le x.few.going, fun g ds e => by
      have e' : (if g = o then some l else s.debts g) = some ds := e
      by_cases q : g = o
      · rw [if_pos q] at e'
        cases e'; omega
      · rw [if_neg q] at e'
        exact Nat.le_succ_of_le (x.few.debts g ds e')⟩
    kpl := Nat.le_succ_of_le x.kpl
    kdl := Nat.le_trans (length_putK _ _ _) (Nat.succ_le_succ x.kdl) }
theorem House.delDebt (x : House K i rl H p b s h) {o : Str} :
    House K i rl (upd H h.db (.dK (dropK h.kd (.inr o)))) p b (s.setDebt o none) { h with kd := dropK h.kd (.inr o) } := by
  have f : ∀ r a' u, (i, r) ≠ (i, .debts) → C rl H i r a' u → C rl (upd H h.db (.dK (dropK h.kd (.inr o)))) i r a' u := fun r a' u d z => z.upd x.db d
  have k : TK H (upd H h.db (.dK (dropK h.kd (.inr o)))) := tk_upd (x.db.tup fun z => z)
  exact {
    self := f _ _ _ (by intro e; cases e) x.self
    line := f _ _ _ (by intro e; cases e) x.line
    pb := f _ _ _ (by intro e; cases e) x.pb
    pl := fun g hg => let ⟨a, d, tv, z⟩ := x.pl g hg; ⟨a, d, tv, z.v, f _ _ _ (by intro e; cases e) z.c, z.t.tk k⟩
    pn := x.pn
    db := x.db.put
    de := fun g => by
      show DebtV _ _ _ _ (valV (dropK h.kd (.inr o)) (.inr g)) (if g = o then none else s.debts g)
      rw [valV_drop]
      by_cases e : g = o
      · rw [if_pos e, if_pos (congrArg Sum.inr e)]; rfl
      · rw [if_neg e, if_neg fun z => e (Sum.inr.inj z)]
        have z := x.de g
        cases eg : s.debts g with
        | none => rw [eg] at z; exact z
        | some ds =>
          rw [eg] at z
          obtain ⟨a', e1, e2⟩ := z
          exact ⟨a', e1, f _ _ _ (by intro e; cases e) e2⟩
    aw := f _ _ _ (by intro e; cases e) x.aw
    pa := f _ _ _ (by intro e; cases e) x.pa
    pv := L2.Paired.mapP x.pv fun _ _ z => z.tk k
    go := f _ _ _ (by intro e; cases e) x.go
    gv := L2.Paired.mapP x.gv fun _ _ z => z.tk k
    few := ⟨x.few.line, x.few.away, x.few.past, x.few.going, fun g ds e => by
      have e' : (if g = o then none else s.debts g) = some ds := e
      by_cases q : g = o
      · rw [if_pos q] at e'; cases e'
      · rw [if_neg q] at e'
        exact x.few.debts g ds e'⟩
    kpl := x.kpl
    kdl := Nat.le_trans (dropK_le _ _) x.kdl }
end
end G
set_option Elab.async false
set_option linter.all false
set_option maxRecDepth 100000
set_option maxHeartbeats 4000000
/-! Comprehensions that only read; small lemmas. -/
namespace G
open PySem PySem.Spec PyProof.Rows L2
theorem take_succ_at {α : Type} {l : List α} {i : Nat} {x : α} (h : l[i]? = some x) : l.take (i + 1) = l.take i ++ [x] := by
  rw [List.take_succ, h]; rfl
/-- [e for x in l if t], the parts only read: what is kept is l.filter p, each made f x -/
theorem lc_pure {α : Type} {J : It} {G : Hp → Prop} {Y : Nat → Hp → V → Hp → Prop} {tt : TT} {te : TE} {vs : List Nat} {σ : L2.St} {H1 : Hp} {D : Addr} {Qd : Hp → Prop}
    (sl : Nat) (l : List α) (mk : α → V) (p : α → Bool) (f : α → V) (w : Walk J l.length G Y) (hY : ∀ i H v H', Y i H v H' → H' = H ∧ ∃ x, l[i]? = some x ∧ v = mk x) (hD : H1 D = none) (hz : l.length < sizeLine) (hG : ∀ H, Same H1 H → G H)
    (hw : ∀ v, wipe ((wipe σ vs).set sl (some v)) vs = wipe σ vs)
    (ht : ∀ x H (k : Bool → Hp → Prop), x ∈ l → Same H1 H → (∀ H', Same H H' → k (p x) H') → tt ((wipe σ vs).set sl (some (mk x))) H k)
    (he : ∀ x H (k : VK), x ∈ l → p x = true → Same H1 H → (∀ H', Same H H' → k (f x) H') → te ((wipe σ vs).set sl (some (mk x))) H k)
    (hd : ∀ H, Same H1 H → H D = some (.lst ((l.filter p).map f)) → Qd H) :
    ∃ W : Nat → Nat → Hp → Prop, (∃ m, W 0 m (upd H1 D (.lst []))) ∧ ∀ i m H, W i m H →
      (J.stop i H ∧ Qd H) ∨ (J.go i H ∧ ∃ Nx : Hp → Prop, (∀ H', Nx H' → ∃ m', m' < m ∧ W (i + 1) m' H') ∧ ∀ x H', J.yld i H x H' → gName sl x (wipe σ vs) H' fun σ2 H2 => wipe σ2 vs = wipe σ vs ∧ tt σ2 H2 fun b H3 =>
        if b = true then te σ2 H3 fun y H4 => ∃ acc, H4 D = some (.lst acc) ∧ acc.length < sizeLine ∧ Nx (upd H4 D (.lst (acc ++ [y]))) else Nx H3) := by
  refine lc_it w (fun i H => Same H1 H ∧ H D = some (.lst (((l.take i).filter p).map f))) ⟨same_upd hD, upd_same⟩ (fun i H _ h => hG H h.1) ?_ (fun H h => hd H h.1 ?_)
  · rintro i v H H' hi ⟨s1, h1⟩ y
    obtain ⟨rfl, x, hx, rfl⟩ := hY _ _ _ _ y
    have hm : x ∈ l := List.mem_of_getElem? hx
    refine ⟨hw _, ht x _ _ hm s1 fun H2 s2 => ?_⟩
    have t1 := take_succ_at hx
    cases e : p x with
    | false =>
      refine iteF ⟨s1.trans s2, ?_⟩
      rw [t1, List.filter_append, List.filter_cons, if_neg (by rw [e]; exact Bool.false_ne_true), List.filter_nil, List.append_nil]
      exact s2 _ _ h1
    | true =>
      refine iteT (he x _ _ hm e (s1.trans s2) fun H3 s3 => ⟨_, s3 _ _ (s2 _ _ h1), ?_, fun b o hb => ?_, ?_⟩)
      · rw [List.length_map]
        have a1 := List.length_filter_le p (l.take i)
        have a2 := List.length_take_le i l
        omega
      · have hbD : b ≠ D := ne_of_none hb hD
        rw [upd_ne hbD]
        exact s3 _ _ (s2 _ _ (s1 _ _ hb))
      · rw [upd_same, t1, List.filter_append, List.filter_cons, if_pos e, List.filter_nil, List.map_append]
        rfl
  · rw [← List.take_length (l := l)]; exact h.2
theorem yat_str (l : List Str) : ∀ i H v H', YAt (l.map V.str) i H v H' → H' = H ∧ ∃ x, l[i]? = some x ∧ v = V.str x := fun i H v H' ⟨e, h⟩ => by
  rw [List.getElem?_map] at h
  obtain ⟨x, hx, e2⟩ := Option.map_eq_some_iff.mp h
  exact ⟨e, x, hx, e2.symm⟩
theorem walk_strs {K : PySem.W.Frag} {a : Addr} (l : List Str) : Walk (Itl K a) l.length (fun H => SqL K H a (l.map V.str)) (YAt (l.map V.str)) := by
  have w := walk_list (K := K) (a := a) (xs := l.map V.str)
  rw [List.length_map] at w
  exact w
theorem walk_strsT {K : PySem.W.Frag} {a : Addr} (l : List Str) : Walk (Itt K a) l.length (fun H => SqT K H a (l.map V.str)) (YAt (l.map V.str)) := by
  have w := walk_tup (K := K) (a := a) (xs := l.map V.str)
  rw [List.length_map] at w
  exact w
theorem walk_signs (z : Str) : Walk (Its z) z.cps.toList.length (fun _ => True) (fun i H v H' => H' = H ∧ ∃ c, z.cps.toList[i]? = some c ∧ v = .str ⟨#[c]⟩) := by
  have w := walk_str (z := z)
  rw [Array.length_toList]
  exact w.mono (fun _ h => h) fun i H x H' _ _ ⟨e, c, h1, h2⟩ => ⟨e, c, by simpa using h1, h2⟩
theorem smallSz {n : Nat} (h : n ≤ 4000000) : n < sizeLine := by rw [sizeLine_eq]; omega
end G
set_option Elab.async false
set_option linter.all false
set_option maxRecDepth 100000
set_option maxHeartbeats 4000000
namespace G
open PySem PySem.Spec PyProof.Rows L2
section
variable {P : Program} {w : World} {K : PySem.W.Frag} {mg : Str → Option Value} {base : Heap}

/-! ### is_count -/
def spIsCount : Sp := fun vs H Q _ => ∃ i : Int, vs = [.int i] ∧ Q (.bl (decide (0 ≤ i))) H
theorem sc_is_count : FnScope ["thing"] ["thing"] (defScope s_is_count) := ⟨rfl, rfl, rfl, by decide +kernel, rfl, by decide +kernel, by decide +kernel⟩
theorem ok_is_count (T : Txt K mg) : Ok P w K mg base CX0 1 (He.fAd K ("is_count", none)) ["thing"] spIsCount := by
  refine Ok.of T.f_is_count sc_is_count (fun _ _ _ _ _ _ us hl => match us, hl with | [_], _ => rfl) (fun vs H Q E h => by obtain ⟨i, rfl, _⟩ := h; rfl) (fun cdv A outer s H vs Q E hr h => ?_)
  obtain ⟨i, rfl, q⟩ := h
  refine ⟨_, pss_one (ps_ret (pe_and (pe_callB call_isi (by rfl) T.n_isinstance (by decide +kernel) (pa_cons (pv 0) (pa_cons (pe_bltn (by rfl) T.n_int (by decide +kernel) (v := .ty "int") rfl) pa_nil)))
    (pe_and (pe_not (pe_callB call_isi (by rfl) T.n_isinstance (by decide +kernel) (pa_cons (pv 0) (pa_cons (pe_bltn (by rfl) T.n_bool (by decide +kernel) (v := .ty "bool") rfl) pa_nil))))
    (pe_one (pe_cmpR op_ge (pv 0) pe_int (nomark _)))))), ?_⟩
  refine ⟨_, rfl, .int i, .ty "int", .type "int", .type "int", true, rfl, .ty _, .base (.int i), kit_ty (by decide +kernel), true, rfl, iteT ?_⟩
  refine ⟨_, rfl, .int i, .ty "bool", .type "int", .type "bool", false, rfl, .ty _, .base (.int i), kit_ty (by decide +kernel), false, rfl, true, rfl, iteT ?_⟩
  exact ⟨_, rfl, _, _, rfl, rfl, q⟩

/-! ### is_name -/
def abcS : Str := "abcdefghijklmnopqrstuvwxyz"
def isNm (z : Str) : Bool := decide ((1 : Int) ≤ z.length) && (decide ((z.length : Int) ≤ 8) && z.cps.toList.all fun c => decide (c ∈ abcS.cps.toList))
def spIsName : Sp := fun vs H Q _ => ∃ z : Str, vs = [.str z] ∧ z.length ≤ 1000 ∧ ∀ H', Same H H' → Q (.bl (isNm z)) H'
theorem sc_is_name : FnScope ["thing", "sign"] ["thing"] (defScope s_is_name) := ⟨rfl, rfl, rfl, by decide +kernel, rfl, by decide +kernel, by decide +kernel⟩
theorem all_map {α : Type} (f : α → Bool) : ∀ l : List α, (l.map f).all id = l.all f
  | [] => rfl
  | x :: l => by rw [List.map_cons, List.all_cons, List.all_cons, all_map f l]; rfl
theorem ok_is_name (T : Txt K mg) : Ok P w K mg base CX0 1 (He.fAd K ("is_name", none)) ["thing"] spIsName := by
  refine Ok.of T.f_is_name sc_is_name (fun _ _ _ _ _ _ us hl => match us, hl with | [_], _ => rfl) (fun vs H Q E h => by obtain ⟨i, rfl, _⟩ := h; rfl) (fun cdv A outer s H vs Q E hr h => ?_)
  obtain ⟨z, rfl, hz, q⟩ := h
  obtain ⟨tl, hl⟩ := T.c_LETTERS
  obtain ⟨tm, hm⟩ := T.c_MOST_LETTERS
  refine ⟨_, pss_one (ps_ret (pe_and (pe_callB call_isi (by rfl) T.n_isinstance (by decide +kernel) (pa_cons (pv 0) (pa_cons (pe_bltn (by rfl) T.n_str (by decide +kernel) (v := .ty "str") rfl) pa_nil)))
    (pe_and (pe_chain op_le op_le pe_int (pe_callB call_len_str (by rfl) T.n_len PySem.boot_len (pa_cons (pv 0) pa_nil)) (pe_glob (v := .int 8) rfl hm ⟨tm, rfl⟩))
    (pe_one (pe_callB (cr_all rfl) (by rfl) T.n_all (by decide +kernel) (pa_cons (pe_lc (own := [("sign", 1)]) (g := gName 1) (tt := tYes) rfl sc_is_name.nd (pi_str (pv 0)) (blkOk_by (N := ["thing", "sign"]) (sc := defScope s_is_name) (by decide +kernel))
      (fun _ _ _ _ _ => pg_name (i := 1) sc_is_name.nd rfl (Or.inl rfl)) (fun _ _ _ _ _ => pts_nil) (fun _ _ _ _ _ => pe_cmpR op_in_sign (pv 1) (pe_glob (v := .str abcS) rfl hl ⟨tl, rfl⟩) (by rfl))) pa_nil)))))), ?_⟩
  refine ⟨_, rfl, .str z, .ty "str", .type "str", .type "str", true, rfl, .ty _, .base (.str z), kit_ty (by decide +kernel), true, rfl, iteT ?_⟩
  refine ⟨_, rfl, z, rfl, (by rw [sizeLine_eq]; omega), _, _, rfl, rfl, _, rfl, ?_⟩
  unfold isNm at q
  cases e1 : decide ((1 : Int) ≤ (z.length : Int)) with
  | false =>
    rw [e1] at q
    exact iteF ⟨false, rfl, iteF (q H (Same.refl H))⟩
  | true =>
    rw [e1] at q
    refine iteT ⟨_, _, rfl, rfl, _, rfl, ?_⟩
    cases e2 : decide ((z.length : Int) ≤ 8) with
    | false =>
      rw [e2] at q
      exact iteF (q H (Same.refl H))
    | true =>
      rw [e2] at q
      refine iteT ⟨_, rfl, z, rfl, fun D hD => ?_⟩
      refine lc_pure 1 z.cps.toList (fun c => V.str ⟨#[c]⟩) (fun _ => true) (fun c => V.bl (decide (c ∈ abcS.cps.toList))) (walk_signs z) (fun i H v H' h => h) hD ?_ (fun _ _ => trivial) (fun _ => rfl) (fun x H k _ s1 hk => hk H (Same.refl H)) ?_ ?_
      · have : z.cps.toList.length = z.length := by simp [PySem.Str.length]
        rw [this]; exact smallSz (by omega)
      · intro x H2 k _ _ _ hk
        exact ⟨_, rfl, x, abcS, rfl, rfl, hk H2 (Same.refl H2)⟩
      · intro H2 s2 h2
        have e3 : (z.cps.toList.filter fun _ => true) = z.cps.toList := List.filter_eq_self.mpr fun _ _ => rfl
        rw [e3] at h2
        refine ⟨D, z.cps.toList.map fun c => decide (c ∈ abcS.cps.toList), rfl, SqL.of ?_, ?_⟩
        · rw [h2, List.map_map]; rfl
        · rw [all_map]; exact q H2 s2

/-! ### is_letter -/
def ltrs : List (List Str) := [lOpen, lHeard, lBack, lChair, lWord "in", lWord "out", lWord "clear"]
def spIsLetter : Sp := fun vs H Q _ => ∃ (a : Addr) (l : List Str), vs = [.ref a] ∧ H a = some (.tup (l.map .str)) ∧ l ∈ ltrs ∧ ∀ H', Same H H' → Q (.bl true) H'
theorem sc_is_letter : FnScope ["thing", "part"] ["thing"] (defScope s_is_letter) := ⟨rfl, rfl, rfl, by decide +kernel, rfl, by decide +kernel, by decide +kernel⟩
theorem ltr_shape {l : List Str} (h : l ∈ ltrs) : (∃ x, l = [x] ∧ [x] ∈ [lOpen, lHeard, lChair, lBack]) ∨ ∃ y : Str, l = lWord y ∧ y ∈ (["in", "out", "clear", "barred"] : List Str) := by
  simp only [ltrs, List.mem_cons, List.mem_nil_iff, or_false] at h
  rcases h with rfl | rfl | rfl | rfl | rfl | rfl | rfl
  · exact .inl ⟨_, rfl, by simp⟩
  · exact .inl ⟨_, rfl, by simp⟩
  · exact .inl ⟨_, rfl, by simp⟩
  · exact .inl ⟨_, rfl, by simp⟩
  · exact .inr ⟨_, rfl, by simp⟩
  · exact .inr ⟨_, rfl, by simp⟩
  · exact .inr ⟨_, rfl, by simp⟩
theorem ok_is_letter (T : Txt K mg) : Ok P w K mg base CX0 1 (He.fAd K ("is_letter", none)) ["thing"] spIsLetter := by
  refine Ok.of T.f_is_letter sc_is_letter (fun _ _ _ _ _ _ us hl => match us, hl with | [_], _ => rfl) (fun vs H Q E h => by obtain ⟨a, l, rfl, _⟩ := h; rfl) (fun cdv A outer s H vs Q E hr h => ?_)
  obtain ⟨a, l, rfl, ha, hl, q⟩ := h
  obtain ⟨t1, c1⟩ := T.c_WORD
  obtain ⟨t2, c2⟩ := T.c_IN
  obtain ⟨t3, c3⟩ := T.c_OUT
  obtain ⟨t4, c4⟩ := T.c_CLEAR
  obtain ⟨t5, c5⟩ := T.c_BARRED
  have hu : (A.deeper (envOfC "is_letter" (defScope s_is_letter) s.heap.objs.size (He.fAd K ("is_letter", none)) cdv)).units + 64 < cLine := hr.units
  refine ⟨_, pss_cons (ps_if (PW.pt (pw_or (pt_not (pt_val (pe_callB call_isi (by rfl) T.n_isinstance (by decide +kernel) (pa_cons (pv 0) (pa_cons (pe_bltn (by rfl) T.n_tuple (by decide +kernel) (v := .ty "tuple") rfl) pa_nil)))))
      (pw_or (pt_cmpR op_notIn_seq (pe_callB call_len_seq (by rfl) T.n_len PySem.boot_len (pa_cons (pv 0) pa_nil)) (pe_tup (pa_cons pe_int (pa_cons pe_int pa_nil))) (by rfl))
      (pw_or1 (pt_not (pt_val (pe_callB (cr_all rfl) (by rfl) T.n_all (by decide +kernel) (pa_cons (pe_lc (own := [("part", 1)]) (g := gName 1) (tt := tYes) (te := tCB (rIsi K) (tCons (tVar 1) (tCons (tC (.ty "str")) tNil))) rfl sc_is_letter.nd (pi_tup (pv 0)) (blkOk_by (N := ["thing", "part"]) (sc := defScope s_is_letter) (by decide +kernel))
        (fun _ _ _ _ _ => pg_name (i := 1) sc_is_letter.nd rfl (Or.inl rfl)) (fun _ _ _ _ _ => pts_nil) (fun _ _ _ _ _ => pe_callB call_isi (by rfl) T.n_isinstance (by decide +kernel) (pa_cons (pv 1) (pa_cons (pe_bltn (by rfl) T.n_str (by decide +kernel) (v := .ty "str") rfl) pa_nil)))) pa_nil))))))))
        (pss_one (ps_ret pe_bl)) pss_nil)
    (pss_cons (ps_if (pt_cmpR op_eq (pe_callB call_len_seq (by rfl) T.n_len PySem.boot_len (pa_cons (pv 0) pa_nil)) pe_int (nomark _))
        (pss_one (ps_ret (pe_cmpR (op_inP hu) (pv 0) (pe_tup (pa_cons (pe_glob (v := .ref (He.ga K "OPEN")) rfl T.g_OPEN rfl) (pa_cons (pe_glob (v := .ref (He.ga K "HEARD")) rfl T.g_HEARD rfl) (pa_cons (pe_glob (v := .ref (He.ga K "CHAIR")) rfl T.g_CHAIR rfl) (pa_cons (pe_glob (v := .ref (He.ga K "BACK")) rfl T.g_BACK rfl) pa_nil))))) (by rfl)))) pss_nil)
    (pss_one (ps_ret (pe_and (pe_cmpR op_eq (pe_ix ix_tup (pv 0) pe_int (fun _ _ => rfl)) (pe_glob (v := .str "word") rfl c1 ⟨t1, rfl⟩) (nomark _))
      (pe_one (pe_cmpR op_inS (pe_ix ix_tup (pv 0) pe_int (fun _ _ => rfl)) (pe_tup (pa_cons (pe_glob (v := .str "in") rfl c2 ⟨t2, rfl⟩) (pa_cons (pe_glob (v := .str "out") rfl c3 ⟨t3, rfl⟩) (pa_cons (pe_glob (v := .str "clear") rfl c4 ⟨t4, rfl⟩) (pa_cons (pe_glob (v := .str "barred") rfl c5 ⟨t5, rfl⟩) pa_nil))))) (by rfl))))))), ?_⟩
  refine ⟨_, rfl, .ref a, .ty "tuple", .type "tuple", .type "tuple", true, rfl, .ty _, .base (.tup ha), kit_ty (by decide +kernel), true, rfl, iteF ?_⟩
  refine ⟨_, rfl, a, _, rfl, .inr (SqT.of ha), (by show 2 ≤ sizeLine; decide), fun p hp => ?_⟩
  have s1 := same_upd (o := HO.tup [V.int 1, V.int 2]) hp
  refine ⟨p, _, rfl, .inr (SqT.of upd_same), rfl, rfl, false, ?_, iteF ?_⟩
  · have hlen : l.length = 1 ∨ l.length = 2 := by
      rcases ltr_shape hl with ⟨x, rfl, _⟩ | ⟨y, rfl, _⟩
      · exact .inl rfl
      · exact .inr rfl
    rcases hlen with e | e
    · rw [List.length_map, e]; rfl
    · rw [List.length_map, e]; rfl
  refine ⟨_, rfl, a, rfl, ⟨_, SqT.of (s1 _ _ ha)⟩, fun D hD => ?_⟩
  refine lc_pure 1 l V.str (fun _ => true) (fun _ => V.bl true) (walk_strsT l) (yat_str l) hD ?_ (fun H2 s2 => SqT.of (s2 _ _ (s1 _ _ ha))) (fun _ => rfl) (fun x H2 k _ _ hk => hk H2 (Same.refl H2)) ?_ ?_
  · rcases ltr_shape hl with ⟨x, rfl, _⟩ | ⟨y, rfl, _⟩ <;> exact smallSz (by simp)
  · intro x H2 k _ _ _ hk
    exact ⟨_, rfl, .str x, .ty "str", .type "str", .type "str", true, rfl, .ty _, .base (.str x), kit_ty (by decide +kernel), hk H2 (Same.refl H2)⟩
  intro H2 s2 h2
  have e3 : (l.filter fun _ => true) = l := List.filter_eq_self.mpr fun _ _ => rfl
  rw [e3] at h2
  refine ⟨D, l.map fun _ => true, rfl, SqL.of (by rw [h2, List.map_map]; rfl), true, ?_, iteF ?_⟩
  · rw [all_map]; simp
  have ha2 := s2 _ _ (s1 _ _ ha)
  rcases ltr_shape hl with ⟨x, rfl, hx⟩ | ⟨y, rfl, hy⟩
  · refine ⟨_, rfl, a, _, rfl, .inr (SqT.of ha2), rfl, true, rfl, iteT ?_⟩
    refine ⟨_, rfl, (by show 4 ≤ sizeLine; decide), fun p2 hp2 => ?_⟩
    have s3 := same_upd (o := HO.tup [V.ref (He.ga K "OPEN"), V.ref (He.ga K "HEARD"), V.ref (He.ga K "CHAIR"), V.ref (He.ga K "BACK")]) hp2
    refine ⟨tS [x], [lOpen, lHeard, lChair, lBack].map tS, dp_tup (SqT.of (s3 _ _ ha2)), .inr (.tup (SqT.of upd_same) (.cons (dp_tup (T.t_OPEN _)) (.cons (dp_tup (T.t_HEARD _)) (.cons (dp_tup (T.t_CHAIR _)) (.cons (dp_tup (T.t_BACK _)) .nil))))), plain_tS _, plain_tSs _, by rw [depth_tS]; decide, ?_⟩
    rw [any_tS, decide_eq_true hx]
    exact q _ ((s1.trans s2).trans s3)
  · refine ⟨_, rfl, a, _, rfl, .inr (SqT.of ha2), rfl, false, rfl, iteF ?_⟩
    refine ⟨_, rfl, a, _, _, _, rfl, rfl, SqT.of ha2, rfl, rfl, true, rfl, iteT ?_⟩
    refine ⟨_, rfl, a, _, _, _, rfl, rfl, SqT.of ha2, rfl, (by show 4 ≤ sizeLine; decide), fun p2 hp2 => ?_⟩
    have s3 := same_upd (o := HO.tup [V.str "in", V.str "out", V.str "clear", V.str "barred"]) hp2
    refine ⟨p2, (["in", "out", "clear", "barred"] : List Str), y, rfl, rfl, .inr (SqT.of upd_same), ?_⟩
    rw [if_neg Bool.false_ne_true, decide_eq_true hy]
    exact q _ ((s1.trans s2).trans s3)
end
end G
set_option Elab.async false
set_option linter.all false
set_option maxRecDepth 100000
set_option maxHeartbeats 4000000
namespace G
open PySem PySem.Spec PyProof.Rows L2
section
variable {P : Program} {w : World} {K : PySem.W.Frag} {mg : Str → Option Value} {base : Heap}

/-! ### Place.__init__ -/
def spPlace : PySem.W.Frag → Sp := fun K vs H Q _ => ∃ (p dx : Addr), vs = [.ref p] ∧ H p = some (.ins (CP K) dx []) ∧ ∀ H', H' p = some (.ins (CP K) dx (pfs .non Pl.new)) → (∀ b o, H b = some o → b ≠ p → H' b = some o) → Q .non H'
theorem sc_Place : FnScope ["self"] ["self"] (defScope s_Place_init) := ⟨rfl, rfl, rfl, by decide +kernel, rfl, by decide +kernel, by decide +kernel⟩
theorem ok_Place (T : Txt K mg) : Ok P w K mg base CX0 1 (He.fAd K ("Place", some "__init__")) ["self"] (spPlace K) := by
  refine Ok.of T.f_Place_init sc_Place (fun _ _ _ _ _ _ us hl => match us, hl with | [_], _ => rfl) (fun vs H Q E h => by obtain ⟨p, dx, rfl, _⟩ := h; rfl) (fun cdv A outer s H vs Q E hr h => ?_)
  obtain ⟨p, dx, rfl, hp, q⟩ := h
  refine ⟨_, pss_cons (ps_fld (pv 0) pe_non rfl) (pss_cons (ps_fld (pv 0) pe_non rfl) (pss_cons (ps_fld (pv 0) pe_int rfl) (pss_cons (ps_fld (pv 0) pe_bl rfl) (pss_one (ps_fld (pv 0) pe_non rfl))))), ?_⟩
  refine ⟨_, rfl, p, CP K, dx, [], rfl, hp, T.cls_Place, T.na_P_told, (by decide), ?_⟩
  refine ⟨_, rfl, p, CP K, dx, _, rfl, upd_same, T.cls_Place, T.na_P_mark, (by decide), ?_⟩
  refine ⟨_, rfl, p, CP K, dx, _, rfl, upd_same, T.cls_Place, T.na_P_since, (by decide), ?_⟩
  refine ⟨_, rfl, p, CP K, dx, _, rfl, upd_same, T.cls_Place, T.na_P_opened, (by decide), ?_⟩
  refine ⟨_, rfl, p, CP K, dx, _, rfl, upd_same, T.cls_Place, T.na_P_source, (by decide), ?_⟩
  refine q _ upd_same fun b o e hb => ?_
  rw [upd_ne hb, upd_ne hb, upd_ne hb, upd_ne hb, upd_ne hb]
  exact e

/-! ### House.__init__ -/
theorem mkfld {i : Nat} {rl : Rl} {H : Hp} {p a : Addr} {o : HO} (c : C rl H i .self p o) (n : ¬ isTup o) (ha : H a = none) (r : R) (u o' : HO) :
    C (setR rl a (some (i, r))) (upd (upd H a u) p o') i .self p o' ∧ C (setR rl a (some (i, r))) (upd (upd H a u) p o') i r a u ∧ Step i rl H (setR rl a (some (i, r))) (upd (upd H a u) p o') ∧
      ∀ r2 a2 o2, r2 ≠ .self → C rl H i r2 a2 o2 → C (setR rl a (some (i, r))) (upd (upd H a u) p o') i r2 a2 o2 := by
  have hpa : a ≠ p := (ne_of_none c.h ha).symm
  have c1 := (c.role ha (v := some (i, r))).fresh ha (o' := u)
  refine ⟨c1.put, ⟨setR_same, by rw [upd_ne hpa]; exact upd_same⟩, (Step.own ha).trans (Step.write c1 n), fun r2 a2 o2 d z => ?_⟩
  exact ((z.role ha (v := some (i, r))).fresh ha (o' := u)).upd c1 fun e => d (by cases e; rfl)
def spHouse (K : PySem.W.Frag) : Sp := fun vs H Q _ => ∃ (i : Nat) (rl : Rl) (p dx : Addr) (own : Str) (size : Nat), vs = [.ref p, .str own, .int size] ∧ C rl H i .self p (.ins (CH K) dx []) ∧ isNm own = true ∧ own.length ≤ 1000 ∧
  ∀ rl' H' h, Step i rl H rl' H' → House K i rl' H' p 0 (S.new own size) h → Q .non H'
theorem sc_House : FnScope ["self", "name", "room"] ["self", "name", "room"] (defScope s_House_init) := ⟨rfl, rfl, rfl, by decide +kernel, rfl, by decide +kernel, by decide +kernel⟩
theorem ok_House (T : Txt K mg) : Ok P w K mg base CX0 2 (He.fAd K ("House", some "__init__")) ["self", "name", "room"] (spHouse K) := by
  obtain ⟨fd1, G1, b1, k1⟩ := (ok_is_name (P := P) (w := w) (base := base) T).ex
  obtain ⟨fd2, G2, b2, k2⟩ := (ok_is_count (P := P) (w := w) (base := base) T).ex
  refine Ok.of T.f_House_init sc_House (fun _ _ _ _ _ _ us hl => match us, hl with | [_, _, _], _ => rfl) (fun vs H Q E h => by obtain ⟨_, _, _, _, _, _, rfl, _⟩ := h; rfl) (fun cdv A outer s H vs Q E hr h => ?_)
  obtain ⟨i, rl, p, dx, own, size, rfl, c0, hn, hl, q⟩ := h
  refine ⟨_, (pss_cons (ps_if (pt_not (pt_val (pe_call G1 hr (by rfl) T.g_is_name k1 b1 .nil pass0 (pa_cons (pv 1) pa_nil)))) pss_never pss_nil)
      (pss_cons (ps_if (pt_not (pt_val (pe_call G2 hr (by rfl) T.g_is_count k2 b2 .nil pass0 (pa_cons (pv 2) pa_nil)))) pss_never pss_nil)
      (pss_cons (ps_fld (pv 0) (pv 1) rfl)
      (pss_cons (ps_fld (pv 0) (pv 2) rfl)
      (pss_cons (ps_fld (pv 0) (pe_lst pa_nil) rfl)
      (pss_cons (ps_fld (pv 0) pe_dnewK rfl)
      (pss_cons (ps_fld (pv 0) pe_int rfl)
      (pss_cons (ps_fld (pv 0) pe_dnewK rfl)
      (pss_cons (ps_fld (pv 0) pe_dnewK rfl)
      (pss_cons (ps_fld (pv 0) (pe_lst pa_nil) rfl)
      (pss_one (ps_fld (pv 0) (pe_lst pa_nil) rfl)))))))))))), ?_⟩
  refine ⟨_, rfl, own, rfl, hl, fun H1 s1 => ⟨true, by rw [hn], iteF ?_⟩⟩
  refine ⟨_, rfl, (size : Int), rfl, true, by rw [decide_eq_true (Int.natCast_nonneg size)], iteF ?_⟩
  have c1 := c0.same s1
  refine ⟨_, rfl, _, rfl, p, CH K, dx, [], rfl, c1.h, T.cls_House, T.na_H_own, (by exact (by decide : (0 : Nat) < 1000)), ?_⟩
  have c2 := c1.put (o' := .ins (CH K) dx (putF "own" (.str own) []))
  have t2 := Step.write c1 (fun z => z) (o' := .ins (CH K) dx (putF "own" (.str own) []))
  refine ⟨_, rfl, _, rfl, p, CH K, dx, _, rfl, c2.h, T.cls_House, T.na_H_size, (by exact (by decide : (1 : Nat) < 1000)), ?_⟩
  have c3 := c2.put (o' := .ins (CH K) dx (putF "size" (.int size) (putF "own" (.str own) [])))
  have t3 := Step.write c2 (fun z => z) (o' := .ins (CH K) dx (putF "size" (.int size) (putF "own" (.str own) [])))
  refine ⟨(by show 0 ≤ sizeLine; omega), fun l hl => ?_⟩
  obtain ⟨c4, l4, t4, f4⟩ := mkfld c3 (fun z => z) hl .line (.lst []) (.ins (CH K) dx (putF "line" (.ref l) (putF "size" (.int size) (putF "own" (.str own) []))))
  refine ⟨_, rfl, p, CH K, dx, _, rfl, (c3.fresh hl).h, T.cls_House, T.na_H_line, (by exact (by decide : (2 : Nat) < 1000)), ?_⟩
  intro pb hpb
  obtain ⟨c5, l5, t5, f5⟩ := mkfld c4 (fun z => z) hpb .places (.dK []) (.ins (CH K) dx (putF "places_by" (.ref pb) (putF "line" (.ref l) (putF "size" (.int size) (putF "own" (.str own) [])))))
  refine ⟨_, rfl, p, CH K, dx, _, rfl, (c4.fresh hpb).h, T.cls_House, T.na_H_places_by, (by exact (by decide : (3 : Nat) < 1000)), ?_⟩
  refine ⟨_, rfl, p, CH K, dx, _, rfl, c5.h, T.cls_House, T.na_H_ears, (by exact (by decide : (4 : Nat) < 1000)), ?_⟩
  have c6 := c5.put (o' := .ins (CH K) dx (putF "ears" (.int 0) (putF "places_by" (.ref pb) (putF "line" (.ref l) (putF "size" (.int size) (putF "own" (.str own) []))))))
  have t6 := Step.write c5 (fun z => z) (o' := .ins (CH K) dx (putF "ears" (.int 0) (putF "places_by" (.ref pb) (putF "line" (.ref l) (putF "size" (.int size) (putF "own" (.str own) []))))))
  intro db hdb
  obtain ⟨c7, l7, t7, f7⟩ := mkfld c6 (fun z => z) hdb .debts (.dK []) (.ins (CH K) dx (putF "debts" (.ref db) (putF "ears" (.int 0) (putF "places_by" (.ref pb) (putF "line" (.ref l) (putF "size" (.int size) (putF "own" (.str own) [])))))))
  refine ⟨_, rfl, p, CH K, dx, _, rfl, (c6.fresh hdb).h, T.cls_House, T.na_H_debts, (by exact (by decide : (5 : Nat) < 1000)), ?_⟩
  intro aw haw
  obtain ⟨c8, l8, t8, f8⟩ := mkfld c7 (fun z => z) haw .away (.dK []) (.ins (CH K) dx (putF "away" (.ref aw) (putF "debts" (.ref db) (putF "ears" (.int 0) (putF "places_by" (.ref pb) (putF "line" (.ref l) (putF "size" (.int size) (putF "own" (.str own) []))))))))
  refine ⟨_, rfl, p, CH K, dx, _, rfl, (c7.fresh haw).h, T.cls_House, T.na_H_away, (by exact (by decide : (6 : Nat) < 1000)), ?_⟩
  refine ⟨(by show 0 ≤ sizeLine; omega), fun pa hpa => ?_⟩
  obtain ⟨c9, l9, t9, f9⟩ := mkfld c8 (fun z => z) hpa .past (.lst []) (.ins (CH K) dx (putF "past" (.ref pa) (putF "away" (.ref aw) (putF "debts" (.ref db) (putF "ears" (.int 0) (putF "places_by" (.ref pb) (putF "line" (.ref l) (putF "size" (.int size) (putF "own" (.str own) [])))))))))
  refine ⟨_, rfl, p, CH K, dx, _, rfl, (c8.fresh hpa).h, T.cls_House, T.na_H_past, (by exact (by decide : (7 : Nat) < 1000)), ?_⟩
  refine ⟨(by show 0 ≤ sizeLine; omega), fun go hgo => ?_⟩
  obtain ⟨c10, l10, t10, f10⟩ := mkfld c9 (fun z => z) hgo .going (.lst []) (.ins (CH K) dx (putF "going" (.ref go) (putF "past" (.ref pa) (putF "away" (.ref aw) (putF "debts" (.ref db) (putF "ears" (.int 0) (putF "places_by" (.ref pb) (putF "line" (.ref l) (putF "size" (.int size) (putF "own" (.str own) []))))))))))
  refine ⟨_, rfl, p, CH K, dx, _, rfl, (c9.fresh hgo).h, T.cls_House, T.na_H_going, (by exact (by decide : (8 : Nat) < 1000)), ?_⟩
  have dl : ∀ r : R, r ≠ .self → (i, r) ≠ (i, R.self) := fun r h e => h (by cases e; rfl)
  have l4' := (((f5 _ _ _ (by decide) l4).upd c5 (o' := .ins (CH K) dx (putF "ears" (.int 0) (putF "places_by" (.ref pb) (putF "line" (.ref l) (putF "size" (.int size) (putF "own" (.str own) [])))))) (dl _ (by decide))))
  have l5' := l5.upd c5 (o' := .ins (CH K) dx (putF "ears" (.int 0) (putF "places_by" (.ref pb) (putF "line" (.ref l) (putF "size" (.int size) (putF "own" (.str own) [])))))) (dl _ (by decide))
  refine q _ _ ⟨dx, l, pb, db, aw, pa, go, [], [], [], []⟩ ((Step.same s1).trans (t2.trans (t3.trans (t4.trans (t5.trans (t6.trans (t7.trans (t8.trans (t9.trans t10))))))))) ?_
  exact {
    self := c10
    line := f10 _ _ _ (by decide) (f9 _ _ _ (by decide) (f8 _ _ _ (by decide) (f7 _ _ _ (by decide) l4')))
    pb := f10 _ _ _ (by decide) (f9 _ _ _ (by decide) (f8 _ _ _ (by decide) (f7 _ _ _ (by decide) l5')))
    pl := fun g hg => absurd hg (by show ¬ g ∈ ([] : List Str); simp)
    pn := fun _ _ => rfl
    db := f10 _ _ _ (by decide) (f9 _ _ _ (by decide) (f8 _ _ _ (by decide) l7))
    de := fun g => show valV ([] : List (Key × V)) (.inr g) = none from rfl
    aw := f10 _ _ _ (by decide) (f9 _ _ _ (by decide) l8)
    pa := f10 _ _ _ (by decide) l9
    pv := .nil
    go := l10
    gv := .nil
    few := ⟨Nat.le_refl _, Nat.le_refl _, Nat.le_refl _, Nat.le_refl _, fun g ds e => by cases e⟩
    kpl := Nat.le_refl _
    kdl := Nat.le_refl _ }
end
end G
set_option Elab.async false
set_option linter.all false
set_option maxRecDepth 100000
set_option maxHeartbeats 4000000
namespace G
open PySem PySem.Spec PyProof.Rows L2
/-- the order's list and the places' table are as they were -/
structure Al (h h' : HA) : Prop where
  l : h'.l = h.l
  kp : h'.kp = h.kp
theorem Al.refl (h : HA) : Al h h := ⟨rfl, rfl⟩
theorem Al.trans {h h1 h2 : HA} (a : Al h h1) (b : Al h1 h2) : Al h h2 := ⟨b.l.trans a.l, b.kp.trans a.kp⟩
/-- how much any one thing may be -/
def Lim : Nat := 3000000
theorem nm_len {g : Str} (h : isNm g = true) : g.length ≤ 1000 := by
  unfold isNm at h
  simp only [Bool.and_eq_true, decide_eq_true_eq] at h
  omega
theorem valV_awk (g : Str) : ∀ l : List Str, valV (awk l) (.inr g) = if g ∈ l then some (.bl true) else none
  | [] => by simp [awk, valV]
  | x :: l => by
    have ih := valV_awk g l
    unfold awk at ih ⊢
    rw [List.map_cons]
    by_cases e : x = g
    · subst e
      rw [valV_pos rfl, if_pos (List.mem_cons_self ..)]
    · rw [valV_neg (fun z => e (Sum.inr.inj z)), ih]
      by_cases m : g ∈ l
      · rw [if_pos m, if_pos (List.mem_cons_of_mem _ m)]
      · rw [if_neg m, if_neg fun z => (List.mem_cons.mp z).elim (fun q => e q.symm) m]
theorem isSome_awk (g : Str) (l : List Str) : (valV (awk l) (.inr g)).isSome = decide (g ∈ l) := by
  rw [valV_awk]
  by_cases m : g ∈ l
  · rw [if_pos m, decide_eq_true m]; rfl
  · rw [if_neg m, decide_eq_false m]; rfl
theorem putK_awk {g : Str} {l : List Str} (h : g ∉ l) : putK (awk l) (.inr g) (.bl true) = awk (l ++ [g]) := by
  rw [putK_new _ (by rw [valV_awk, if_neg h])]
  unfold awk
  rw [List.map_append]; rfl
theorem dropK_awk (g : Str) : ∀ l : List Str, dropK (awk l) (.inr g) = awk (l.filter fun x => decide (x ≠ g))
  | [] => rfl
  | x :: l => by
    have ih := dropK_awk g l
    unfold awk at ih ⊢
    rw [List.map_cons]
    by_cases e : x = g
    · subst e
      rw [dropK_pos rfl, ih, List.filter_cons, if_neg (by simp)]
    · rw [dropK_neg (fun z => e (Sum.inr.inj z)), ih, List.filter_cons, if_pos (by simp [e]), List.map_cons]
theorem awk_len (l : List Str) : (awk l).length = l.length := List.length_map _
theorem notMem_of_awk {g : Str} {l : List Str} (h : valV (awk l) (.inr g) = none) : g ∉ l := fun m => by rw [valV_awk, if_pos m] at h; cases h

section
variable {P : Program} {w : World} {K : PySem.W.Frag} {mg : Str → Option Value} {base : Heap}

/-! ### need_near -/
def spNear (K : PySem.W.Frag) : Sp := fun vs H Q _ => ∃ (i : Nat) (rl : Rl) (p : Addr) (b : Nat) (s : S) (h : HA) (g : Str) (a dxa : Addr) (tv : V), vs = [.ref p, .str g] ∧ House K i rl H p b s h ∧ isNm g = true ∧ PlAt (CP K) rl H i h g (s.pl g) a dxa tv ∧ ∀ H', Same H H' → Q (.ref a) H'
theorem sc_near : FnScope ["self", "guest"] ["self", "guest"] (defScope s_House_need_near) := ⟨rfl, rfl, rfl, by decide +kernel, rfl, by decide +kernel, by decide +kernel⟩
theorem ok_near (T : Txt K mg) : Ok P w K mg base CX0 2 (He.fAd K ("House", some "need_near")) ["self", "guest"] (spNear K) := by
  obtain ⟨fd1, G1, b1, k1⟩ := (ok_is_name (P := P) (w := w) (base := base) T).ex
  refine Ok.of T.f_House_need_near sc_near (fun _ _ _ _ _ _ us hl => match us, hl with | [_, _], _ => rfl) (fun vs H Q E h => by obtain ⟨_, _, _, _, _, _, _, _, _, _, rfl, _⟩ := h; rfl) (fun cdv A outer s H vs Q E hr h => ?_)
  obtain ⟨i, rl, p, b, s, h, g, a, dxa, tv, rfl, x, hn, y, q⟩ := h
  have hu := hu_of hr
  refine ⟨_, (pss_cons (ps_if (PW.pt (pw_or (pt_not (pt_val (pe_call G1 hr (by rfl) T.g_is_name k1 b1 .nil pass0 (pa_cons (pv 1) pa_nil)))) (pw_or1 (pt_cmp (pc_dnotin hu (pv 1) (pe_fld (pv 0) rfl)))))) pss_never pss_nil)
      (pss_one (ps_ret (pe_dget hu (pe_fld (pv 0) rfl) (pv 1) (fun _ _ => rfl))))), ?_⟩
  refine ⟨_, rfl, g, rfl, nm_len hn, fun H1 s1 => ⟨true, by rw [hn], iteF ?_⟩⟩
  have x1 := x.same s1
  refine ⟨_, rfl, _, rfl, p, CH K, h.dx, _, _, rfl, x1.self.h, T.cls_House, T.na_H_places_by, rfl, h.pb, _, rfl, DGet.k (k := Sum.inr g) x1.pb.h, false, ?_, iteF ?_⟩
  · rw [y.v]; rfl
  refine ⟨_, rfl, p, CH K, h.dx, _, _, rfl, x1.self.h, T.cls_House, T.na_H_places_by, rfl, _, rfl, h.pb, .ref a, rfl, ?_, q H1 s1⟩
  rw [← y.v]
  exact DGet.k (k := Sum.inr g) x1.pb.h

/-! ### tell -/
def spTell (K : PySem.W.Frag) : Sp := fun vs H Q _ => ∃ (i : Nat) (rl : Rl) (p : Addr) (b : Nat) (s : S) (h : HA) (g : Str) (u : Addr) (l : List Str), vs = [.ref p, .str g, .ref u] ∧ House K i rl H p b s h ∧ b ≤ Lim ∧ StrT K H u l ∧
  ∀ H' h', Step i rl H rl H' → House K i rl H' p (b + 1) (s.say g l) h' → Al h h' → Q .non H'
theorem sc_tell : FnScope ["self", "guest", "letter"] ["self", "guest", "letter"] (defScope s_House_tell) := ⟨rfl, rfl, rfl, by decide +kernel, rfl, by decide +kernel, by decide +kernel⟩
theorem lim_lt {n b : Nat} (h : n ≤ b) (hb : b ≤ Lim) : n < sizeLine := smallSz (by unfold Lim at hb; omega)
theorem len_vg {i : Nat} {rl : Rl} {H : Hp} {p : Addr} {b : Nat} {s : S} {h : HA} (x : House K i rl H p b s h) : h.vg.length ≤ b := by rw [← Paired.length x.gv]; exact x.few.going
theorem len_vp {i : Nat} {rl : Rl} {H : Hp} {p : Addr} {b : Nat} {s : S} {h : HA} (x : House K i rl H p b s h) : h.vp.length ≤ b := by rw [← Paired.length x.pv]; exact x.few.past
theorem ok_tell (T : Txt K mg) : Ok P w K mg base CX0 1 (He.fAd K ("House", some "tell")) ["self", "guest", "letter"] (spTell K) := by
  refine Ok.of T.f_House_tell sc_tell (fun _ _ _ _ _ _ us hl => match us, hl with | [_, _, _], _ => rfl) (fun vs H Q E h => by obtain ⟨_, _, _, _, _, _, _, _, _, rfl, _⟩ := h; rfl) (fun cdv A outer s H vs Q E hr h => ?_)
  obtain ⟨i, rl, p, b, s, h, g, u, l, rfl, x, hb, ht, q⟩ := h
  refine ⟨_, (pss_one (ps_expr (pe_bm PySem.F.plainAttrs_list PySem.F.slot_list_append PySem.F.type_list_append mt_append (pe_fld (pv 0) rfl) (pa_cons (pe_tup (pa_cons (pv 1) (pa_cons (pv 2) pa_nil))) pa_nil)))), ?_⟩
  refine ⟨_, rfl, p, CH K, h.dx, _, _, rfl, x.self.h, T.cls_House, T.na_H_going, rfl, .inl ⟨rfl, _, SqL.of x.go.h⟩, _, rfl, _, rfl, (by show 2 ≤ sizeLine; decide), fun t hT => ?_⟩
  have s1 := same_upd (o := HO.tup [V.str g, V.ref u]) hT
  have x1 := x.same s1
  refine ⟨h.go, _, _, rfl, rfl, x1.go.h, lim_lt (len_vg x) hb, ?_⟩
  exact q _ _ ((Step.same s1).trans (Step.write x1.go fun z => z)) (x1.say ⟨t, u, rfl, upd_same, ht.tk (sameTk s1)⟩) ⟨rfl, rfl⟩

/-! ### deal -/
theorem dealOne_line (s : S) (g : Str) : (dealOne s g).line = s.line := by unfold dealOne; split <;> rfl
theorem dealOne_pl (s : S) (g : Str) : (dealOne s g).pl = s.pl := by unfold dealOne; split <;> rfl
theorem dealOne_size (s : S) (g : Str) : (dealOne s g).size = s.size := by unfold dealOne; split <;> rfl
theorem deal_line (l : List Str) : ∀ s : S, (l.foldl dealOne s).line = s.line := by
  induction l with
  | nil => intro s; rfl
  | cons g l ih => intro s; rw [List.foldl_cons, ih, dealOne_line]
theorem deal_pl (l : List Str) : ∀ s : S, (l.foldl dealOne s).pl = s.pl := by
  induction l with
  | nil => intro s; rfl
  | cons g l ih => intro s; rw [List.foldl_cons, ih, dealOne_pl]
def spDeal (K : PySem.W.Frag) : Sp := fun vs H Q _ => ∃ (i : Nat) (rl : Rl) (p : Addr) (b : Nat) (s : S) (h : HA), vs = [.ref p] ∧ House K i rl H p b s h ∧ b + 2 * s.line.length ≤ Lim ∧
  ∀ H' h', Step i rl H rl H' → House K i rl H' p (b + 2 * s.line.length) (deal s) h' → Al h h' → Q .non H'
theorem sc_deal : FnScope ["self", "guest", "told"] ["self"] (defScope s_House_deal) := ⟨rfl, rfl, rfl, by decide +kernel, rfl, by decide +kernel, by decide +kernel⟩
theorem ok_deal (T : Txt K mg) : Ok P w K mg base CX0 2 (He.fAd K ("House", some "deal")) ["self"] (spDeal K) := by
  obtain ⟨fd1, G1, b1, k1⟩ := (ok_tell (P := P) (w := w) (base := base) T).ex
  refine Ok.of T.f_House_deal sc_deal (fun _ _ _ _ _ _ us hl => match us, hl with | [_], _ => rfl) (fun vs H Q E h => by obtain ⟨_, _, _, _, _, _, rfl, _⟩ := h; rfl) (fun cdv A outer s H vs Q E hr h => ?_)
  obtain ⟨i, rl, p, b, s, h, rfl, x, hb, q⟩ := h
  have hu := hu_of hr
  obtain ⟨ti, ci⟩ := T.c_IN
  refine ⟨_, (pss_one (ps_for PassesOwn.never rfl (pi_list (pe_fld (pv 0) rfl)) (pg_name (i := 1) sc_deal.nd rfl (Or.inl rfl)) (pss_cons (ps_set (i := 2) sc_deal.nd rfl (Or.inl rfl) (pe_fld (pe_dget hu (pe_fld (pv 0) rfl) (pv 1) (fun _ _ => rfl)) rfl))
      (pss_one (ps_if (PW.pt (pw_and (pt_cmpR op_notN (pv 2) pe_non (nomark _)) (pw_and (pt_cmpR op_eq (pe_ix ix_tup (pv 2) pe_int (fun _ _ => rfl)) (pe_glob (v := .str "in") rfl ci ⟨ti, rfl⟩) (nomark _))
          (pw_and (pt_cmp (pc_dnotin hu (pv 1) (pe_fld (pv 0) rfl))) (pw_and1 (pt_cmpR op_lt (pe_callB call_lenD (by rfl) T.n_len PySem.boot_len (pa_cons (pe_fld (pv 0) rfl) pa_nil)) (pe_fld (pv 0) rfl) (nomark _)))))))
        (pss_cons (ps_dput hu (pe_fld (pv 0) rfl) (pv 1) pe_bl rfl)
      (pss_one (ps_expr (pe_meth (pv 0) T.cls_House T.m_tell G1 hr b1 .nil pass0 (pa_cons (pv 1) (pa_cons (pe_glob (v := .ref (He.ga K "CHAIR")) rfl T.g_CHAIR rfl) pa_nil)))))) pss_nil))))), ?_⟩
  refine ⟨_, rfl, p, CH K, h.dx, _, _, rfl, x.self.h, T.cls_House, T.na_H_line, rfl, h.l, rfl, ⟨_, SqL.of x.line.h⟩, ?_⟩
  refine for_list (K := K) (a := h.l) (xs := s.line.map V.str) (fun k σ H2 => ∃ (h2 : HA) (v1 v2 : Option V), σ = [some (.ref p), v1, v2] ∧ Al h h2 ∧ Step i rl H rl H2 ∧ House K i rl H2 p (b + 2 * k) ((s.line.take k).foldl dealOne s) h2) ⟨h, none, none, rfl, Al.refl h, Step.refl, x⟩
    (fun k σ H2 _ ⟨h2, _, _, _, e, _, x2⟩ => by
      have z := x2.line.h
      rw [e.l, deal_line] at z
      exact SqL.of z) ?_ ?_
  · rintro k v σ H2 hk ⟨h2, v1, v2, rfl, el, t2, x2⟩
    rw [List.getElem?_map] at hk
    obtain ⟨g, hg, rfl⟩ := Option.map_eq_some_iff.mp hk
    have hkl : k < s.line.length := (List.getElem?_eq_some_iff.mp hg).1
    have hb2 : b + 2 * k + 2 ≤ Lim := by omega
    have e1 : (s.line.take (k + 1)).foldl dealOne s = dealOne ((s.line.take k).foldl dealOne s) g := by rw [take_succ_at hg, List.foldl_append]; rfl
    have hgl : g ∈ ((s.line.take k).foldl dealOne s).line := by rw [deal_line]; exact List.mem_of_getElem? hg
    generalize (s.line.take k).foldl dealOne s = sk at x2 e1 hgl
    obtain ⟨a, dxa, tv, y⟩ := x2.pl g hgl
    refine ⟨_, rfl, p, CH K, h2.dx, _, _, rfl, x2.self.h, T.cls_House, T.na_H_places_by, rfl, _, rfl, h2.pb, .ref a, rfl, by rw [← y.v]; exact DGet.k (k := Sum.inr g) x2.pb.h, ?_⟩
    refine ⟨a, CP K, dxa, _, _, rfl, y.c.h, T.cls_Place, T.na_P_told, rfl, ?_⟩
    have no : (hit "in" none (sk.pl g).told = true ∧ g ∉ sk.away ∧ sk.away.length < sk.size → False) → ∃ (h3 : HA) (v1 v2 : Option V), ([some (.ref p), some (.str g), some tv] : L2.St) = [some (.ref p), v1, v2] ∧ Al h h3 ∧ Step i rl H rl H2 ∧ House K i rl H2 p (b + 2 * (k + 1)) ((s.line.take (k + 1)).foldl dealOne s) h3 := fun hn => by
      refine ⟨h2, _, _, rfl, el, t2, ?_⟩
      rw [e1]
      unfold dealOne
      rw [if_neg hn]
      exact x2.mono (by omega)
    have ht := y.t
    cases et : (sk.pl g).told with
    | none =>
      rw [et] at ht
      have ht' : tv = .non := ht
      subst ht'
      refine ⟨_, rfl, rfl, _, rfl, iteF ?_⟩
      exact no fun z => by rw [et] at z; exact absurd z.1 (by simp [hit])
    | some tn =>
      obtain ⟨wd, n⟩ := tn
      rw [et] at ht
      obtain ⟨t, rfl, htt⟩ := ht
      refine ⟨_, rfl, rfl, true, rfl, iteT ?_⟩
      refine ⟨_, rfl, t, _, _, _, rfl, rfl, SqT.of htt, rfl, rfl, _, rfl, ?_⟩
      by_cases c1 : wd = "in"
      · subst c1
        rw [show decide (V.str "in" = V.str "in") = true from decide_eq_true rfl]
        refine iteT ⟨_, rfl, _, rfl, p, CH K, h2.dx, _, _, rfl, x2.self.h, T.cls_House, T.na_H_away, rfl, h2.aw, _, rfl, DGet.k (k := Sum.inr g) x2.aw.h, _, rfl, ?_⟩
        rw [isSome_awk]
        by_cases c2 : g ∈ sk.away
        · rw [decide_eq_true c2]
          exact iteF (no fun z => z.2.1 c2)
        · rw [decide_eq_false c2]
          refine iteT ⟨_, rfl, p, CH K, h2.dx, _, _, rfl, x2.self.h, T.cls_House, T.na_H_away, rfl, h2.aw, _, rfl, x2.aw.h, _, rfl, p, CH K, h2.dx, _, _, rfl, x2.self.h, T.cls_House, T.na_H_size, rfl, _, _, rfl, rfl, _, rfl, ?_⟩
          rw [awk_len]
          by_cases c3 : sk.away.length < sk.size
          · rw [decide_eq_true (show ((sk.away.length : Nat) : Int) < (sk.size : Int) by omega)]
            refine iteT ⟨_, rfl, p, CH K, h2.dx, _, _, rfl, x2.self.h, T.cls_House, T.na_H_away, rfl, _, rfl, h2.aw, _, rfl, DPut.k (k := Sum.inr g) x2.aw.h (by rw [awk_len]; exact lim_lt x2.few.away (by omega)), ?_⟩
            rw [putK_awk c2]
            have x3 := x2.setAway (l := sk.away ++ [g]) (c := b + 2 * k + 1) (by rw [List.length_append]; exact Nat.succ_le_succ x2.few.away) (Nat.le_succ _)
            have t3 := Step.write x2.aw (fun z => z) (o' := .dK (awk (sk.away ++ [g])))
            refine ⟨_, rfl, p, h2.dx, _, rfl, x3.self.h, rfl, _, rfl, i, rl, p, _, _, h2, g, He.ga K "CHAIR", lChair, rfl, x3, (by omega), .inr fun H' => T.t_CHAIR H', fun H4 h4 t4 x4 e4 => ?_⟩
            refine ⟨h4, _, _, rfl, el.trans e4, (t2.trans t3).trans t4, ?_⟩
            rw [e1]
            unfold dealOne
            rw [if_pos ⟨by rw [et]; rfl, c2, c3⟩]
            exact x4.mono (by omega)
          · rw [decide_eq_false (show ¬ ((sk.away.length : Nat) : Int) < (sk.size : Int) by omega)]
            exact iteF (no fun z => c3 z.2.2)
      · rw [decide_eq_false (show ¬ V.str wd = V.str "in" from fun z => c1 (by cases z; rfl))]
        refine iteF (no fun z => ?_)
        rw [et] at z
        have z1 := z.1
        simp [hit, c1] at z1
  · rintro σ H2 ⟨h2, v1, v2, rfl, el, t2, x2⟩
    rw [List.length_map, List.take_length] at x2
    exact q H2 h2 t2 x2 el
end
end G
set_option Elab.async false
set_option linter.all false
set_option maxRecDepth 100000
set_option maxHeartbeats 4000000
namespace G
open PySem PySem.Spec PyProof.Rows L2
theorem cut_to (xs : List V) (k : Nat) : cutV xs none (some (k : Int)) = xs.take k := by
  unfold cutV
  rw [HT.sIx_nat, HT.sIx_none, List.drop_zero, Nat.sub_zero]
  by_cases h : k ≤ xs.length
  · rw [Nat.min_eq_left h]
  · rw [Nat.min_eq_right (by omega), List.take_of_length_le (Nat.le_refl _), List.take_of_length_le (by omega)]
theorem cut_from (xs : List V) (k : Nat) : cutV xs (some (k : Int)) none = xs.drop k := by
  unfold cutV
  rw [HT.sIx_nat, HT.sIx_none]
  by_cases h : k ≤ xs.length
  · rw [Nat.min_eq_left h, List.take_of_length_le (by rw [List.length_drop]; omega)]
  · rw [Nat.min_eq_right (by omega), Nat.sub_self, List.take_zero, List.drop_of_length_le (by omega)]
section
variable {P : Program} {w : World} {K : PySem.W.Frag} {mg : Str → Option Value} {base : Heap}

/-! ### gone -/
def spGone (K : PySem.W.Frag) : Sp := fun vs H Q _ => ∃ (i : Nat) (rl : Rl) (p : Addr) (b : Nat) (s : S) (h : HA), vs = [.ref p] ∧ House K i rl H p b s h ∧ b + 2 * s.line.length ≤ Lim ∧
  ∀ rl' H' h' a vs', Step i rl H rl' H' → House K i rl' H' p (b + 2 * s.line.length) (gone s).1 h' → Al h h' → rl' a = none → H' a = some (.lst vs') → Paired (LtrV K H') (gone s).2 vs' → Q (.ref a) H'
theorem sc_gone : FnScope ["self", "found"] ["self"] (defScope s_House_gone) := ⟨rfl, rfl, rfl, by decide +kernel, rfl, by decide +kernel, by decide +kernel⟩
theorem ok_gone (T : Txt K mg) : Ok P w K mg base CX0 3 (He.fAd K ("House", some "gone")) ["self"] (spGone K) := by
  obtain ⟨fd1, G1, b1, k1⟩ := (ok_deal (P := P) (w := w) (base := base) T).ex
  refine Ok.of T.f_House_gone sc_gone (fun _ _ _ _ _ _ us hl => match us, hl with | [_], _ => rfl) (fun vs H Q E h => by obtain ⟨_, _, _, _, _, _, rfl, _⟩ := h; rfl) (fun cdv A outer s H vs Q E hr h => ?_)
  obtain ⟨i, rl, p, b, s, h, rfl, x, hb, q⟩ := h
  refine ⟨_, (pss_cons (ps_expr (pe_meth0 (pv 0) T.cls_House T.m_deal G1 hr b1 .nil pass0))
      (pss_cons (ps_set (i := 1) sc_gone.nd rfl (Or.inl rfl) (pe_fld (pv 0) rfl))
      (pss_cons (ps_fld (pv 0) (pe_lst pa_nil) rfl)
      (pss_one (ps_ret (pv 1)))))), ?_⟩
  refine ⟨_, rfl, p, h.dx, _, rfl, x.self.h, rfl, i, rl, p, b, s, h, rfl, x, hb, fun H1 h1 t1 x1 e1 => ?_⟩
  refine ⟨_, rfl, p, CH K, h1.dx, _, _, rfl, x1.self.h, T.cls_House, T.na_H_going, rfl, ?_⟩
  refine ⟨(by show 0 ≤ sizeLine; omega), fun a ha => ?_⟩
  have hne : h1.go ≠ a := ne_of_none x1.go.h ha
  have hnp : h1.go ≠ p := x1.go.ne x1.self (by intro e; cases e)
  refine ⟨_, rfl, p, CH K, h1.dx, _, rfl, (x1.self.fresh ha).h, T.cls_House, T.na_H_going, (by exact (by decide : (9 : Nat) < 1000)), ?_⟩
  have t2 := x1.clearStep (a := a) ha (fs := hfs (deal s).own (deal s).size h1.l h1.pb (deal s).ears h1.db h1.aw h1.pa a)
  have x2 := x1.clear ha
  refine ⟨_, rfl, q _ _ _ h1.go h1.vg (t1.trans t2) x2 ⟨e1.l, e1.kp⟩ ?_ ?_ ?_⟩
  · rw [setR_ne hne, setR_same]
  · rw [upd_ne hnp, upd_ne hne]; exact x1.go.h
  · exact L2.Paired.mapP x1.gv fun _ _ z => z.tk t2.tk

/-! ### named -/
def spNamed (K : PySem.W.Frag) : Sp := fun vs H Q _ => ∃ (i : Nat) (rl : Rl) (p : Addr) (b : Nat) (s : S) (h : HA) (g wd : Str) (ah : Bool), vs = [.ref p, .str g, .str wd, .bl ah] ∧ House K i rl H p b s h ∧ b ≤ Lim ∧ g ∈ s.line ∧
  ∀ H' l, Same H H' → H l = none → H' l = some (.lst ((named s g wd ah).map .str)) → Q (.ref l) H'
theorem sc_named : FnScope ["self", "guest", "word", "is_ahead", "place", "found", "other", "told"] ["self", "guest", "word", "is_ahead"] (defScope s_House_named) := ⟨rfl, rfl, rfl, by decide +kernel, rfl, by decide +kernel, by decide +kernel⟩
theorem ok_named (T : Txt K mg) : Ok P w K mg base CX0 1 (He.fAd K ("House", some "named")) ["self", "guest", "word", "is_ahead"] (spNamed K) := by
  refine Ok.of T.f_House_named sc_named (fun _ _ _ _ _ _ us hl => match us, hl with | [_, _, _, _], _ => rfl) (fun vs H Q E h => by obtain ⟨_, _, _, _, _, _, _, _, _, rfl, _⟩ := h; rfl) (fun cdv A outer s H vs Q E hr h => ?_)
  obtain ⟨i, rl, p, b, s, h, g, wd, ah, rfl, x, hb, hg, q⟩ := h
  have hu := hu_of hr
  refine ⟨_, (pss_cons (ps_set (i := 4) sc_named.nd rfl (Or.inl rfl) (pe_dget hu (pe_fld (pv 0) rfl) (pv 1) (fun _ _ => rfl)))
      (pss_cons (ps_set (i := 5) sc_named.nd rfl (Or.inl rfl) (pe_lst pa_nil))
      (pss_cons (ps_for PassesOwn.never rfl (pi_list (pe_slice sl_list (pe_fld (pv 0) rfl) po_none (po_some (pe_bm PySem.F.plainAttrs_list PySem.F.slot_list_index PySem.F.type_list_index mt_indexS (pe_fld (pv 0) rfl) (pa_cons (pv 1) pa_nil))))) (pg_name (i := 6) sc_named.nd rfl (Or.inl rfl)) (pss_cons (ps_set (i := 7) sc_named.nd rfl (Or.inl rfl) (pe_fld (pe_dget hu (pe_fld (pv 0) rfl) (pv 6) (fun _ _ => rfl)) rfl))
      (pss_one (ps_if (PW.pt (pw_and (pt_cmpR op_notN (pv 7) pe_non (nomark _)) (pw_and (pt_cmpR op_eq (pe_ix ix_tup (pv 7) pe_int (fun _ _ => rfl)) (pv 2) (nomark _))
            (pw_and1 (PW.pt (pw_or (pt_not (pt_val (pv 3))) (pw_or1 (pt_cmpR op_le (pe_ix ix_tup (pv 7) pe_int (fun _ _ => rfl)) (pe_fld (pv 4) rfl) (nomark _)))))))))
          (pss_one (ps_expr (pe_bm PySem.F.plainAttrs_list PySem.F.slot_list_append PySem.F.type_list_append mt_append (pv 5) (pa_cons (pv 6) pa_nil)))) pss_nil))))
      (pss_one (ps_ret (pv 5)))))), ?_⟩
  obtain ⟨a, dxa, tv, y⟩ := x.pl g hg
  refine ⟨_, rfl, p, CH K, h.dx, _, _, rfl, x.self.h, T.cls_House, T.na_H_places_by, rfl, _, rfl, h.pb, .ref a, rfl, by rw [← y.v]; exact DGet.k (k := Sum.inr g) x.pb.h, ?_⟩
  refine ⟨(by show 0 ≤ sizeLine; omega), fun f hf => ?_⟩
  have s1 : Same H (upd H f (.lst [])) := same_upd hf
  have x1 := x.same s1
  refine ⟨_, rfl, p, CH K, h.dx, _, _, rfl, x1.self.h, T.cls_House, T.na_H_line, rfl, ?_⟩
  refine ⟨_, rfl, p, CH K, h.dx, _, _, rfl, x1.self.h, T.cls_House, T.na_H_line, rfl, .inl ⟨rfl, _, SqL.of x1.line.h⟩, _, rfl, h.l, s.line, g, rfl, rfl, SqL.of x1.line.h, hg, _, rfl, h.l, _, rfl, SqL.of x1.line.h, fun sl hsl => ?_⟩
  rw [cut_to, ← List.map_take]
  have s2 := same_upd (o := HO.lst ((s.line.take (s.line.idxOf g)).map V.str)) hsl
  have nfs : f ≠ sl := ne_of_none upd_same hsl
  have hHsl : H sl = none := s1.free hsl
  refine ⟨sl, rfl, ⟨_, SqL.of upd_same⟩, for_list (K := K) (a := sl) (xs := (front s g).map V.str) (fun k σ H2 => ∃ (v1 v2 : Option V), σ = [some (.ref p), some (.str g), some (.str wd), some (.bl ah), some (.ref a), some (.ref f), v1, v2] ∧ Same H H2 ∧
      H2 sl = some (.lst ((front s g).map V.str)) ∧ H2 f = some (.lst ((((front s g).take k).filter fun o => hit wd (upOf s g ah) (s.pl o).told).map V.str))) ⟨none, none, rfl, s1.trans s2, upd_same, by rw [upd_ne nfs]; exact upd_same⟩
    (fun k σ H2 _ ⟨_, _, _, _, e, _⟩ => SqL.of e) ?_ ?_⟩
  · rintro k v σ H2 hk ⟨v1, v2, rfl, s3, hs3, hf3⟩
    rw [List.getElem?_map] at hk
    obtain ⟨o, ho, rfl⟩ := Option.map_eq_some_iff.mp hk
    have hol : o ∈ s.line := List.mem_of_mem_take (List.mem_of_getElem? ho)
    have x3 := x.same s3
    have y3 := y.c.same s3
    obtain ⟨a2, dx2, tv2, y2⟩ := x3.pl o hol
    refine ⟨_, rfl, p, CH K, h.dx, _, _, rfl, x3.self.h, T.cls_House, T.na_H_places_by, rfl, _, rfl, h.pb, .ref a2, rfl, by rw [← y2.v]; exact DGet.k (k := Sum.inr o) x3.pb.h, ?_⟩
    refine ⟨a2, CP K, dx2, _, _, rfl, y2.c.h, T.cls_Place, T.na_P_told, rfl, ?_⟩
    have e1 := take_succ_at ho
    have no : hit wd (upOf s g ah) (s.pl o).told = false → ∃ (v1 v2 : Option V), ([some (.ref p), some (.str g), some (.str wd), some (.bl ah), some (.ref a), some (.ref f), some (.str o), some tv2] : L2.St) = [some (.ref p), some (.str g), some (.str wd), some (.bl ah), some (.ref a), some (.ref f), v1, v2] ∧ Same H H2 ∧
        H2 sl = some (.lst ((front s g).map V.str)) ∧ H2 f = some (.lst ((((front s g).take (k + 1)).filter fun o => hit wd (upOf s g ah) (s.pl o).told).map V.str)) := fun hh => by
      refine ⟨_, _, rfl, s3, hs3, ?_⟩
      rw [e1, List.filter_append, List.filter_cons, if_neg (by rw [hh]; exact Bool.false_ne_true), List.filter_nil, List.append_nil]
      exact hf3
    have yes : hit wd (upOf s g ah) (s.pl o).told = true → ∃ (v1 v2 : Option V), ([some (.ref p), some (.str g), some (.str wd), some (.bl ah), some (.ref a), some (.ref f), some (.str o), some tv2] : L2.St) = [some (.ref p), some (.str g), some (.str wd), some (.bl ah), some (.ref a), some (.ref f), v1, v2] ∧
        Same H (upd H2 f (.lst ((((front s g).take k).filter fun o => hit wd (upOf s g ah) (s.pl o).told).map V.str ++ [.str o]))) ∧
        (upd H2 f (.lst ((((front s g).take k).filter fun o => hit wd (upOf s g ah) (s.pl o).told).map V.str ++ [.str o]))) sl = some (.lst ((front s g).map V.str)) ∧
        (upd H2 f (.lst ((((front s g).take k).filter fun o => hit wd (upOf s g ah) (s.pl o).told).map V.str ++ [.str o]))) f = some (.lst ((((front s g).take (k + 1)).filter fun o => hit wd (upOf s g ah) (s.pl o).told).map V.str)) := fun hh => by
      refine ⟨_, _, rfl, fun c u e => ?_, ?_, ?_⟩
      · rw [upd_ne (ne_of_none e hf)]; exact s3 _ _ e
      · rw [upd_ne nfs.symm]; exact hs3
      · rw [upd_same, e1, List.filter_append, List.filter_cons, if_pos hh, List.filter_nil, List.map_append]; rfl
    have small : ((((front s g).take k).filter fun o => hit wd (upOf s g ah) (s.pl o).told).map V.str).length < sizeLine := by
      rw [List.length_map]
      have l1 := List.length_filter_le (fun o => hit wd (upOf s g ah) (s.pl o).told) ((front s g).take k)
      have l2 := List.length_take_le k (front s g)
      have l3 : (front s g).length ≤ s.line.length := List.length_take_le' _ _
      exact lim_lt (Nat.le_trans l1 (Nat.le_trans (List.length_take_le' _ _) (Nat.le_trans l3 x.few.line))) hb
    have ht := y2.t
    cases et : (s.pl o).told with
    | none =>
      rw [et] at ht no
      have ht' : tv2 = .non := ht
      subst ht'
      exact ⟨_, rfl, rfl, _, rfl, iteF (no rfl)⟩
    | some tn =>
      obtain ⟨wt, n⟩ := tn
      rw [et] at ht no yes
      obtain ⟨t, rfl, htt⟩ := ht
      refine ⟨_, rfl, rfl, true, rfl, iteT ?_⟩
      refine ⟨_, rfl, t, _, _, _, rfl, rfl, SqT.of htt, rfl, _, rfl, rfl, _, rfl, ?_⟩
      by_cases c1 : wt = wd
      · subst c1
        rw [show decide (V.str wt = V.str wt) = true from decide_eq_true rfl]
        refine iteT ⟨_, rfl, ah, rfl, ?_⟩
        cases ah with
        | false => exact iteT (iteT ⟨_, rfl, .inl ⟨rfl, _, SqL.of hf3⟩, _, rfl, f, _, _, rfl, rfl, hf3, small, yes (by simp [hit, upOf])⟩)
        | true =>
          refine iteF ⟨_, rfl, t, _, _, _, rfl, rfl, SqT.of htt, rfl, _, rfl, a, CP K, dxa, _, _, rfl, y3.h, T.cls_Place, T.na_P_since, rfl, _, _, rfl, rfl, _, rfl, ?_⟩
          by_cases c2 : n ≤ (s.pl g).since
          · rw [decide_eq_true (show ((n : Nat) : Int) ≤ ((s.pl g).since : Int) by omega)]
            exact iteT ⟨_, rfl, .inl ⟨rfl, _, SqL.of hf3⟩, _, rfl, f, _, _, rfl, rfl, hf3, small, yes (by simp [hit, upOf, c2])⟩
          · rw [decide_eq_false (show ¬ ((n : Nat) : Int) ≤ ((s.pl g).since : Int) by omega)]
            exact iteF (no (by simp [hit, upOf, c2]))
      · rw [decide_eq_false (show ¬ V.str wt = V.str wd from fun z => c1 (by cases z; rfl))]
        exact iteF (no (by simp [hit, c1]))
  · rintro σ H2 ⟨v1, v2, rfl, s3, hs3, hf3⟩
    rw [List.length_map, List.take_length] at hf3
    exact ⟨_, rfl, q H2 f s3 hf hf3⟩
end
end G
set_option Elab.async false
set_option linter.all false
set_option maxRecDepth 100000
set_option maxHeartbeats 4000000
namespace G
open PySem PySem.Spec PyProof.Rows L2
theorem setPl_self (s : S) (g : Str) : s.setPl g (s.pl g) = s := by
  unfold S.setPl
  have e : (fun x => if x = g then s.pl g else s.pl x) = s.pl := by
    funext x
    by_cases h : x = g
    · rw [if_pos h, h]
    · rw [if_neg h]
  rw [e]
theorem setPl_same (s : S) (g : Str) (q : Pl) : (s.setPl g q).pl g = q := if_pos rfl
theorem oV_scal (a b : Option Str) : scal (oV a) (oV b) = true := by cases a <;> cases b <;> rfl
theorem oV_inj {a b : Option Str} : oV a = oV b ↔ a = b := by
  constructor
  · intro h
    cases a with
    | none => cases b with
      | none => rfl
      | some y => cases h
    | some x => cases b with
      | none => cases h
      | some y =>
        have e : V.str x = V.str y := h
        injection e with e
        rw [e]
  · intro h; rw [h]
theorem oV_dec (a b : Option Str) : decide (oV a = oV b) = decide (a = b) := decide_eq_decide.mpr oV_inj
section
variable {P : Program} {w : World} {K : PySem.W.Frag} {mg : Str → Option Value} {base : Heap}

/-! ### given -/
def spGiven (K : PySem.W.Frag) : Sp := fun vs H Q _ => ∃ (i : Nat) (rl : Rl) (p : Addr) (b : Nat) (s : S) (h : HA) (g : Str) (ah : Bool), vs = [.ref p, .str g, .bl ah] ∧ House K i rl H p b s h ∧ b ≤ Lim ∧ g ∈ s.line ∧
  ∀ H', Same H H' → Q (oV (given s g ah)) H'
theorem sc_given : FnScope ["self", "guest", "is_ahead", "left"] ["self", "guest", "is_ahead"] (defScope s_House_given) := ⟨rfl, rfl, rfl, by decide +kernel, rfl, by decide +kernel, by decide +kernel⟩
theorem ok_given (T : Txt K mg) : Ok P w K mg base CX0 2 (He.fAd K ("House", some "given")) ["self", "guest", "is_ahead"] (spGiven K) := by
  obtain ⟨fd1, G1, b1, k1⟩ := (ok_named (P := P) (w := w) (base := base) T).ex
  refine Ok.of T.f_House_given sc_given (fun _ _ _ _ _ _ us hl => match us, hl with | [_, _, _], _ => rfl) (fun vs H Q E h => by obtain ⟨_, _, _, _, _, _, _, _, rfl, _⟩ := h; rfl) (fun cdv A outer s H vs Q E hr h => ?_)
  obtain ⟨i, rl, p, b, s, h, g, ah, rfl, x, hb, hg, q⟩ := h
  obtain ⟨t2, c2⟩ := T.c_IN
  obtain ⟨t3, c3⟩ := T.c_OUT
  obtain ⟨t4, c4⟩ := T.c_CLEAR
  obtain ⟨t5, c5⟩ := T.c_BARRED
  refine ⟨_, (pss_cons (ps_if (pt_cmpR op_ge (pe_callB call_len_seq (by rfl) T.n_len PySem.boot_len (pa_cons (pe_meth (pv 0) T.cls_House T.m_named G1 hr b1 .nil pass0 (pa_cons (pv 1) (pa_cons (pe_glob (v := .str "in") rfl c2 ⟨t2, rfl⟩) (pa_cons (pv 2) pa_nil)))) pa_nil)) (pe_fld (pv 0) rfl) (nomark _))
        (pss_one (ps_ret (pe_glob (v := .str "barred") rfl c5 ⟨t5, rfl⟩))) pss_nil)
      (pss_cons (ps_set (i := 3) sc_given.nd rfl (Or.inl rfl) (pe_op op_sub (pe_bm PySem.F.plainAttrs_list PySem.F.slot_list_index PySem.F.type_list_index mt_indexS (pe_fld (pv 0) rfl) (pa_cons (pv 1) pa_nil))
        (pe_callB call_len_seq (by rfl) T.n_len PySem.boot_len (pa_cons (pe_meth (pv 0) T.cls_House T.m_named G1 hr b1 .nil pass0 (pa_cons (pv 1) (pa_cons (pe_glob (v := .str "out") rfl c3 ⟨t3, rfl⟩) (pa_cons (pv 2) pa_nil)))) pa_nil))))
      (pss_one (ps_ret (pe_ifExp (pt_cmpR op_lt (pv 3) (pe_fld (pv 0) rfl) (nomark _)) (pe_glob (v := .str "clear") rfl c4 ⟨t4, rfl⟩) pe_non))))), ?_⟩
  refine ⟨_, rfl, p, h.dx, _, rfl, x.self.h, rfl, _, rfl, _, rfl, i, rl, p, b, s, h, g, "in", ah, rfl, x, hb, hg, fun H1 l1 s1 n1 e1 => ?_⟩
  have x1 := x.same s1
  refine ⟨l1, _, rfl, .inl (SqL.of e1), _, rfl, p, CH K, h.dx, _, _, rfl, x1.self.h, T.cls_House, T.na_H_size, rfl, _, _, rfl, rfl, _, rfl, ?_⟩
  rw [List.length_map]
  unfold given givenBy at q
  have en : heardAs s g "in" (upOf s g ah) = named s g "in" ah := rfl
  have eo : heardAs s g "out" (upOf s g ah) = named s g "out" ah := rfl
  rw [en, eo] at q
  by_cases c : s.size ≤ (named s g "in" ah).length
  · rw [if_pos c] at q
    rw [decide_eq_true (show ((s.size : Nat) : Int) ≤ ((named s g "in" ah).length : Int) by omega)]
    exact iteT (q H1 s1)
  · rw [if_neg c] at q
    rw [decide_eq_false (show ¬ ((s.size : Nat) : Int) ≤ ((named s g "in" ah).length : Int) by omega)]
    refine iteF ⟨_, rfl, p, CH K, h.dx, _, _, rfl, x1.self.h, T.cls_House, T.na_H_line, rfl, .inl ⟨rfl, _, SqL.of x1.line.h⟩, _, rfl, h.l, s.line, g, rfl, rfl, SqL.of x1.line.h, hg, ?_⟩
    refine ⟨_, rfl, p, h.dx, _, rfl, x1.self.h, rfl, _, rfl, _, rfl, i, rl, p, b, s, h, g, "out", ah, rfl, x1, hb, hg, fun H2 l2 s2 n2 e2 => ?_⟩
    have x2 := x1.same s2
    refine ⟨l2, _, rfl, .inl (SqL.of e2), _, _, rfl, rfl, ?_⟩
    rw [List.length_map]
    refine ⟨_, rfl, _, rfl, p, CH K, h.dx, _, _, rfl, x2.self.h, T.cls_House, T.na_H_size, rfl, _, _, rfl, rfl, _, rfl, ?_⟩
    by_cases d : (s.line.idxOf g : Int) - (named s g "out" ah).length < s.size
    · rw [if_pos d] at q
      rw [decide_eq_true d]
      exact iteT (q H2 (s1.trans s2))
    · rw [if_neg d] at q
      rw [decide_eq_false d]
      exact iteF (q H2 (s1.trans s2))

/-! ### look -/
def spLook (K : PySem.W.Frag) : Sp := fun vs H Q _ => ∃ (i : Nat) (rl : Rl) (p : Addr) (b : Nat) (s : S) (h : HA) (g : Str) (c : Option Str), vs = [.ref p, .str g, oV c] ∧ House K i rl H p b s h ∧ b + 2 ≤ Lim ∧ g ∈ s.line ∧
  ∀ H' h', Step i rl H rl H' → House K i rl H' p (b + 2) (look s g c).1 h' → Al h h' → Q (.bl (look s g c).2) H'
theorem sc_look : FnScope ["self", "guest", "cause", "place"] ["self", "guest", "cause"] (defScope s_House_look) := ⟨rfl, rfl, rfl, by decide +kernel, rfl, by decide +kernel, by decide +kernel⟩
theorem ok_look (T : Txt K mg) : Ok P w K mg base CX0 3 (He.fAd K ("House", some "look")) ["self", "guest", "cause"] (spLook K) := by
  obtain ⟨fd1, G1, b1, k1⟩ := (ok_given (P := P) (w := w) (base := base) T).ex
  obtain ⟨fd2, G2, b2, k2⟩ := (ok_tell (P := P) (w := w) (base := base) T).ex
  refine Ok.of T.f_House_look sc_look (fun _ _ _ _ _ _ us hl => match us, hl with | [_, _, _], _ => rfl) (fun vs H Q E h => by obtain ⟨_, _, _, _, _, _, _, _, rfl, _⟩ := h; rfl) (fun cdv A outer s H vs Q E hr h => ?_)
  obtain ⟨i, rl, p, b, s, h, g, c, rfl, x, hb, hg, q⟩ := h
  have hu := hu_of hr
  have hr2 : Room 1 _ := hr.mono (by decide)
  obtain ⟨t2, c2⟩ := T.c_WORD
  refine ⟨_, (pss_cons (ps_set (i := 3) sc_look.nd rfl (Or.inl rfl) (pe_dget hu (pe_fld (pv 0) rfl) (pv 1) (fun _ _ => rfl)))
      (pss_cons (ps_if (pt_val (pe_fld (pv 3) rfl)) (pss_one (ps_ret pe_bl)) pss_nil)
      (pss_cons (ps_if (pt_cmpR op_notN (pe_fld (pv 3) rfl) pe_non (nomark _)) (pss_cons (ps_if (pt_cmpR op_eq (pe_meth (pv 0) T.cls_House T.m_given G1 hr b1 .nil pass0 (pa_cons (pv 1) (pa_cons (pe_bl) pa_nil))) (pe_fld (pv 3) rfl) (nomark _)) (pss_one (ps_ret pe_bl)) pss_nil)
      (pss_cons (ps_fld (pv 3) pe_non rfl)
      (pss_cons (ps_fld (pv 3) pe_bl rfl)
      (pss_cons (ps_fld (pv 3) (pv 2) rfl)
      (pss_cons (ps_expr (pe_bm PySem.F.plainAttrs_list PySem.F.slot_list_append PySem.F.type_list_append mt_append (pe_fld (pv 0) rfl) (pa_cons (pe_tup (pa_cons (pv 1) (pa_cons (pe_non) (pa_cons (pv 2) pa_nil)))) pa_nil)))
      (pss_cons (ps_expr (pe_meth (pv 0) T.cls_House T.m_tell G2 hr2 b2 .nil pass0 (pa_cons (pv 1) (pa_cons (pe_glob (v := .ref (He.ga K "OPEN")) rfl T.g_OPEN rfl) pa_nil))))
      (pss_one (ps_ret pe_bl)))))))) pss_nil)
      (pss_cons (ps_fld (pv 3) (pe_meth (pv 0) T.cls_House T.m_given G1 hr b1 .nil pass0 (pa_cons (pv 1) (pa_cons (pe_bl) pa_nil))) rfl)
      (pss_cons (ps_if (pt_cmpR op_notN (pe_fld (pv 3) rfl) pe_non (nomark _)) (pss_cons (ps_fld (pv 3) (pe_fld (pv 0) rfl) rfl)
      (pss_cons (ps_expr (pe_bm PySem.F.plainAttrs_list PySem.F.slot_list_append PySem.F.type_list_append mt_append (pe_fld (pv 0) rfl) (pa_cons (pe_tup (pa_cons (pv 1) (pa_cons (pe_fld (pv 3) rfl) (pa_cons (pe_non) pa_nil)))) pa_nil)))
      (pss_one (ps_expr (pe_meth (pv 0) T.cls_House T.m_tell G2 hr2 b2 .nil pass0 (pa_cons (pv 1) (pa_cons (pe_tup (pa_cons (pe_glob (v := .str "word") rfl c2 ⟨t2, rfl⟩) (pa_cons (pe_fld (pv 3) rfl) pa_nil))) pa_nil))))))) pss_nil)
      (pss_one (ps_ret pe_bl))))))), ?_⟩
  obtain ⟨a, dxa, tv, y⟩ := x.pl g hg
  refine ⟨_, rfl, p, CH K, h.dx, _, _, rfl, x.self.h, T.cls_House, T.na_H_places_by, rfl, _, rfl, h.pb, .ref a, rfl, by rw [← y.v]; exact DGet.k (k := Sum.inr g) x.pb.h, ?_⟩
  refine ⟨_, rfl, a, CP K, dxa, _, _, rfl, y.c.h, T.cls_Place, T.na_P_opened, rfl, _, rfl, ?_⟩
  unfold look at q
  cases eo : (s.pl g).opened with
  | true =>
    rw [if_pos eo] at q
    exact iteT (q H h Step.refl (x.mono (by omega)) (Al.refl h))
  | false =>
    rw [if_neg (by rw [eo]; exact Bool.false_ne_true)] at q
    refine iteF ⟨_, rfl, a, CP K, dxa, _, _, rfl, y.c.h, T.cls_Place, T.na_P_mark, rfl, rfl, _, rfl, ?_⟩
    have ey : y.c.h = y.c.h := rfl
    cases em : (s.pl g).mark with
    | some m =>
      rw [em] at q
      dsimp only at q
      refine iteT ⟨_, rfl, p, h.dx, _, rfl, x.self.h, rfl, _, rfl, i, rl, p, b, s, h, g, true, rfl, x, by omega, hg, fun H1 s1 => ?_⟩
      have x1 := x.same s1
      have y1 := y.tr (fun _ _ _ z => C.same z s1) (sameTk s1)
      refine ⟨_, rfl, a, CP K, dxa, _, _, rfl, y1.c.h, T.cls_Place, T.na_P_mark, rfl, ?_, _, rfl, ?_⟩
      · rw [em]; exact oV_scal _ _
      rw [em, oV_dec]
      by_cases cg : given s g true = some m
      · rw [decide_eq_true cg]
        rw [if_pos cg] at q
        exact iteT (q H1 h (Step.same s1) (x1.mono (by omega)) (Al.refl h))
      · rw [decide_eq_false cg]
        rw [if_neg cg] at q
        refine iteF ⟨_, rfl, a, CP K, dxa, _, rfl, y1.c.h, T.cls_Place, T.na_P_mark, (by exact (by decide : (5 : Nat) < 1000)), ?_⟩
        refine ⟨_, rfl, a, CP K, dxa, _, rfl, upd_same, T.cls_Place, T.na_P_opened, (by exact (by decide : (5 : Nat) < 1000)), ?_⟩
        refine ⟨_, rfl, _, rfl, a, CP K, dxa, _, rfl, upd_same, T.cls_Place, T.na_P_source, (by exact (by decide : (5 : Nat) < 1000)), ?_⟩
        rw [upd_upd, upd_upd]
        obtain ⟨x2, y2⟩ := x1.setPl (q' := { (s.pl g) with mark := none, opened := true, source := c }) y1 (tv' := tv) y1.t
        have t2 := Step.write y1.c (fun z => z) (o' := .ins (CP K) dxa (pfs tv { (s.pl g) with mark := none, opened := true, source := c }))
        refine ⟨_, rfl, p, CH K, h.dx, _, _, rfl, x2.self.h, T.cls_House, T.na_H_past, rfl, .inl ⟨rfl, _, SqL.of x2.pa.h⟩, _, rfl, _, rfl, (by show 3 ≤ sizeLine; decide), fun t hT => ?_⟩
        have s3 := same_upd (o := HO.tup [V.str g, V.non, oV c]) hT
        have x3 := x2.same s3
        refine ⟨h.pa, _, _, rfl, rfl, x3.pa.h, lim_lt (len_vp x3) (by omega), ?_⟩
        have x4 := x3.note (g := g) (m := none) (n := c) ⟨t, rfl, upd_same⟩
        have t4 := Step.write x3.pa (fun z => z) (o' := .lst (h.vp ++ [V.ref t]))
        refine ⟨_, rfl, p, h.dx, _, rfl, x4.self.h, rfl, _, rfl, i, rl, p, _, _, _, g, He.ga K "OPEN", lOpen, rfl, x4, by omega, .inr fun H' => T.t_OPEN H', fun H5 h5 t5 x5 e5 => ?_⟩
        exact q H5 h5 (((Step.same s1).trans t2).trans ((Step.same s3).trans (t4.trans t5))) x5 ⟨e5.l, e5.kp⟩
    | none =>
      rw [em] at q
      dsimp only at q
      refine iteF ⟨_, rfl, p, h.dx, _, rfl, x.self.h, rfl, _, rfl, i, rl, p, b, s, h, g, false, rfl, x, by omega, hg, fun H1 s1 => ?_⟩
      have x1 := x.same s1
      have y1 := y.tr (fun _ _ _ z => C.same z s1) (sameTk s1)
      refine ⟨_, rfl, a, CP K, dxa, _, rfl, y1.c.h, T.cls_Place, T.na_P_mark, (by exact (by decide : (5 : Nat) < 1000)), ?_⟩
      cases egv : given s g false with
      | none =>
        rw [egv] at q
        dsimp only at q
        obtain ⟨x2, y2⟩ := x1.setPl (q' := { (s.pl g) with mark := none }) y1 (tv' := tv) y1.t
        have t2 := Step.write y1.c (fun z => z) (o' := .ins (CP K) dxa (pfs tv { (s.pl g) with mark := none }))
        refine ⟨_, rfl, a, CP K, dxa, _, _, rfl, y2.c.h, T.cls_Place, T.na_P_mark, rfl, rfl, _, rfl, iteF ?_⟩
        refine q _ h ((Step.same s1).trans t2) ?_ (Al.refl h)
        have e : ({ (s.pl g) with mark := none } : Pl) = s.pl g := by
          have : s.pl g = ⟨(s.pl g).told, (s.pl g).mark, (s.pl g).since, (s.pl g).opened, (s.pl g).source⟩ := rfl
          rw [this, em]
        have e2 : s.setPl g { (s.pl g) with mark := none } = s := by rw [e]; exact setPl_self s g
        rw [e2] at x2
        exact x2.mono (by omega)
      | some m =>
        rw [egv] at q
        dsimp only at q
        obtain ⟨x2, y2⟩ := x1.setPl (q' := { (s.pl g) with mark := some m }) y1 (tv' := tv) y1.t
        have t2 := Step.write y1.c (fun z => z) (o' := .ins (CP K) dxa (pfs tv { (s.pl g) with mark := some m }))
        refine ⟨_, rfl, a, CP K, dxa, _, _, rfl, y2.c.h, T.cls_Place, T.na_P_mark, rfl, rfl, _, rfl, iteT ?_⟩
        refine ⟨_, rfl, p, CH K, h.dx, _, _, rfl, x2.self.h, T.cls_House, T.na_H_ears, rfl, _, rfl, a, CP K, dxa, _, rfl, y2.c.h, T.cls_Place, T.na_P_since, (by exact (by decide : (5 : Nat) < 1000)), ?_⟩
        have t3 := Step.write y2.c (fun z => z) (o' := .ins (CP K) dxa (pfs tv { (s.pl g) with mark := some m, since := s.ears }))
        have t3' := t2.trans t3
        obtain ⟨x3, y3⟩ := x1.setPl (q' := { (s.pl g) with mark := some m, since := s.ears }) y1 (tv' := tv) y1.t
        rw [upd_upd] at t3'
        rw [upd_upd]
        refine ⟨_, rfl, p, CH K, h.dx, _, _, rfl, x3.self.h, T.cls_House, T.na_H_past, rfl, .inl ⟨rfl, _, SqL.of x3.pa.h⟩, _, rfl, _, rfl, a, CP K, dxa, _, _, rfl, y3.c.h, T.cls_Place, T.na_P_mark, rfl, (by show 3 ≤ sizeLine; decide), fun t hT => ?_⟩
        have s4 := same_upd (o := HO.tup [V.str g, V.str m, V.non]) hT
        have x4 := x3.same s4
        refine ⟨h.pa, _, _, rfl, rfl, x4.pa.h, lim_lt (len_vp x4) (by omega), ?_⟩
        have x5 := x4.note (g := g) (m := some m) (n := none) (v := .ref t) ⟨t, rfl, upd_same⟩
        have t5 := Step.write x4.pa (fun z => z) (o' := .lst (h.vp ++ [V.ref t]))
        have y5 := (y3.c.same s4).upd x4.pa (by intro e; cases e) (o' := .lst (h.vp ++ [V.ref t]))
        refine ⟨_, rfl, p, h.dx, _, rfl, x5.self.h, rfl, _, rfl, _, rfl, a, CP K, dxa, _, _, rfl, y5.h, T.cls_Place, T.na_P_mark, rfl, (by show 2 ≤ sizeLine; decide), fun u hU => ?_⟩
        have s6 := same_upd (o := HO.tup [V.str "word", V.str m]) hU
        refine ⟨i, rl, p, _, _, _, g, u, lWord m, rfl, x5.same s6, by omega, .inl upd_same, fun H7 h7 t7 x7 e7 => ?_⟩
        have fin := q H7 h7 (((Step.same s1).trans t3').trans ((Step.same s4).trans (t5.trans ((Step.same s6).trans t7)))) x7 ⟨e7.l, e7.kp⟩
        exact fin
end
end G
set_option Elab.async false
set_option linter.all false
set_option maxRecDepth 100000
set_option maxHeartbeats 4000000
namespace G
open PySem PySem.Spec PyProof.Rows L2
/-! ### looks in a row: the mathematics -/
theorem giveUp_line (s : S) (g : Str) (c : Option Str) : (giveUp s g c).line = s.line := rfl
theorem settle_line (s : S) (g m : Str) : (settle s g m).line = s.line := rfl
theorem look_cases (s : S) (g : Str) (c : Option Str) : (look s g c = (s, false)) ∨ (look s g c = (giveUp s g c, true)) ∨ ∃ m, look s g c = (settle s g m, false) := by
  unfold look
  split
  · exact .inl rfl
  · split
    · split
      · exact .inl rfl
      · exact .inr (.inl rfl)
    · split
      · exact .inl rfl
      · exact .inr (.inr ⟨_, rfl⟩)
theorem look_line (s : S) (g : Str) (c : Option Str) : (look s g c).1.line = s.line := by
  rcases look_cases s g c with e | e | ⟨m, e⟩ <;> rw [e] <;> rfl
theorem lookN_snoc (s : S) (c : Option Str) (l : List Str) (g : Str) : lookN s c (l ++ [g]) = lookStep c (lookN s c l) g := by
  unfold lookN; rw [List.foldl_append]; rfl
theorem lookF_line (c : Option Str) (l : List Str) : ∀ a : S × List Str, (l.foldl (lookStep c) a).1.line = a.1.line := by
  induction l with
  | nil => intro a; rfl
  | cons g l ih => intro a; rw [List.foldl_cons, ih]; exact look_line _ _ _
theorem lookN_line (s : S) (c : Option Str) (l : List Str) : (lookN s c l).1.line = s.line := lookF_line c l _
section
variable {P : Program} {w : World} {K : PySem.W.Frag} {mg : Str → Option Value} {base : Heap}

/-! ### look_at_all -/
def spLookAll (K : PySem.W.Frag) : Sp := fun vs H Q _ => ∃ (i : Nat) (rl : Rl) (p : Addr) (b : Nat) (s : S) (h : HA), vs = [.ref p] ∧ House K i rl H p b s h ∧ b + 2 * s.line.length ≤ Lim ∧
  ∀ H' h', Step i rl H rl H' → House K i rl H' p (b + 2 * s.line.length) (lookAll s) h' → Al h h' → Q .non H'
theorem sc_lookAll : FnScope ["self", "guest"] ["self"] (defScope s_House_look_at_all) := ⟨rfl, rfl, rfl, by decide +kernel, rfl, by decide +kernel, by decide +kernel⟩
theorem ok_lookAll (T : Txt K mg) : Ok P w K mg base CX0 4 (He.fAd K ("House", some "look_at_all")) ["self"] (spLookAll K) := by
  obtain ⟨fd1, G1, b1, k1⟩ := (ok_look (P := P) (w := w) (base := base) T).ex
  refine Ok.of T.f_House_look_at_all sc_lookAll (fun _ _ _ _ _ _ us hl => match us, hl with | [_], _ => rfl) (fun vs H Q E h => by obtain ⟨_, _, _, _, _, _, rfl, _⟩ := h; rfl) (fun cdv A outer s H vs Q E hr h => ?_)
  obtain ⟨i, rl, p, b, s, h, rfl, x, hb, q⟩ := h
  refine ⟨_, (pss_one (ps_for PassesOwn.never rfl (pi_list (pe_fld (pv 0) rfl)) (pg_name (i := 1) sc_lookAll.nd rfl (Or.inl rfl)) (pss_one (ps_expr (pe_meth (pv 0) T.cls_House T.m_look G1 hr b1 .nil pass0 (pa_cons (pv 1) (pa_cons (pe_non) pa_nil))))))), ?_⟩
  refine ⟨_, rfl, p, CH K, h.dx, _, _, rfl, x.self.h, T.cls_House, T.na_H_line, rfl, h.l, rfl, ⟨_, SqL.of x.line.h⟩, ?_⟩
  refine for_list (K := K) (a := h.l) (xs := s.line.map V.str) (fun k σ H2 => ∃ (h2 : HA) (v1 : Option V), σ = [some (.ref p), v1] ∧ Al h h2 ∧ Step i rl H rl H2 ∧ House K i rl H2 p (b + 2 * k) (lookN s none (s.line.take k)).1 h2) ⟨h, none, rfl, Al.refl h, Step.refl, x⟩
    (fun k σ H2 _ ⟨h2, _, _, e, _, x2⟩ => by
      have z := x2.line.h
      rw [e.l, lookN_line] at z
      exact SqL.of z) ?_ ?_
  · rintro k v σ H2 hk ⟨h2, v1, rfl, el, t2, x2⟩
    rw [List.getElem?_map] at hk
    obtain ⟨g, hg, rfl⟩ := Option.map_eq_some_iff.mp hk
    have hkl : k < s.line.length := (List.getElem?_eq_some_iff.mp hg).1
    refine ⟨_, rfl, p, h2.dx, _, rfl, x2.self.h, rfl, _, rfl, i, rl, p, _, _, h2, g, none, rfl, x2, by omega, by rw [lookN_line]; exact List.mem_of_getElem? hg, fun H3 h3 t3 x3 e3 => ?_⟩
    refine ⟨h3, _, rfl, el.trans e3, t2.trans t3, ?_⟩
    rw [take_succ_at hg, lookN_snoc]
    exact x3
  · rintro σ H2 ⟨h2, v1, rfl, el, t2, x2⟩
    rw [List.length_map, List.take_length] at x2
    exact q H2 h2 t2 x2 el

/-! ### look_behind -/
def spBehind (K : PySem.W.Frag) : Sp := fun vs H Q _ => ∃ (i : Nat) (rl : Rl) (p : Addr) (b : Nat) (s : S) (h : HA) (g : Str), vs = [.ref p, .str g] ∧ House K i rl H p b s h ∧ b + 2 * s.line.length ≤ Lim ∧ g ∈ s.line ∧
  ∀ rl' H' h' D, Step i rl H rl' H' → House K i rl' H' p (b + 2 * s.line.length) (lookN s (some g) (behind s g)).1 h' → Al h h' → rl' D = none → H D = none → H' D = some (.lst ((lookN s (some g) (behind s g)).2.map .str)) → Q (.ref D) H'
theorem sc_behind : FnScope ["self", "guest", "behind", "other"] ["self", "guest"] (defScope s_House_look_behind) := ⟨rfl, rfl, rfl, by decide +kernel, rfl, by decide +kernel, by decide +kernel⟩
theorem behind_le (s : S) (g : Str) : (behind s g).length ≤ s.line.length := by unfold behind; rw [List.length_drop]; omega
theorem lookF_len (c : Option Str) (l : List Str) : ∀ a : S × List Str, (l.foldl (lookStep c) a).2.length ≤ a.2.length + l.length := by
  induction l with
  | nil => intro a; exact Nat.le_refl _
  | cons g l ih =>
    intro a
    rw [List.foldl_cons]
    have h1 := ih (lookStep c a g)
    have h2 : (lookStep c a g).2.length ≤ a.2.length + 1 := by
      show (if (look a.1 g c).2 then a.2 ++ [g] else a.2).length ≤ _
      split
      · rw [List.length_append]; exact Nat.le_refl _
      · omega
    rw [List.length_cons]
    omega
theorem lookN_len (s : S) (c : Option Str) (l : List Str) : (lookN s c l).2.length ≤ l.length := by
  have h := lookF_len c l (s, [])
  have h2 : ((s, []) : S × List Str).2.length = 0 := rfl
  unfold lookN
  omega
theorem ok_behind (T : Txt K mg) : Ok P w K mg base CX0 4 (He.fAd K ("House", some "look_behind")) ["self", "guest"] (spBehind K) := by
  obtain ⟨fd1, G1, b1, k1⟩ := (ok_look (P := P) (w := w) (base := base) T).ex
  refine Ok.of T.f_House_look_behind sc_behind (fun _ _ _ _ _ _ us hl => match us, hl with | [_, _], _ => rfl) (fun vs H Q E h => by obtain ⟨_, _, _, _, _, _, _, rfl, _⟩ := h; rfl) (fun cdv A outer s H vs Q E hr h => ?_)
  obtain ⟨i, rl, p, b, s, h, g, rfl, x, hb, hg, q⟩ := h
  refine ⟨_, (pss_cons (ps_set (i := 2) sc_behind.nd rfl (Or.inl rfl) (pe_slice sl_list (pe_fld (pv 0) rfl) (po_some (pe_op op_add (pe_bm PySem.F.plainAttrs_list PySem.F.slot_list_index PySem.F.type_list_index mt_indexS (pe_fld (pv 0) rfl) (pa_cons (pv 1) pa_nil)) pe_int)) po_none))
      (pss_one (ps_ret (pe_lc (own := [("other", 3)]) (g := gName 3) (tt := tB (tMeth (CH K) "look" (spLook K) [] E0 (tVar 0) (tCons (tVar 3) (tCons (tVar 1) tNil)))) (te := tVar 3) rfl sc_behind.nd (pi_list (pv 2)) (blkOk_by (N := ["self", "guest", "behind", "other"]) (sc := defScope s_House_look_behind) (by decide +kernel))
        (fun _ _ _ _ _ => pg_name (i := 3) sc_behind.nd rfl (Or.inl rfl)) (fun _ _ _ _ _ => pts_one (pt_val (pe_meth (pv 0) T.cls_House T.m_look G1 hr b1 .nil pass0 (pa_cons (pv 3) (pa_cons (pv 1) pa_nil))))) (fun _ _ _ _ _ => pv 3))))), ?_⟩
  refine ⟨_, rfl, p, CH K, h.dx, _, _, rfl, x.self.h, T.cls_House, T.na_H_line, rfl, ?_⟩
  refine ⟨_, rfl, p, CH K, h.dx, _, _, rfl, x.self.h, T.cls_House, T.na_H_line, rfl, .inl ⟨rfl, _, SqL.of x.line.h⟩, _, rfl, h.l, s.line, g, rfl, rfl, SqL.of x.line.h, hg, _, _, rfl, rfl, _, rfl, h.l, _, rfl, SqL.of x.line.h, fun sl hsl => ?_⟩
  rw [show ((s.line.idxOf g : Nat) : Int) + 1 = ((s.line.idxOf g + 1 : Nat) : Int) from by push_cast; rfl, cut_from, ← List.map_drop]
  have s1 := same_upd (o := HO.lst ((behind s g).map V.str)) hsl
  refine ⟨_, rfl, sl, rfl, ⟨_, SqL.of upd_same⟩, fun D hD => ?_⟩
  have x1 : House K i (setR rl sl none) (upd H sl (.lst ((behind s g).map V.str))) p b s h := x.tr (fun _ _ _ z => (z.role hsl).fresh hsl) (sameTk s1)
  have x2 : House K i (setR (setR rl sl none) D none) (upd (upd H sl (.lst ((behind s g).map V.str))) D (.lst [])) p b s h := x1.tr (fun _ _ _ z => (z.role hD).fresh hD) (sameTk (same_upd hD))
  have nsD : sl ≠ D := ne_of_none upd_same hD
  have t1 : Step i rl H (setR rl sl none) (upd H sl (.lst ((behind s g).map V.str))) := Step.own hsl
  have t2 : Step i (setR rl sl none) (upd H sl (.lst ((behind s g).map V.str))) (setR (setR rl sl none) D none) (upd (upd H sl (.lst ((behind s g).map V.str))) D (.lst [])) := Step.own hD
  have rD : setR (setR rl sl none) D none D = none := setR_same
  have rs : setR (setR rl sl none) D none sl = none := by rw [setR_ne nsD, setR_same]
  have hDn : H D = none := s1.free hD
  generalize setR (setR rl sl none) D none = rl2 at x2 t2 rD rs
  refine lc_list (K := K) (a := sl) (xs := (behind s g).map V.str) (fun k H2 => ∃ h2, Al h h2 ∧ Step i rl H rl2 H2 ∧ House K i rl2 H2 p (b + 2 * k) (lookN s (some g) ((behind s g).take k)).1 h2 ∧ H2 sl = some (.lst ((behind s g).map V.str)) ∧ H2 D = some (.lst ((lookN s (some g) ((behind s g).take k)).2.map V.str)))
    ⟨h, Al.refl h, t1.trans t2, x2, by rw [upd_ne nsD]; exact upd_same, upd_same⟩ (fun k H2 _ ⟨_, _, _, _, e, _⟩ => SqL.of e) ?_ ?_
  · rintro k v H2 hk ⟨h2, el, t3, x3, es, eD⟩
    rw [List.getElem?_map] at hk
    obtain ⟨o, ho, rfl⟩ := Option.map_eq_some_iff.mp hk
    have hkl : k < (behind s g).length := (List.getElem?_eq_some_iff.mp ho).1
    have hle := behind_le s g
    have hol : o ∈ s.line := List.mem_of_mem_drop (List.mem_of_getElem? ho)
    have e1 : lookN s (some g) ((behind s g).take (k + 1)) = lookStep (some g) (lookN s (some g) ((behind s g).take k)) o := by rw [take_succ_at ho, lookN_snoc]
    have hln := lookN_len s (some g) ((behind s g).take k)
    have hlt := List.length_take_le k (behind s g)
    have hll : (lookN s (some g) ((behind s g).take k)).1.line = s.line := lookN_line _ _ _
    refine ⟨rfl, _, rfl, p, h2.dx, _, rfl, x3.self.h, rfl, _, rfl, _, rfl, i, rl2, p, _, _, h2, o, some g, rfl, x3, by omega, by rw [hll]; exact hol, fun H4 h4 t4 x4 e4 => ?_⟩
    have es4 : H4 sl = _ := t4.keep _ _ es (.inl fun r e => by rw [rs] at e; cases e)
    have eD4 : H4 D = _ := t4.keep _ _ eD (.inl fun r e => by rw [rD] at e; cases e)
    rw [e1]
    refine ⟨_, rfl, ?_⟩
    unfold lookStep
    generalize lookN s (some g) ((behind s g).take k) = sk at x4 eD4 hln
    cases eb : (look sk.1 o (some g)).2 with
    | false => exact iteF ⟨h4, el.trans e4, t3.trans t4, x4, es4, eD4⟩
    | true =>
      refine iteT ⟨_, rfl, _, eD4, by rw [List.length_map]; exact lim_lt (Nat.le_trans hln (Nat.le_trans hlt (Nat.le_trans (show k ≤ b + 2 * s.line.length by omega) (Nat.le_refl _)))) hb, h4, el.trans e4, ?_, ?_, ?_, ?_⟩
      · exact (t3.trans t4).side hDn
      · exact x4.tr (fun _ _ _ z => z.side rD) (tk_upd fun xs e => by rw [eD4] at e; cases e)
      · rw [upd_ne nsD]; exact es4
      · rw [upd_same, if_pos rfl, List.map_append]; rfl
  · rintro H2 ⟨h2, el, t3, x3, es, eD⟩
    rw [List.length_map, List.take_length] at x3 eD
    exact q rl2 H2 h2 D t3 (x3.mono (by have := behind_le s g; omega)) el rD hDn eD
end
end G
set_option Elab.async false
set_option linter.all false
set_option maxRecDepth 100000
set_option maxHeartbeats 4000000
namespace G
open PySem PySem.Spec PyProof.Rows L2
/-! ### paying: the mathematics -/
theorem pay_line (g : Str) (s : S) (o : Str) : (pay g s o).line = s.line := by
  unfold pay
  split
  · rfl
  · split
    · split <;> rfl
    · rfl
theorem payF_line (g : Str) (l : List Str) : ∀ s : S, (l.foldl (pay g) s).line = s.line := by
  induction l with
  | nil => intro s; rfl
  | cons o l ih => intro s; rw [List.foldl_cons, ih, pay_line]
theorem noMore_line (s : S) (g : Str) : (noMore s g).line = s.line := payF_line _ _ _
theorem pay_other (g : Str) (s : S) (o x : Str) (h : x ≠ o) : (pay g s o).debts x = s.debts x := by
  unfold pay
  split
  · rfl
  · split
    · split
      · exact if_neg h
      · exact if_neg h
    · rfl
theorem payF_other (g : Str) (l : List Str) (x : Str) : ∀ s : S, x ∉ l → (l.foldl (pay g) s).debts x = s.debts x := by
  induction l with
  | nil => intro s _; rfl
  | cons o l ih =>
    intro s h
    rw [List.foldl_cons, ih _ fun m => h (List.mem_cons_of_mem _ m)]
    exact pay_other g s o x fun e => h (by rw [e]; exact List.mem_cons_self ..)
theorem payF_filter (g : Str) (p : Str → Bool) (l : List Str) : ∀ s : S, l.Nodup → (∀ o, o ∈ l → p o = false → s.debts o = none) → (l.filter p).foldl (pay g) s = l.foldl (pay g) s := by
  induction l with
  | nil => intro s _ _; rfl
  | cons o l ih =>
    intro s nd h
    obtain ⟨n1, n2⟩ := List.nodup_cons.mp nd
    rw [List.filter_cons]
    cases e : p o with
    | true =>
      rw [if_pos rfl, List.foldl_cons, List.foldl_cons]
      refine ih _ n2 fun x hx px => ?_
      rw [pay_other g s o x fun z => n1 (by rw [← z]; exact hx)]
      exact h x (List.mem_cons_of_mem _ hx) px
    | false =>
      rw [if_neg Bool.false_ne_true, List.foldl_cons]
      have d := h o (List.mem_cons_self ..) e
      have e2 : pay g s o = s := by unfold pay; rw [d]
      rw [e2]
      exact ih s n2 fun x hx px => h x (List.mem_cons_of_mem _ hx) px
theorem filter_ne_iff (g : Str) (ds : List Str) : (ds.filter fun x => decide (x ≠ g)) = ds ↔ g ∉ ds := by
  rw [List.filter_eq_self]
  constructor
  · intro h m
    have := h g m
    simp at this
  · intro h x hx
    exact decide_eq_true fun e => h (by rw [← e]; exact hx)
section
variable {P : Program} {w : World} {K : PySem.W.Frag} {mg : Str → Option Value} {base : Heap}

/-! ### no_more_for -/
def spNoMore (K : PySem.W.Frag) : Sp := fun vs H Q _ => ∃ (i : Nat) (rl : Rl) (p : Addr) (b : Nat) (s : S) (h : HA) (g : Str), vs = [.ref p, .str g] ∧ House K i rl H p b s h ∧ b + 2 * s.line.length ≤ Lim ∧ s.line.Nodup ∧
  ∀ rl' H' h', Step i rl H rl' H' → House K i rl' H' p (b + 2 * s.line.length) (noMore s g) h' → Al h h' → Q .non H'
theorem sc_noMore : FnScope ["self", "guest", "other", "left", "one"] ["self", "guest"] (defScope s_House_no_more_for) := ⟨rfl, rfl, rfl, by decide +kernel, rfl, by decide +kernel, by decide +kernel⟩
theorem dbt_isSome {i : Nat} {rl : Rl} {H : Hp} {kd : List (Key × V)} {d : Str → Option (List Str)} (x : Debts rl H i kd d) (g : Str) : (valV kd (.inr g)).isSome = (d g).isSome := by
  have z := x g
  cases e : d g with
  | none => rw [e] at z; rw [show valV kd (.inr g) = none from z]; rfl
  | some ds => rw [e] at z; obtain ⟨a, e1, _⟩ := z; rw [e1]; rfl
theorem ok_noMore (T : Txt K mg) : Ok P w K mg base CX0 2 (He.fAd K ("House", some "no_more_for")) ["self", "guest"] (spNoMore K) := by
  obtain ⟨fd1, G1, b1, k1⟩ := (ok_tell (P := P) (w := w) (base := base) T).ex
  refine Ok.of T.f_House_no_more_for sc_noMore (fun _ _ _ _ _ _ us hl => match us, hl with | [_, _], _ => rfl) (fun vs H Q E h => by obtain ⟨_, _, _, _, _, _, _, rfl, _⟩ := h; rfl) (fun cdv A outer s H vs Q E hr h => ?_)
  obtain ⟨i, rl, p, b, s, h, g, rfl, x, hb, nd, q⟩ := h
  have hu := hu_of hr
  have hu2 := hr.units
  refine ⟨_, (pss_one (ps_for PassesOwn.never rfl (pi_list (pe_lc (own := [("one", 4)]) (g := gName 4) (tt := tB (tDIn (tVar 4) (tFld K (tVar 0) "debts"))) (te := tVar 4) rfl sc_noMore.nd (pi_list (pe_fld (pv 0) rfl)) (blkOk_by (N := ["self", "guest", "other", "left", "one"]) (sc := defScope s_House_no_more_for) (by decide +kernel))
        (fun _ _ _ _ _ => pg_name (i := 4) sc_noMore.nd rfl (Or.inl rfl)) (fun _ _ _ _ _ => pts_one (pt_cmp (pc_din hu (pv 4) (pe_fld (pv 0) rfl)))) (fun _ _ _ _ _ => pv 4))) (pg_name (i := 2) sc_noMore.nd rfl (Or.inl rfl)) (pss_cons (ps_setLc (i := 3) (own := [("one", 4)]) (g := gName 4) (tt := tB (tOp rNe (tVar 4) (tVar 1))) (te := tVar 4) rfl sc_noMore.nd rfl rfl (sw_true rfl rfl rfl (by decide +kernel)) (pi_list (pe_dget hu (pe_fld (pv 0) rfl) (pv 2) (fun _ _ => rfl))) (blkOk_by (N := ["self", "guest", "other", "left", "one"]) (sc := defScope s_House_no_more_for) (by decide +kernel))
        (fun _ _ _ _ _ => pg_name (i := 4) sc_noMore.nd rfl (Or.inl rfl)) (fun _ _ _ _ _ => pts_one (pt_cmpR op_ne (pv 4) (pv 1) (nomark _))) (fun _ _ _ _ _ => pv 4))
      (pss_one (ps_if (pt_cmpR (op_neP hu2) (pv 3) (pe_dget hu (pe_fld (pv 0) rfl) (pv 2) (fun _ _ => rfl)) (nomark _)) (pss_cons (ps_dput hu (pe_fld (pv 0) rfl) (pv 2) (pv 3) rfl)
      (pss_one (ps_if (pt_cmpR (op_eqP hu2) (pv 3) (pe_lst pa_nil) (nomark _)) (pss_cons (ps_ddel (pe_fld (pv 0) rfl) (pv 2))
      (pss_one (ps_expr (pe_meth (pv 0) T.cls_House T.m_tell G1 hr b1 .nil pass0 (pa_cons (pv 2) (pa_cons (pe_glob (v := .ref (He.ga K "HEARD")) rfl T.g_HEARD rfl) pa_nil)))))) pss_nil))) pss_nil))))), ?_⟩
  refine ⟨_, rfl, p, CH K, h.dx, _, _, rfl, x.self.h, T.cls_House, T.na_H_line, rfl, h.l, rfl, ⟨_, SqL.of x.line.h⟩, fun D hD => ?_⟩
  refine lc_pure 4 s.line V.str (fun o => (s.debts o).isSome) V.str (walk_strs s.line) (yat_str s.line) hD (lim_lt x.few.line (by omega)) (fun H2 s2 => SqL.of (s2 _ _ x.line.h)) (fun _ => rfl) ?_ ?_ ?_
  · intro o H2 k ho s2 hk
    have x2 := x.same s2
    refine ⟨_, rfl, _, rfl, p, CH K, h.dx, _, _, rfl, x2.self.h, T.cls_House, T.na_H_debts, rfl, h.db, _, rfl, DGet.k (k := Sum.inr o) x2.db.h, _, rfl, ?_⟩
    rw [dbt_isSome x2.de]
    exact hk H2 (Same.refl H2)
  · intro o H2 k ho _ s2 hk
    exact ⟨_, rfl, hk H2 (Same.refl H2)⟩
  intro H1 s1 h1
  have x1 := x.same s1
  have fl_nd : (s.line.filter fun o => (s.debts o).isSome).Nodup := nd.sublist List.filter_sublist
  have fl_len : (s.line.filter fun o => (s.debts o).isSome).length ≤ s.line.length := List.length_filter_le _ _
  have fl_eq : (s.line.filter fun o => (s.debts o).isSome).foldl (pay g) s = noMore s g := payF_filter g _ s.line s nd fun o _ e => by
    cases z : s.debts o with
    | none => rfl
    | some ds => rw [z] at e; cases e
  have fl_mem : ∀ o, o ∈ (s.line.filter fun o => (s.debts o).isSome) → o ∈ s.line ∧ (s.debts o).isSome = true := fun o ho => List.mem_filter.mp ho
  generalize (s.line.filter fun o => (s.debts o).isSome) = fl at h1 fl_nd fl_len fl_eq fl_mem
  refine ⟨D, rfl, ⟨_, SqL.of h1⟩, ?_⟩
  have x1 : House K i (setR rl D none) H1 p b s h := x.tr (fun _ _ _ z => (z.role hD).same s1) (sameTk s1)
  have t1 : Step i rl H (setR rl D none) H1 := (Step.claim hD).thenSame s1
  have rD : setR rl D none D = none := setR_same
  generalize setR rl D none = rl1 at x1 t1 rD
  refine for_list (K := K) (a := D) (xs := fl.map V.str) (fun k σ H2 => ∃ (rl2 : Rl) (h2 : HA) (v1 v2 : Option V), σ = [some (.ref p), some (.str g), v1, v2, none] ∧ Al h h2 ∧ Step i rl H rl2 H2 ∧ House K i rl2 H2 p (b + 2 * k) ((fl.take k).foldl (pay g) s) h2 ∧ rl2 D = none ∧ H2 D = some (.lst (fl.map V.str)))
    ⟨rl1, h, none, none, rfl, Al.refl h, t1, x1, rD, h1⟩ (fun k σ H2 _ ⟨_, _, _, _, _, _, _, _, _, e⟩ => SqL.of e) ?_ ?_
  · rintro k v σ H2 hk ⟨rl2, h2, v1, v2, rfl, el, t2, x2, rD2, eD2⟩
    rw [List.getElem?_map] at hk
    obtain ⟨o, ho, rfl⟩ := Option.map_eq_some_iff.mp hk
    have hkl : k < fl.length := (List.getElem?_eq_some_iff.mp ho).1
    obtain ⟨hol, hos⟩ := fl_mem o (List.mem_of_getElem? ho)
    have hnt : o ∉ fl.take k := fun m => by
      obtain ⟨j, hj⟩ := List.getElem?_of_mem m
      have hjk : j < k := by
        have := (List.getElem?_eq_some_iff.mp hj).1
        rw [List.length_take] at this
        omega
      rw [List.getElem?_take_of_lt hjk] at hj
      have := nd_ix fl_nd hj ho
      omega
    have e1 : (fl.take (k + 1)).foldl (pay g) s = pay g ((fl.take k).foldl (pay g) s) o := by rw [take_succ_at ho, List.foldl_append]; rfl
    have hsd : ((fl.take k).foldl (pay g) s).debts o = s.debts o := payF_other g _ o s hnt
    rw [e1]
    obtain ⟨ds, hds⟩ := Option.isSome_iff_exists.mp hos
    rw [hds] at hsd
    have hDH : H D = none := hD
    generalize (fl.take k).foldl (pay g) s = sk at x2 hsd
    have hde := x2.de o
    rw [hsd] at hde
    obtain ⟨da, hda, cda⟩ := hde
    have hdsl : ds.length ≤ b + 2 * k := x2.few.debts o ds hsd
    -- left = [one for one in self.debts[other] if one != guest]
    refine ⟨_, rfl, p, CH K, h2.dx, _, _, rfl, x2.self.h, T.cls_House, T.na_H_debts, rfl, _, rfl, h2.db, .ref da, rfl, by rw [← hda]; exact DGet.k (k := Sum.inr o) x2.db.h, da, rfl, ⟨_, SqL.of cda.h⟩, fun lf hlf => ?_⟩
    refine lc_pure 4 ds V.str (fun y => decide (y ≠ g)) V.str (walk_strs ds) (yat_str ds) hlf (lim_lt hdsl (by omega)) (fun H3 s3 => SqL.of (s3 _ _ cda.h)) (fun _ => rfl) ?_ ?_ ?_
    · intro y H3 kk hy s3 hkk
      refine ⟨_, rfl, _, rfl, rfl, _, rfl, ?_⟩
      have e : (!decide (V.str y = V.str g)) = decide (y ≠ g) := by
        by_cases z : y = g
        · subst z; simp
        · rw [decide_eq_false (fun q => z (by cases q; rfl)), decide_eq_true z]; rfl
      rw [e]
      exact hkk H3 (Same.refl H3)
    · intro y H3 kk hy _ s3 hkk
      exact ⟨_, rfl, hkk H3 (Same.refl H3)⟩
    intro H3 s3 e3
    have hlfH : H lf = none := t2.was_free hlf
    have x3 : House K i (setR rl2 lf none) H3 p (b + 2 * k) sk h2 := x2.tr (fun _ _ _ z => (z.role hlf).same s3) (sameTk s3)
    have t3 : Step i rl H (setR rl2 lf none) H3 := t2.trans ((Step.claim hlf).thenSame s3)
    have nDl : D ≠ lf := ne_of_none eD2 hlf
    have rl3 : setR rl2 lf none lf = none := setR_same
    have rD3 : setR rl2 lf none D = none := by rw [setR_ne nDl]; exact rD2
    have eD3 := s3 _ _ eD2
    have cda3 := (cda.role hlf (v := none)).same s3
    generalize setR rl2 lf none = rl3' at x3 t3 rl3 rD3 cda3
    refine ⟨_, rfl, _, rfl, p, CH K, h2.dx, _, _, rfl, x3.self.h, T.cls_House, T.na_H_debts, rfl, _, rfl, h2.db, .ref da, rfl, by rw [← hda]; exact DGet.k (k := Sum.inr o) x3.db.h, ?_⟩
    refine ⟨lS (ds.filter fun y => decide (y ≠ g)), lS ds, dp_lst (SqL.of e3), dp_lst (SqL.of cda3.h), plain_lS _, plain_lS _, by rw [depth_lS]; decide, _, rfl, ?_⟩
    rw [eqv_lS]
    unfold pay
    rw [hsd]
    dsimp only
    by_cases hg : g ∈ ds
    · rw [decide_eq_false (fun z => (filter_ne_iff g ds).mp z hg), if_pos hg]
      have hfl : (ds.filter fun y => decide (y ≠ g)).length ≤ b + 2 * k := Nat.le_trans (List.length_filter_le _ _) hdsl
      refine iteT ⟨_, rfl, _, rfl, p, CH K, h2.dx, _, _, rfl, x3.self.h, T.cls_House, T.na_H_debts, rfl, _, rfl, h2.db, _, rfl, DPut.k (k := Sum.inr o) x3.db.h (lim_lt x3.kdl (by omega)), ?_⟩
      have ra : ∀ r, rl3' lf ≠ some (i, r) := fun r e => by rw [rl3] at e; cases e
      have x4 := x3.setDebt (o := o) ra e3 hfl
      have t4 := (t3.trans (Step.write x3.db (fun z => z) (o' := .dK (putK h2.kd (.inr o) (.ref lf))))).give (b := lf) hlfH (v := some (i, .debt o))
      have rD4 : setR rl3' lf (some (i, R.debt o)) D = none := by rw [setR_ne nDl]; exact rD3
      have eD4 : (upd H3 h2.db (.dK (putK h2.kd (.inr o) (.ref lf)))) D = some (.lst (fl.map V.str)) := by
        rw [upd_ne fun e => by have z := x3.db.r; rw [← e, rD3] at z; cases z]; exact eD3
      have e4 : (upd H3 h2.db (.dK (putK h2.kd (.inr o) (.ref lf)))) lf = some (.lst ((ds.filter fun y => decide (y ≠ g)).map V.str)) := by
        rw [upd_ne fun e => by have z := x3.db.r; rw [← e, rl3] at z; cases z]; exact e3
      refine ⟨_, rfl, (by show 0 ≤ sizeLine; omega), fun el0 hel => ?_⟩
      have s5 := same_upd (o := HO.lst []) hel
      refine ⟨lS (ds.filter fun y => decide (y ≠ g)), lS [], dp_lst (SqL.of (s5 _ _ e4)), dp_lst (SqL.of upd_same), plain_lS _, plain_lS _, by rw [depth_lS]; decide, _, rfl, ?_⟩
      rw [eqv_lS]
      have x5 := x4.same s5
      have t5 := t4.thenSame s5
      by_cases hem : (ds.filter fun y => decide (y ≠ g)) = []
      · rw [decide_eq_true hem, if_pos hem]
        refine iteT ⟨_, rfl, p, CH K, h2.dx, _, _, rfl, x5.self.h, T.cls_House, T.na_H_debts, rfl, _, rfl, h2.db, _, Sum.inr o, rfl, x5.db.h, rfl, ?_, ?_⟩
        · rw [valV_put, if_pos rfl]; rfl
        have x6 := x5.delDebt (o := o)
        have t6 := t5.trans (Step.write x5.db (fun z => z) (o' := .dK (dropK (putK h2.kd (.inr o) (.ref lf)) (.inr o))))
        have e6 : (sk.setDebt o (some (ds.filter fun y => decide (y ≠ g)))).setDebt o none = sk.setDebt o none := by
          unfold S.setDebt
          congr 1
          funext y
          by_cases z : y = o
          · rw [if_pos z, if_pos z]
          · rw [if_neg z, if_neg z]
            exact if_neg z
        rw [e6] at x6
        have eD6 : (upd (upd (upd H3 h2.db (.dK (putK h2.kd (.inr o) (.ref lf)))) el0 (.lst [])) h2.db (.dK (dropK (putK h2.kd (.inr o) (.ref lf)) (.inr o)))) D = some (.lst (fl.map V.str)) := by
          rw [upd_ne fun e => by have z := x3.db.r; rw [← e, rD3] at z; cases z]; exact s5 _ _ eD4
        refine ⟨_, rfl, p, h2.dx, _, rfl, x6.self.h, rfl, _, rfl, i, _, p, _, _, _, o, He.ga K "HEARD", lHeard, rfl, x6, by omega, .inr fun H' => T.t_HEARD H', fun H7 h7 t7 x7 e7 => ?_⟩
        exact ⟨_, h7, _, _, rfl, el.trans ⟨e7.l, e7.kp⟩, t6.trans t7, x7.mono (by omega), rD4, t7.keep _ _ eD6 (.inl fun r e => by rw [rD4] at e; cases e)⟩
      · rw [decide_eq_false hem, if_neg hem]
        exact iteF ⟨_, { h2 with kd := putK h2.kd (.inr o) (.ref lf) }, _, _, rfl, el.trans ⟨rfl, rfl⟩, t5, x5.mono (show b + 2 * k + 1 ≤ b + 2 * (k + 1) by omega), rD4, s5 _ _ eD4⟩
    · rw [decide_eq_true ((filter_ne_iff g ds).mpr hg), if_neg hg]
      exact iteF ⟨_, h2, _, _, rfl, el, t3, x3.mono (by omega), rD3, eD3⟩
  · rintro σ H2 ⟨rl2, h2, v1, v2, rfl, el, t2, x2, _, _⟩
    rw [List.length_map, List.take_length, fl_eq] at x2
    exact q rl2 H2 h2 t2 (x2.mono (by omega)) el
end
end G
set_option Elab.async false
set_option linter.all false
set_option maxRecDepth 100000
set_option maxHeartbeats 4000000
namespace G
open PySem PySem.Spec PyProof.Rows L2
section
variable {P : Program} {w : World} {K : PySem.W.Frag} {mg : Str → Option Value} {base : Heap}

/-! ### answer_for -/
def answer (s : S) (g : Str) (l : List Str) : S := if l = [] then s.say g lHeard else s.setDebt g (some l)
theorem answer_line (s : S) (g : Str) (l : List Str) : (answer s g l).line = s.line := by unfold answer; split <;> rfl
def spAnswer (K : PySem.W.Frag) : Sp := fun vs H Q _ => ∃ (i : Nat) (rl : Rl) (p : Addr) (b : Nat) (s : S) (h : HA) (g : Str) (D : Addr) (l : List Str), vs = [.ref p, .str g, .ref D] ∧ House K i rl H p b s h ∧ b + 1 ≤ Lim ∧ rl D = none ∧ H D = some (.lst (l.map .str)) ∧ l.length ≤ b ∧
  ∀ H' h', Step i (setR rl D (some (i, .debt g))) H (setR rl D (some (i, .debt g))) H' → House K i (setR rl D (some (i, .debt g))) H' p (b + 1) (answer s g l) h' → Al h h' → Q .non H'
theorem sc_answer : FnScope ["self", "guest", "others"] ["self", "guest", "others"] (defScope s_House_answer_for) := ⟨rfl, rfl, rfl, by decide +kernel, rfl, by decide +kernel, by decide +kernel⟩
theorem ok_answer (T : Txt K mg) : Ok P w K mg base CX0 2 (He.fAd K ("House", some "answer_for")) ["self", "guest", "others"] (spAnswer K) := by
  obtain ⟨fd1, G1, b1, k1⟩ := (ok_tell (P := P) (w := w) (base := base) T).ex
  refine Ok.of T.f_House_answer_for sc_answer (fun _ _ _ _ _ _ us hl => match us, hl with | [_, _, _], _ => rfl) (fun vs H Q E h => by obtain ⟨_, _, _, _, _, _, _, _, _, rfl, _⟩ := h; rfl) (fun cdv A outer s H vs Q E hr h => ?_)
  obtain ⟨i, rl, p, b, s, h, g, D, l, rfl, x, hb, rD, eD, hl, q⟩ := h
  have hu := hu_of hr
  have hu2 := hr.units
  refine ⟨_, (pss_one (ps_if (pt_cmpR (op_eqP hu2) (pv 2) (pe_lst pa_nil) (nomark _))
      (pss_one (ps_expr (pe_meth (pv 0) T.cls_House T.m_tell G1 hr b1 .nil pass0 (pa_cons (pv 1) (pa_cons (pe_glob (v := .ref (He.ga K "HEARD")) rfl T.g_HEARD rfl) pa_nil)))))
      (pss_one (ps_dput hu (pe_fld (pv 0) rfl) (pv 1) (pv 2) rfl)))), ?_⟩
  refine ⟨_, rfl, (by show 0 ≤ sizeLine; omega), fun e he => ?_⟩
  have s1 := same_upd (o := HO.lst []) he
  have x1 := x.same s1
  refine ⟨lS l, lS [], dp_lst (SqL.of (s1 _ _ eD)), dp_lst (SqL.of upd_same), plain_lS _, plain_lS _, by rw [depth_lS]; decide, _, rfl, ?_⟩
  rw [eqv_lS]
  unfold answer at q
  have ra : ∀ r, rl D ≠ some (i, r) := fun r e => by rw [rD] at e; cases e
  by_cases c : l = []
  · rw [decide_eq_true c]
    rw [if_pos c] at q
    have x2 : House K i (setR rl D (some (i, .debt g))) _ p b s h := x1.tr (fun _ _ _ z => z.give ra) (TK.refl _)
    exact iteT ⟨_, rfl, p, h.dx, _, rfl, x1.self.h, rfl, _, rfl, i, _, p, b, s, h, g, He.ga K "HEARD", lHeard, rfl, x2, by omega, .inr fun H' => T.t_HEARD H', fun H2 h2 t2 x2 e2 => q H2 h2 ((Step.same s1).trans t2) x2 e2⟩
  · rw [decide_eq_false c]
    rw [if_neg c] at q
    refine iteF ⟨_, rfl, _, rfl, p, CH K, h.dx, _, _, rfl, x1.self.h, T.cls_House, T.na_H_debts, rfl, _, rfl, h.db, _, rfl, DPut.k (k := Sum.inr g) x1.db.h (lim_lt x1.kdl (by omega)), ?_⟩
    exact q _ _ ((Step.same s1).trans (Step.write (x1.db.give ra) fun z => z)) (x1.setDebt ra (s1 _ _ eD) hl) ⟨rfl, rfl⟩

/-! ### close -/
theorem giveUp_own (s : S) (g : Str) (c : Option Str) : (giveUp s g c).own = s.own := rfl
def spClose (K : PySem.W.Frag) : Sp := fun vs H Q _ => ∃ (i : Nat) (rl : Rl) (p : Addr) (b : Nat) (s : S) (h : HA) (g : Str), vs = [.ref p, .str g] ∧ House K i rl H p b s h ∧ b + 2 * s.line.length + 2 ≤ Lim ∧ s.line.Nodup ∧ g ∈ s.line ∧
  ∀ rl' H' h', Step i rl H rl' H' → House K i rl' H' p (b + 2 * s.line.length + 2) (close s g) h' → Al h h' → Q .non H'
theorem sc_close : FnScope ["self", "guest", "place"] ["self", "guest"] (defScope s_House_close) := ⟨rfl, rfl, rfl, by decide +kernel, rfl, by decide +kernel, by decide +kernel⟩
theorem ok_close (T : Txt K mg) : Ok P w K mg base CX0 4 (He.fAd K ("House", some "close")) ["self", "guest"] (spClose K) := by
  obtain ⟨fd1, G1, b1, k1⟩ := (ok_look (P := P) (w := w) (base := base) T).ex
  obtain ⟨fd2, G2, b2, k2⟩ := (ok_noMore (P := P) (w := w) (base := base) T).ex
  refine Ok.of T.f_House_close sc_close (fun _ _ _ _ _ _ us hl => match us, hl with | [_, _], _ => rfl) (fun vs H Q E h => by obtain ⟨_, _, _, _, _, _, _, rfl, _⟩ := h; rfl) (fun cdv A outer s H vs Q E hr h => ?_)
  obtain ⟨i, rl, p, b, s, h, g, rfl, x, hb, nd, hg, q⟩ := h
  have hu := hu_of hr
  have hr2 : Room 2 _ := hr.mono (by decide)
  refine ⟨_, (pss_cons (ps_set (i := 2) sc_close.nd rfl (Or.inl rfl) (pe_dget hu (pe_fld (pv 0) rfl) (pv 1) (fun _ _ => rfl)))
      (pss_cons (ps_fld (pv 2) pe_bl rfl)
      (pss_cons (ps_fld (pv 2) pe_non rfl)
      (pss_cons (ps_expr (pe_meth (pv 0) T.cls_House T.m_look G1 hr b1 .nil pass0 (pa_cons (pv 1) (pa_cons (pe_non) pa_nil))))
      (pss_one (ps_expr (pe_meth (pv 0) T.cls_House T.m_no_more_for G2 hr2 b2 .nil pass0 (pa_cons (pv 1) pa_nil)))))))), ?_⟩
  obtain ⟨a, dxa, tv, y⟩ := x.pl g hg
  refine ⟨_, rfl, p, CH K, h.dx, _, _, rfl, x.self.h, T.cls_House, T.na_H_places_by, rfl, _, rfl, h.pb, .ref a, rfl, by rw [← y.v]; exact DGet.k (k := Sum.inr g) x.pb.h, ?_⟩
  refine ⟨_, rfl, a, CP K, dxa, _, rfl, y.c.h, T.cls_Place, T.na_P_opened, (by exact (by decide : (5 : Nat) < 1000)), ?_⟩
  refine ⟨_, rfl, a, CP K, dxa, _, rfl, upd_same, T.cls_Place, T.na_P_source, (by exact (by decide : (5 : Nat) < 1000)), ?_⟩
  rw [upd_upd]
  obtain ⟨x2, y2⟩ := x.setPl (q' := { (s.pl g) with opened := false, source := none }) y (tv' := tv) y.t
  have t2 := Step.write y.c (fun z => z) (o' := .ins (CP K) dxa (pfs tv { (s.pl g) with opened := false, source := none }))
  refine ⟨_, rfl, p, h.dx, _, rfl, x2.self.h, rfl, _, rfl, i, rl, p, _, _, h, g, none, rfl, x2, by omega, hg, fun H3 h3 t3 x3 e3 => ?_⟩
  have e : (look (s.setPl g { (s.pl g) with opened := false, source := none }) g none).1.line = s.line := look_line _ _ _
  refine ⟨_, rfl, p, h3.dx, _, rfl, x3.self.h, rfl, _, rfl, i, rl, p, _, _, h3, g, rfl, x3, by rw [e]; omega, by rw [e]; exact nd, fun rl4 H4 h4 t4 x4 e4 => ?_⟩
  rw [e] at x4
  exact q rl4 H4 h4 ((t2.trans t3).trans t4) (x4.mono (by omega)) (e3.trans e4)
end
end G
set_option Elab.async false
set_option linter.all false
set_option maxRecDepth 100000
set_option maxHeartbeats 4000000
namespace G
open PySem PySem.Spec PyProof.Rows L2
/-- what `except ChairError` takes -/
def Refuse (K : PySem.W.Frag) (cls : Value) : Prop := PySem.W.exmOne K cls (.ref (He.ga K "ChairError")) = some true
/-- what is due of a deed: refused, nothing changed; or the letters, new -/
def Due (K : PySem.W.Frag) (i : Nat) (rl : Rl) (H : Hp) (p : Addr) (b : Nat) (r : Option (S × List Ltr)) (Q : VK) (E : XK) : Prop := match r with
  | none => ∀ cls H', Same H H' → Refuse K cls → E cls none H'
  | some q => ∀ rl' H' h' a vs', Step i rl H rl' H' → House K i rl' H' p b q.1 h' → rl' a = none → H' a = some (.lst vs') → Paired (LtrV K H') q.2 vs' → Q (.ref a) H'
def cost (s : S) : Nat := 6 * s.line.length + 20
theorem Due.no {K : PySem.W.Frag} {i : Nat} {rl : Rl} {H : Hp} {p : Addr} {b : Nat} {r : Option (S × List Ltr)} {Q : VK} {E : XK} (d : Due K i rl H p b r Q E) (e : r = none) {cls : Value} {H' : Hp} (s : Same H H') (hr : Refuse K cls) : E cls none H' := by
  subst e
  exact d cls H' s hr
theorem Due.yes {K : PySem.W.Frag} {i : Nat} {rl : Rl} {H : Hp} {p : Addr} {b : Nat} {r : Option (S × List Ltr)} {Q : VK} {E : XK} (d : Due K i rl H p b r Q E) {q : S × List Ltr} (e : r = some q) {rl' : Rl} {H' : Hp} {h' : HA} {a : Addr} {vs' : List V}
    (t : Step i rl H rl' H') (x : House K i rl' H' p b q.1 h') (ra : rl' a = none) (ha : H' a = some (.lst vs')) (l : Paired (LtrV K H') q.2 vs') : Q (.ref a) H' := by
  subst e
  exact d rl' H' h' a vs' t x ra ha l
theorem ins_eq (l : List Str) (k : Nat) (g : Str) (h : k ≤ l.length) : (l.map V.str).take k ++ [V.str g] ++ (l.map V.str).drop k = (l.take k ++ [g] ++ l.drop k).map V.str := by
  rw [List.map_append, List.map_append, List.map_take, List.map_drop]; rfl
theorem putIn_mem (s : S) (g : Str) (k : Nat) (x : Str) : x ∈ (putIn s g k).line ↔ x = g ∨ x ∈ s.line := by
  show x ∈ s.line.take k ++ [g] ++ s.line.drop k ↔ _
  have e : s.line = s.line.take k ++ s.line.drop k := (List.take_append_drop k s.line).symm
  rw [List.mem_append, List.mem_append, List.mem_singleton]
  constructor
  · rintro ((h | h) | h)
    · exact .inr (List.mem_of_mem_take h)
    · exact .inl h
    · exact .inr (List.mem_of_mem_drop h)
  · rintro (h | h)
    · exact .inl (.inr h)
    · rw [e, List.mem_append] at h
      exact h.elim (fun z => .inl (.inl z)) .inr
theorem putIn_len (s : S) (g : Str) (k : Nat) : (putIn s g k).line.length = s.line.length + 1 := by
  show (s.line.take k ++ [g] ++ s.line.drop k).length = _
  have e : s.line.length = (s.line.take k).length + (s.line.drop k).length := by rw [← List.length_append, List.take_append_drop]
  rw [List.length_append, List.length_append, List.length_singleton]
  omega
section
variable {K : PySem.W.Frag} {i j : Nat} {rl rl' : Rl} {H H' : Hp} {p : Addr} {b c : Nat} {s : S} {h : HA}
/-- a guest more: the order's list and the places' table are written, the place is new -/
theorem House.putIn (x : House K i rl H p b s h) {g : Str} {k : Nat} {a dxa : Addr} (hg : g ∉ s.line) (ha : H a = none)
    (kp : ∀ c o, H c = some o → c ≠ h.l → c ≠ h.pb → H' c = some o) (h1 : H' h.l = some (.lst ((putIn s g k).line.map .str))) (h2 : H' h.pb = some (.dK (putK h.kp (.inr g) (.ref a)))) (h3 : H' a = some (.ins (CP K) dxa (pfs .non Pl.new)))
    (lv : ∀ c, H c ≠ none → H' c ≠ none) :
    House K i (setR rl a (some (i, .place g))) H' p (b + 1) (putIn s g k) { h with kp := putK h.kp (.inr g) (.ref a) } ∧ Step i rl H (setR rl a (some (i, .place g))) H' := by
  have f : ∀ r a' u, (i, r) ≠ (i, .line) → (i, r) ≠ (i, .places) → C rl H i r a' u → C (setR rl a (some (i, .place g))) H' i r a' u := fun r a' u d1 d2 z =>
    ⟨(z.role ha).r, kp _ _ z.h (z.ne x.line d1) (z.ne x.pb d2)⟩
  have tk : TK H H' := fun c xs e => kp c _ e (fun z => by rw [z, x.line.h] at e; cases e) (fun z => by rw [z, x.pb.h] at e; cases e)
  refine ⟨{
    self := f _ _ _ (by intro e; cases e) (by intro e; cases e) x.self
    line := ⟨(x.line.role ha).r, h1⟩
    pb := ⟨(x.pb.role ha).r, h2⟩
    pl := fun y hy => by
      by_cases e : y = g
      · subst e
        refine ⟨a, dxa, .non, ?_, ?_, ?_⟩
        · show valV (putK h.kp (.inr y) (.ref a)) (.inr y) = _
          rw [valV_put, if_pos rfl]
        · show C _ _ _ _ _ (HO.ins (CP K) dxa (pfs .non ((s.setPl y Pl.new).pl y)))
          rw [setPl_same]
          exact ⟨setR_same, h3⟩
        · show Told _ _ ((s.setPl y Pl.new).pl y).told
          rw [setPl_same]; rfl
      · have hys : y ∈ s.line := ((putIn_mem s g k y).mp hy).resolve_left e
        obtain ⟨a', d, tv, z⟩ := x.pl y hys
        have ep : (G.putIn s g k).pl y = s.pl y := if_neg e
        refine ⟨a', d, tv, ?_, ?_, ?_⟩
        · show valV (putK h.kp (.inr g) (.ref a)) (.inr y) = _
          rw [valV_put, if_neg fun q => e (Sum.inr.inj q)]; exact z.v
        · rw [ep]; exact f _ _ _ (by intro e; cases e) (by intro e; cases e) z.c
        · rw [ep]; exact z.t.tk tk
    pn := fun y hy => by
      have h' : ¬ (y = g ∨ y ∈ s.line) := fun z => hy ((putIn_mem s g k y).mpr z)
      show valV (putK h.kp (.inr g) (.ref a)) (.inr y) = none
      rw [valV_put, if_neg fun q => h' (.inl (Sum.inr.inj q))]
      exact x.pn y fun z => h' (.inr z)
    db := f _ _ _ (by intro e; cases e) (by intro e; cases e) x.db
    de := fun y => by
      have z := x.de y
      show DebtV _ _ _ _ _ (s.debts y)
      cases e : s.debts y with
      | none => rw [e] at z; exact z
      | some ds =>
        rw [e] at z
        obtain ⟨a', e1, e2⟩ := z
        exact ⟨a', e1, f _ _ _ (by intro e; cases e) (by intro e; cases e) e2⟩
    aw := f _ _ _ (by intro e; cases e) (by intro e; cases e) x.aw
    pa := f _ _ _ (by intro e; cases e) (by intro e; cases e) x.pa
    pv := L2.Paired.mapP x.pv fun _ _ z => z.tk tk
    go := f _ _ _ (by intro e; cases e) (by intro e; cases e) x.go
    gv := L2.Paired.mapP x.gv fun _ _ z => z.tk tk
    few := ⟨by rw [putIn_len]; exact Nat.succ_le_succ x.few.line, Nat.le_succ_of_le x.few.away, Nat.le_succ_of_le x.few.past, Nat.le_succ_of_le x.few.going, fun g ds e => Nat.le_succ_of_le (x.few.debts g ds e)⟩
    kpl := Nat.le_trans (length_putK _ _ _) (Nat.succ_le_succ x.kpl)
    kdl := Nat.le_succ_of_le x.kdl }, ⟨fun c o e z => ?_, fun c hc _ => setR_ne fun e => hc (by rw [e]; exact ha), lv⟩⟩
  rcases z with z | z
  · exact kp c o e (fun q => z _ (by rw [q]; exact x.line.r)) (fun q => z _ (by rw [q]; exact x.pb.r))
  · exact kp c o e (fun q => by rw [q, x.line.h] at e; cases e; exact z) (fun q => by rw [q, x.pb.h] at e; cases e; exact z)
end
section
variable {P : Program} {w : World} {K : PySem.W.Frag} {mg : Str → Option Value} {base : Heap}
theorem mem_places {i : Nat} {rl : Rl} {H : Hp} {p : Addr} {b : Nat} {s : S} {h : HA} (x : House K i rl H p b s h) (g : Str) : (valV h.kp (.inr g)).isSome = decide (g ∈ s.line) := by
  by_cases c : g ∈ s.line
  · obtain ⟨a, d, tv, z⟩ := x.pl g c
    rw [z.v, decide_eq_true c]; rfl
  · rw [x.pn g c, decide_eq_false c]; rfl

/-! ### resize -/
def spResize (K : PySem.W.Frag) : Sp := fun vs H Q E => ∃ (i : Nat) (rl : Rl) (p : Addr) (b : Nat) (s : S) (h : HA) (n : Nat), vs = [.ref p, .int n] ∧ House K i rl H p b s h ∧ b + cost s ≤ Lim ∧ Due K i rl H p (b + cost s) (deed s (.room n)) Q E
theorem sc_resize : FnScope ["self", "room"] ["self", "room"] (defScope s_House_resize) := ⟨rfl, rfl, rfl, by decide +kernel, rfl, by decide +kernel, by decide +kernel⟩
theorem lookAll_line (s : S) : (lookAll s).line = s.line := lookN_line _ _ _
theorem ok_resize (T : Txt K mg) : Ok P w K mg base (L2.CX P w) 5 (He.fAd K ("House", some "resize")) ["self", "room"] (spResize K) := by
  obtain ⟨fd1, G1, b1, k1⟩ := (ok_is_count (P := P) (w := w) (base := base) T).ex
  obtain ⟨fd2, G2, b2, k2⟩ := (ok_lookAll (P := P) (w := w) (base := base) T).ex
  obtain ⟨fd3, G3, b3, k3⟩ := (ok_gone (P := P) (w := w) (base := base) T).ex
  refine Ok.ofX T.f_House_resize sc_resize (fun _ _ _ _ _ _ us hl => match us, hl with | [_, _], _ => rfl) (fun vs H Q E h => by obtain ⟨_, _, _, _, _, _, _, rfl, _⟩ := h; rfl) (fun cdv A outer s H vs Q E hr h => ?_)
  obtain ⟨i, rl, p, b, s, h, n, rfl, x, hb, q⟩ := h
  have hr1 : Room 1 _ := hr.mono (by decide)
  have hr3 : Room 3 _ := hr.mono (by decide)
  refine ⟨_, pss_cons (ps_if (pt_not (pt_val (pe_call G1 hr1 (by rfl) T.g_is_count k1 b1 .nil pass0 (pa_cons (pv 1) pa_nil)))) pss_never pss_nil)
    (pss_cons (ps_if (pt_cmpR op_lt (pv 1) (pe_callB call_lenD (by rfl) T.n_len PySem.boot_len (pa_cons (pe_fld (pv 0) rfl) pa_nil)) (nomark _))
        (pss_one (ps_raise rfl (takes_of rfl rfl rfl rfl) (pmk_own PySem.F.excBase_ValueError T.x_Taken.1 T.g_Taken T.x_Taken.2.1 (raises_own T.x_Taken.2.2.1 T.x_Taken.2.2.2) rfl))) pss_nil)
    (PSs.nox (pss_cons (ps_fld (pv 0) (pv 1) rfl)
      (pss_cons (ps_expr (pe_meth0 (pv 0) T.cls_House T.m_look_at_all G2 hr b2 .nil pass0))
      (pss_one (ps_ret (pe_meth0 (pv 0) T.cls_House T.m_gone G3 hr3 b3 .nil pass0))))))), ?_⟩
  refine ⟨_, rfl, (n : Int), rfl, true, by rw [decide_eq_true (Int.natCast_nonneg n)], iteF ?_⟩
  refine ⟨_, rfl, _, rfl, p, CH K, h.dx, _, _, rfl, x.self.h, T.cls_House, T.na_H_away, rfl, h.aw, _, rfl, x.aw.h, _, _, rfl, rfl, _, rfl, ?_⟩
  rw [awk_len]
  by_cases c : n < s.away.length
  · rw [decide_eq_true (show ((n : Nat) : Int) < ((s.away.length : Nat) : Int) by omega)]
    exact iteT (q.no (by rw [deed_room, if_pos c]) (Same.refl H) T.e_Taken)
  · rw [decide_eq_false (show ¬ ((n : Nat) : Int) < ((s.away.length : Nat) : Int) by omega)]
    refine iteF ⟨_, rfl, _, rfl, p, CH K, h.dx, _, rfl, x.self.h, T.cls_House, T.na_H_size, (by exact (by decide : (9 : Nat) < 1000)), ?_⟩
    have x1 := x.setSelf (fs := putF "size" (.int n) (hfs s.own s.size h.l h.pb s.ears h.db h.aw h.pa h.go)) (s' := { s with size := n }) (h' := h) rfl rfl rfl rfl rfl rfl rfl rfl rfl rfl rfl rfl rfl rfl rfl rfl rfl rfl
    have t1 := Step.write x.self (fun z => z) (o' := .ins (CH K) h.dx (putF "size" (.int n) (hfs s.own s.size h.l h.pb s.ears h.db h.aw h.pa h.go)))
    have hc : cost s = 6 * s.line.length + 20 := rfl
    refine ⟨_, rfl, p, h.dx, _, rfl, x1.self.h, rfl, i, rl, p, b, _, h, rfl, x1, (by show b + 2 * s.line.length ≤ Lim; omega), fun H2 h2 t2 x2 e2 => ?_⟩
    have el : (lookAll { s with size := n }).line = s.line := lookAll_line _
    refine ⟨_, rfl, p, h2.dx, _, rfl, x2.self.h, rfl, i, rl, p, _, _, h2, rfl, x2, (by rw [el]; show b + 2 * s.line.length + 2 * s.line.length ≤ Lim; omega), fun rl3 H3 h3 a vs' t3 x3 e3 ra ha hl => ?_⟩
    exact q.yes (by rw [deed_room, if_neg c]) ((t1.trans t2).trans t3) (x3.mono (by rw [el]; show b + 2 * s.line.length + 2 * s.line.length ≤ b + cost s; omega)) ra ha hl
end
end G
set_option Elab.async false
set_option linter.all false
set_option maxRecDepth 100000
set_option maxHeartbeats 4000000
namespace G
open PySem PySem.Spec PyProof.Rows L2
section
variable {P : Program} {w : World} {K : PySem.W.Frag} {mg : Str → Option Value} {base : Heap}

/-! ### put -/
def spPut (K : PySem.W.Frag) : Sp := fun vs H Q E => ∃ (i : Nat) (rl : Rl) (p : Addr) (b : Nat) (s : S) (h : HA) (g : Str) (k : Nat), vs = [.ref p, .str g, .int k] ∧ House K i rl H p b s h ∧ isNm g = true ∧ b + cost s ≤ Lim ∧ Due K i rl H p (b + cost s) (deed s (.put g k)) Q E
theorem sc_put : FnScope ["self", "guest", "place"] ["self", "guest", "place"] (defScope s_House_put) := ⟨rfl, rfl, rfl, by decide +kernel, rfl, by decide +kernel, by decide +kernel⟩
theorem ok_put (T : Txt K mg) : Ok P w K mg base (L2.CX P w) 5 (He.fAd K ("House", some "put")) ["self", "guest", "place"] (spPut K) := by
  obtain ⟨fd0, G0, b0, k0⟩ := (ok_is_name (P := P) (w := w) (base := base) T).ex
  obtain ⟨fd1, G1, b1, k1⟩ := (ok_is_count (P := P) (w := w) (base := base) T).ex
  obtain ⟨fd2, G2, b2, k2⟩ := (ok_lookAll (P := P) (w := w) (base := base) T).ex
  obtain ⟨fd3, G3, b3, k3⟩ := (ok_gone (P := P) (w := w) (base := base) T).ex
  obtain ⟨fd4, G4, b4, k4⟩ := (ok_Place (P := P) (w := w) (base := base) T).ex
  refine Ok.ofX T.f_House_put sc_put (fun _ _ _ _ _ _ us hl => match us, hl with | [_, _, _], _ => rfl) (fun vs H Q E h => by obtain ⟨_, _, _, _, _, _, _, _, rfl, _⟩ := h; rfl) (fun cdv A outer s H vs Q E hr h => ?_)
  obtain ⟨i, rl, p, b, s, h, g, k, rfl, x, hn, hb, q⟩ := h
  have hu := hu_of hr
  have hr1 : Room 1 _ := hr.mono (by decide)
  have hr2 : Room 2 _ := hr.mono (by decide)
  have hr3 : Room 3 _ := hr.mono (by decide)
  refine ⟨_, pss_cons (ps_if (pt_not (pt_val (pe_call G0 hr1 (by rfl) T.g_is_name k0 b0 .nil pass0 (pa_cons (pv 1) pa_nil)))) pss_never pss_nil)
    (pss_cons (ps_if (PW.pt (pw_or (pt_cmpR op_eq (pv 1) (pe_fld (pv 0) rfl) (nomark _)) (pw_or1 (pt_cmp (pc_din hu (pv 1) (pe_fld (pv 0) rfl))))))
        (pss_one (ps_raise rfl (takes_of rfl rfl rfl rfl) (pmk_own PySem.F.excBase_ValueError T.x_Twice.1 T.g_Twice T.x_Twice.2.1 (raises_own T.x_Twice.2.2.1 T.x_Twice.2.2.2) rfl))) pss_nil)
    (pss_cons (ps_if (PW.pt (pw_or (pt_not (pt_val (pe_call G1 hr1 (by rfl) T.g_is_count k1 b1 .nil pass0 (pa_cons (pv 2) pa_nil)))) (pw_or1 (pt_cmpR op_gt (pv 2) (pe_callB call_len_seq (by rfl) T.n_len PySem.boot_len (pa_cons (pe_fld (pv 0) rfl) pa_nil)) (nomark _)))))
        (pss_one (ps_raise rfl (takes_of rfl rfl rfl rfl) (pmk_own PySem.F.excBase_ValueError T.x_NoSpot.1 T.g_NoSpot T.x_NoSpot.2.1 (raises_own T.x_NoSpot.2.2.1 T.x_NoSpot.2.2.2) rfl))) pss_nil)
    (PSs.nox (pss_cons (ps_expr (pe_bm PySem.F.plainAttrs_list PySem.F.slot_list_insert PySem.F.type_list_insert mt_insert (pe_fld (pv 0) rfl) (pa_cons (pv 2) (pa_cons (pv 1) pa_nil))))
      (pss_cons (ps_dput hu (pe_fld (pv 0) rfl) (pv 1) (pe_make0 T.mk_Place G4 hr2 (by rfl) T.g_Place b4 .nil pass0) rfl)
      (pss_cons (ps_expr (pe_meth0 (pv 0) T.cls_House T.m_look_at_all G2 hr b2 .nil pass0))
      (pss_one (ps_ret (pe_meth0 (pv 0) T.cls_House T.m_gone G3 hr3 b3 .nil pass0))))))))), ?_⟩
  have hc : cost s = 6 * s.line.length + 20 := rfl
  refine ⟨_, rfl, g, rfl, nm_len hn, fun H1 s1 => ⟨true, by rw [hn], iteF ?_⟩⟩
  have x1 := x.same s1
  refine ⟨_, rfl, _, rfl, p, CH K, h.dx, _, _, rfl, x1.self.h, T.cls_House, T.na_H_own, rfl, rfl, _, rfl, ?_⟩
  by_cases c0 : g = s.own
  · rw [decide_eq_true (congrArg V.str c0)]
    exact iteT (iteT (q.no (by rw [deed_put, if_pos (.inl c0)]) s1 T.e_Twice))
  rw [decide_eq_false (fun z => c0 (by injection z))]
  refine iteF ⟨_, rfl, _, rfl, p, CH K, h.dx, _, _, rfl, x1.self.h, T.cls_House, T.na_H_places_by, rfl, h.pb, _, rfl, DGet.k (k := Sum.inr g) x1.pb.h, _, rfl, ?_⟩
  rw [mem_places x]
  by_cases c1 : g ∈ s.line
  · rw [decide_eq_true c1]
    exact iteT (q.no (by rw [deed_put, if_pos (.inr c1)]) s1 T.e_Twice)
  rw [decide_eq_false c1]
  refine iteF ⟨_, rfl, (k : Int), rfl, true, by rw [decide_eq_true (Int.natCast_nonneg k)], iteF ?_⟩
  refine ⟨_, rfl, _, rfl, p, CH K, h.dx, _, _, rfl, x1.self.h, T.cls_House, T.na_H_line, rfl, h.l, _, rfl, .inl (SqL.of x1.line.h), _, _, rfl, rfl, _, rfl, ?_⟩
  rw [List.length_map]
  have cn : ¬ (g = s.own ∨ g ∈ s.line) := fun z => z.elim c0 c1
  by_cases c2 : s.line.length < k
  · rw [decide_eq_true (show ((s.line.length : Nat) : Int) < (k : Int) by omega)]
    exact iteT (q.no (by rw [deed_put, if_neg cn, if_pos c2]) s1 T.e_NoSpot)
  rw [decide_eq_false (show ¬ ((s.line.length : Nat) : Int) < (k : Int) by omega)]
  have hll := x.few.line
  have hL : Lim = 3000000 := rfl
  refine iteF ⟨_, rfl, p, CH K, h.dx, _, _, rfl, x1.self.h, T.cls_House, T.na_H_line, rfl, .inl ⟨rfl, _, SqL.of x1.line.h⟩, _, rfl, _, rfl, h.l, _, (k : Int), .str g, rfl, rfl, x1.line.h, by rw [List.length_map]; exact lim_lt hll (by omega), Int.natCast_nonneg k, by omega, ?_⟩
  rw [Int.toNat_natCast, ins_eq s.line k g (by omega)]
  -- self.places_by[guest] = Place()
  intro a dxa na ndx nad
  refine ⟨a, dxa, rfl, upd_same, fun H2 e2 k2 => ⟨rfl, ?_⟩⟩
  have hpl : h.pb ≠ h.l := x1.pb.ne x1.line (by intro e; cases e)
  have hal : a ≠ h.l := fun e => by rw [e, upd_same] at na; cases na
  have hdl : dxa ≠ h.l := fun e => by rw [e, upd_same] at ndx; cases ndx
  have naH : H1 a = none := by rw [upd_ne hal] at na; exact na
  have ndH : H1 dxa = none := by rw [upd_ne hdl] at ndx; exact ndx
  have kk : ∀ c o, H1 c = some o → c ≠ h.l → H2 c = some o := fun c o e n => k2 c o (by rw [upd_ne (ne_of_none e naH), upd_ne (ne_of_none e ndH), upd_ne n]; exact e) (ne_of_none e naH)
  have kl : H2 h.l = some (.lst ((putIn s g k).line.map .str)) := k2 _ _ (by rw [upd_ne hal.symm, upd_ne hdl.symm, upd_same]; rfl) hal.symm
  have x2p : H2 p = _ := kk _ _ x1.self.h (x1.self.ne x1.line (by intro e; cases e))
  have x2b : H2 h.pb = _ := kk _ _ x1.pb.h hpl
  refine ⟨_, rfl, p, CH K, h.dx, _, _, rfl, x2p, T.cls_House, T.na_H_places_by, rfl, _, rfl, h.pb, _, rfl, DPut.k (k := Sum.inr g) x2b (lim_lt x.kpl (by omega)), ?_⟩
  have hap : a ≠ h.pb := fun e => by rw [e, x1.pb.h] at naH; cases naH
  obtain ⟨x3, t3⟩ := House.putIn (H' := upd H2 h.pb (.dK (putK h.kp (.inr g) (.ref a)))) x1 (g := g) (k := k) (a := a) (dxa := dxa) c1 naH (fun c o e n1 n2 => by rw [upd_ne n2]; exact kk c o e n1) (by rw [upd_ne hpl.symm]; exact kl) upd_same (by rw [upd_ne hap]; exact e2)
    (fun c hc => by
      obtain ⟨o, ho⟩ := Option.ne_none_iff_exists'.mp hc
      by_cases n2 : c = h.pb
      · rw [n2, upd_same]; simp
      · rw [upd_ne n2]
        by_cases n1 : c = h.l
        · rw [n1, kl]; simp
        · rw [kk c o ho n1]; simp)
  have pl := putIn_len s g k
  refine ⟨_, rfl, p, h.dx, _, rfl, x3.self.h, rfl, i, _, p, _, _, _, rfl, x3, (by rw [pl]; omega), fun H4 h4 t4 x4 e4 => ?_⟩
  have el : (lookAll (putIn s g k)).line = (putIn s g k).line := lookAll_line _
  refine ⟨_, rfl, p, h4.dx, _, rfl, x4.self.h, rfl, i, _, p, _, _, h4, rfl, x4, (by rw [el, pl]; omega), fun rl5 H5 h5 a5 vs' t5 x5 e5 ra ha hl => ?_⟩
  refine q.yes (by rw [deed_put, if_neg cn, if_neg c2]) ((((Step.same s1).trans t3).trans t4).trans t5) (x5.mono ?_) ra ha hl
  rw [el, pl]; omega
end
end G
set_option Elab.async false
set_option linter.all false
set_option maxRecDepth 100000
set_option maxHeartbeats 4000000
namespace G
open PySem PySem.Spec PyProof.Rows L2
theorem setDebt_self (s : S) (g : Str) (h : s.debts g = none) : s.setDebt g none = s := by
  unfold S.setDebt
  have e : (fun x => if x = g then none else s.debts x) = s.debts := by
    funext x
    by_cases q : x = g
    · rw [if_pos q, q, h]
    · rw [if_neg q]
  rw [e]
/-- the causes that are g, of some places, are none -/
def srcOff (s : S) (g : Str) (l : List Str) : S := { s with pl := fun x => if x ∈ l ∧ (s.pl x).source = some g then { (s.pl x) with source := none } else s.pl x }
theorem srcOff_nil (s : S) (g y : Str) : (srcOff s g (s.line.take 0)).pl y = s.pl y := by
  show (if y ∈ s.line.take 0 ∧ (s.pl y).source = some g then { (s.pl y) with source := none } else s.pl y) = _
  rw [if_neg fun z => by rw [List.take_zero] at z; cases z.1]
section
variable {K : PySem.W.Frag} {i j : Nat} {rl rl' : Rl} {H H' : Hp} {p : Addr} {b c : Nat} {s s' : S} {h : HA}
theorem House.congr (x : House K i rl H p b s h) (e : s' = { s with pl := s'.pl }) (hp : ∀ g, g ∈ s.line → s'.pl g = s.pl g) : House K i rl H p b s' h := by
  obtain ⟨o', si', li', pl', ea', de', aw', pa', go'⟩ := s'
  obtain ⟨o, si, li, pl, ea, de, aw, pa, go⟩ := s
  simp only [S.mk.injEq, true_and, and_true] at e
  obtain ⟨rfl, rfl, rfl, rfl, rfl, rfl, rfl, rfl⟩ := e
  exact {
    self := x.self
    line := x.line
    pb := x.pb
    pl := fun g hg => by
      obtain ⟨a, d, tv, z⟩ := x.pl g hg
      refine ⟨a, d, tv, ?_⟩
      rw [hp g hg]
      exact z
    pn := x.pn
    db := x.db
    de := x.de
    aw := x.aw
    pa := x.pa
    pv := x.pv
    go := x.go
    gv := x.gv
    few := ⟨x.few.line, x.few.away, x.few.past, x.few.going, x.few.debts⟩
    kpl := x.kpl
    kdl := x.kdl }
theorem House.outLine (x : House K i rl H p b s h) {g : Str} (nd : s.line.Nodup) :
    House K i rl (upd (upd H h.l (.lst ((s.line.erase g).map .str))) h.pb (.dK (dropK h.kp (.inr g)))) p b { s with line := s.line.erase g } { h with kp := dropK h.kp (.inr g) } ∧
      Step i rl H rl (upd (upd H h.l (.lst ((s.line.erase g).map .str))) h.pb (.dK (dropK h.kp (.inr g)))) := by
  have hlb : h.l ≠ h.pb := x.line.ne x.pb (by intro e; cases e)
  have f1 : ∀ r a' u, (i, r) ≠ (i, .line) → C rl H i r a' u → C rl (upd H h.l (.lst ((s.line.erase g).map .str))) i r a' u := fun r a' u d z => z.upd x.line d
  have pb1 := f1 _ _ _ (by intro e; cases e) x.pb
  have f : ∀ r a' u, (i, r) ≠ (i, .line) → (i, r) ≠ (i, .places) → C rl H i r a' u → C rl (upd (upd H h.l (.lst ((s.line.erase g).map .str))) h.pb (.dK (dropK h.kp (.inr g)))) i r a' u := fun r a' u d1 d2 z => (f1 _ _ _ d1 z).upd pb1 d2
  have t := (Step.write x.line (fun z => z) (o' := .lst ((s.line.erase g).map .str))).trans (Step.write pb1 (fun z => z) (o' := .dK (dropK h.kp (.inr g))))
  have me : ∀ y, y ∈ s.line.erase g ↔ y ≠ g ∧ y ∈ s.line := fun y => nd.mem_erase_iff
  refine ⟨{
    self := f _ _ _ (by intro e; cases e) (by intro e; cases e) x.self
    line := ⟨x.line.r, by rw [upd_ne hlb]; exact upd_same⟩
    pb := ⟨x.pb.r, upd_same⟩
    pl := fun y hy => by
      obtain ⟨h1, h2⟩ := (me y).mp hy
      obtain ⟨a, d, tv, z⟩ := x.pl y h2
      refine ⟨a, d, tv, ?_, f _ _ _ (by intro e; cases e) (by intro e; cases e) z.c, z.t.tk t.tk⟩
      show valV (dropK h.kp (.inr g)) (.inr y) = _
      rw [valV_drop, if_neg fun q => h1 (Sum.inr.inj q)]
      exact z.v
    pn := fun y hy => by
      show valV (dropK h.kp (.inr g)) (.inr y) = none
      rw [valV_drop]
      by_cases e : y = g
      · rw [if_pos (congrArg Sum.inr e)]
      · rw [if_neg fun q => e (Sum.inr.inj q)]
        exact x.pn y fun z => hy ((me y).mpr ⟨e, z⟩)
    db := f _ _ _ (by intro e; cases e) (by intro e; cases e) x.db
    de := fun y => by
      have z := x.de y
      show DebtV _ _ _ _ _ (s.debts y)
      cases e : s.debts y with
      | none => rw [e] at z; exact z
      | some ds =>
        rw [e] at z
        obtain ⟨a', e1, e2⟩ := z
        exact ⟨a', e1, f _ _ _ (by intro e; cases e) (by intro e; cases e) e2⟩
    aw := f _ _ _ (by intro e; cases e) (by intro e; cases e) x.aw
    pa := f _ _ _ (by intro e; cases e) (by intro e; cases e) x.pa
    pv := L2.Paired.mapP x.pv fun _ _ z => z.tk t.tk
    go := f _ _ _ (by intro e; cases e) (by intro e; cases e) x.go
    gv := L2.Paired.mapP x.gv fun _ _ z => z.tk t.tk
    few := ⟨Nat.le_trans List.length_erase_le x.few.line, x.few.away, x.few.past, x.few.going, x.few.debts⟩
    kpl := Nat.le_trans (dropK_le _ _) x.kpl
    kdl := x.kdl }, t⟩
end
section
variable {P : Program} {w : World} {K : PySem.W.Frag} {mg : Str → Option Value} {base : Heap}

/-! ### out -/
def spOut (K : PySem.W.Frag) : Sp := fun vs H Q E => ∃ (i : Nat) (rl : Rl) (p : Addr) (b : Nat) (s : S) (h : HA) (g : Str), vs = [.ref p, .str g] ∧ House K i rl H p b s h ∧ isNm g = true ∧ g ∈ s.line ∧ s.line.Nodup ∧ b + cost s ≤ Lim ∧ Due K i rl H p (b + cost s) (deed s (.out g)) Q E
theorem sc_out : FnScope ["self", "guest", "other"] ["self", "guest"] (defScope s_House_out) := ⟨rfl, rfl, rfl, by decide +kernel, rfl, by decide +kernel, by decide +kernel⟩
theorem m2_of {X : Cx} {o e f : Expr} {m : Str} {apos cpos : Pos} (base : attributeBase o m X.env (eval o X.env) = eval o X.env := by rfl)
    (few : ((backTo cpos (starEach [e, f] X.env)).all (fun x => !x.1) && (backToKw cpos (keywordEach [] X.env)).all (fun x => x.1.isSome) && decide (([e, f] : List Expr).length + ([] : List Keyword).length + (if ([] : List Keyword).isEmpty then 0 else 1) < 30)) = true := by rfl)
    (line : (apos.endLine == cpos.line) = true := by rfl) (trees : backTo cpos (starEach [e, f] X.env) = [(false, eval e X.env), (false, eval f X.env)] := by rfl) : M2 X o m apos e f cpos := ⟨base, few, line, trees⟩
theorem ok_out (T : Txt K mg) : Ok P w K mg base CX0 5 (He.fAd K ("House", some "out")) ["self", "guest"] (spOut K) := by
  obtain ⟨fd0, G0, b0, k0⟩ := (ok_near (P := P) (w := w) (base := base) T).ex
  obtain ⟨fd2, G2, b2, k2⟩ := (ok_lookAll (P := P) (w := w) (base := base) T).ex
  obtain ⟨fd3, G3, b3, k3⟩ := (ok_gone (P := P) (w := w) (base := base) T).ex
  obtain ⟨fd4, G4, b4, k4⟩ := (ok_noMore (P := P) (w := w) (base := base) T).ex
  refine Ok.of T.f_House_out sc_out (fun _ _ _ _ _ _ us hl => match us, hl with | [_, _], _ => rfl) (fun vs H Q E h => by obtain ⟨_, _, _, _, _, _, _, rfl, _⟩ := h; rfl) (fun cdv A outer s H vs Q E hr h => ?_)
  obtain ⟨i, rl, p, b, s, h, g, rfl, x, hn, hg, nd, hb, q⟩ := h
  have hu := hu_of hr
  have hr2 : Room 2 _ := hr.mono (by decide)
  have hr3 : Room 3 _ := hr.mono (by decide)
  refine ⟨_, (pss_cons (ps_expr (pe_meth (pv 0) T.cls_House T.m_need_near G0 hr2 b0 .nil pass0 (pa_cons (pv 1) pa_nil)))
      (pss_cons (ps_expr (pe_bm PySem.F.plainAttrs_list PySem.F.slot_list_remove PySem.F.type_list_remove mt_removeS (pe_fld (pv 0) rfl) (pa_cons (pv 1) pa_nil)))
      (pss_cons (ps_ddel (pe_fld (pv 0) rfl) (pv 1))
      (pss_cons (ps_expr (pe_dpop2 (pe_fld (pv 0) rfl) (pv 1) pe_non m2_of))
      (pss_cons (ps_expr (pe_dpop2 (pe_fld (pv 0) rfl) (pv 1) pe_non m2_of))
      (pss_cons (ps_for PassesOwn.never rfl (pi_list (pe_fld (pv 0) rfl)) (pg_name (i := 2) sc_out.nd rfl (Or.inl rfl)) (pss_one (ps_if (pt_cmpR op_eq (pe_fld (pe_dget hu (pe_fld (pv 0) rfl) (pv 2) (fun _ _ => rfl)) rfl) (pv 1) (nomark _)) (pss_one (ps_fld (pe_dget hu (pe_fld (pv 0) rfl) (pv 2) (fun _ _ => rfl)) pe_non rfl)) pss_nil)))
      (pss_cons (ps_expr (pe_meth0 (pv 0) T.cls_House T.m_look_at_all G2 hr b2 .nil pass0))
      (pss_cons (ps_expr (pe_meth (pv 0) T.cls_House T.m_no_more_for G4 hr2 b4 .nil pass0 (pa_cons (pv 1) pa_nil)))
      (pss_one (ps_ret (pe_meth0 (pv 0) T.cls_House T.m_gone G3 hr3 b3 .nil pass0))))))))))), ?_⟩
  have hc : cost s = 6 * s.line.length + 20 := rfl
  obtain ⟨a, dxa, tv, y⟩ := x.pl g hg
  refine ⟨_, rfl, p, h.dx, _, rfl, x.self.h, rfl, _, rfl, i, rl, p, b, s, h, g, a, dxa, tv, rfl, x, hn, y, fun H1 s1 => ?_⟩
  have x1 := x.same s1
  refine ⟨_, rfl, p, CH K, h.dx, _, _, rfl, x1.self.h, T.cls_House, T.na_H_line, rfl, .inl ⟨rfl, _, SqL.of x1.line.h⟩, _, rfl, h.l, s.line, g, rfl, rfl, x1.line.h, hg, ?_⟩
  have pbl := x1.pb.upd x1.line (by intro e; cases e) (o' := .lst ((s.line.erase g).map .str))
  have sel := x1.self.upd x1.line (by intro e; cases e) (o' := .lst ((s.line.erase g).map .str))
  refine ⟨_, rfl, p, CH K, h.dx, _, _, rfl, sel.h, T.cls_House, T.na_H_places_by, rfl, _, rfl, h.pb, h.kp, Sum.inr g, rfl, pbl.h, rfl, by rw [y.v]; rfl, ?_⟩
  obtain ⟨x2, t2⟩ := x1.outLine (g := g) nd
  have t12 := (Step.same s1).trans t2
  generalize (upd (upd H1 h.l (.lst ((s.line.erase g).map .str))) h.pb (.dK (dropK h.kp (.inr g)))) = H2 at x2 t2 t12
  -- self.debts.pop(guest, None)
  have part2 : ∀ H3 (h3 : HA), Step i rl H rl H3 → h3.l = h.l → House K i rl H3 p b (({ s with line := s.line.erase g } : S).setDebt g none) h3 →
      tSeq (tDrop (tDPop2 (tFld K (tVar 0) "away") (tVar 1) (tC V.non)))
        (tSeq (tFor (iList K (tFld K (tVar 0) "line")) (gName 2) (tIfS (tTest (tOp rEq (tFld K (tDGet (tFld K (tVar 0) "places_by") (tVar 2)) "source") (tVar 1))) (sFld K (tDGet (tFld K (tVar 0) "places_by") (tVar 2)) (tC V.non) "source") tNext))
        (tSeq (tDrop (tMeth (CH K) "look_at_all" (spLookAll K) [] E0 (tVar 0) tNil)) (tSeq (tDrop (tMeth (CH K) "no_more_for" (spNoMore K) [] E0 (tVar 0) (tCons (tVar 1) tNil))) (tRet (tMeth (CH K) "gone" (spGone K) [] E0 (tVar 0) tNil)))))
        { nx := fun _ H' => Q .non H', rt := Q } [some (.ref p), some (.str g), none] H3 := by
    intro H3 h3 t3 el3 x3
    -- self.away.pop(guest, None)
    have part3 : ∀ H4, Step i rl H rl H4 → House K i rl H4 p b { (({ s with line := s.line.erase g } : S).setDebt g none) with away := s.away.filter fun x => decide (x ≠ g) } h3 →
        (tSeq (tFor (iList K (tFld K (tVar 0) "line")) (gName 2) (tIfS (tTest (tOp rEq (tFld K (tDGet (tFld K (tVar 0) "places_by") (tVar 2)) "source") (tVar 1))) (sFld K (tDGet (tFld K (tVar 0) "places_by") (tVar 2)) (tC V.non) "source") tNext))
        (tSeq (tDrop (tMeth (CH K) "look_at_all" (spLookAll K) [] E0 (tVar 0) tNil)) (tSeq (tDrop (tMeth (CH K) "no_more_for" (spNoMore K) [] E0 (tVar 0) (tCons (tVar 1) tNil))) (tRet (tMeth (CH K) "gone" (spGone K) [] E0 (tVar 0) tNil)))))
        { nx := fun _ H' => Q .non H', rt := Q } [some (.ref p), some (.str g), none] H4 := by
      intro H4 t4 x4
      generalize hs4 : ({ (({ s with line := s.line.erase g } : S).setDebt g none) with away := s.away.filter fun x => decide (x ≠ g) } : S) = s4 at x4
      have l4 : s4.line = s.line.erase g := by rw [← hs4]; rfl
      have nd4 : (s.line.erase g).Nodup := nd.erase g
      have len4 : (s.line.erase g).length ≤ s.line.length := List.length_erase_le
      refine ⟨_, rfl, p, CH K, h3.dx, _, _, rfl, x4.self.h, T.cls_House, T.na_H_line, rfl, h3.l, rfl, ⟨_, SqL.of x4.line.h⟩, ?_⟩
      refine for_list (K := K) (a := h3.l) (xs := s4.line.map V.str) (fun k σ H5 => ∃ (v1 : Option V), σ = [some (.ref p), some (.str g), v1] ∧ Step i rl H rl H5 ∧ House K i rl H5 p b (srcOff s4 g (s4.line.take k)) h3)
        ⟨none, rfl, t4, x4.congr rfl fun y _ => srcOff_nil s4 g y⟩ (fun k σ H5 _ ⟨_, _, _, x5⟩ => SqL.of x5.line.h) ?_ ?_
      · rintro k v σ H5 hk ⟨v1, rfl, t5, x5⟩
        rw [List.getElem?_map] at hk
        obtain ⟨o, ho, rfl⟩ := Option.map_eq_some_iff.mp hk
        have hol : o ∈ s4.line := List.mem_of_getElem? ho
        have hnt : o ∉ s4.line.take k := fun m => by
          obtain ⟨j, hj⟩ := List.getElem?_of_mem m
          have hjk : j < k := by
            have := (List.getElem?_eq_some_iff.mp hj).1
            rw [List.length_take] at this
            omega
          rw [List.getElem?_take_of_lt hjk] at hj
          have := nd_ix (by rw [l4]; exact nd4) hj ho
          omega
        obtain ⟨a6, d6, tv6, y6⟩ := x5.pl o hol
        have ep : (srcOff s4 g (s4.line.take k)).pl o = s4.pl o := if_neg fun z => hnt z.1
        rw [ep] at y6
        refine ⟨_, rfl, p, CH K, h3.dx, _, _, rfl, x5.self.h, T.cls_House, T.na_H_places_by, rfl, _, rfl, h3.pb, .ref a6, rfl, by rw [← y6.v]; exact DGet.k (k := Sum.inr o) x5.pb.h, ?_⟩
        refine ⟨a6, CP K, d6, _, _, rfl, y6.c.h, T.cls_Place, T.na_P_source, rfl, _, rfl, oV_scal _ (some g), _, rfl, ?_⟩
        rw [show V.str g = oV (some g) from rfl, oV_dec]
        by_cases c : (s4.pl o).source = some g
        · rw [decide_eq_true c]
          refine iteT ⟨_, rfl, p, CH K, h3.dx, _, _, rfl, x5.self.h, T.cls_House, T.na_H_places_by, rfl, _, rfl, h3.pb, .ref a6, rfl, by rw [← y6.v]; exact DGet.k (k := Sum.inr o) x5.pb.h, ?_⟩
          refine ⟨a6, CP K, d6, _, rfl, y6.c.h, T.cls_Place, T.na_P_source, (by exact (by decide : (5 : Nat) < 1000)), ?_⟩
          obtain ⟨x7, _⟩ := x5.setPl (q' := { (s4.pl o) with source := none }) y6 (tv' := tv6) y6.t
          refine ⟨_, rfl, t5.trans (Step.write y6.c fun z => z), x7.congr rfl fun y hy => ?_⟩
          rw [take_succ_at ho]
          show (if y ∈ s4.line.take k ++ [o] ∧ (s4.pl y).source = some g then { (s4.pl y) with source := none } else s4.pl y) = if y = o then { (s4.pl o) with source := none } else if y ∈ s4.line.take k ∧ (s4.pl y).source = some g then { (s4.pl y) with source := none } else s4.pl y
          by_cases e : y = o
          · subst e
            rw [if_pos rfl, if_pos ⟨List.mem_append_right _ (List.mem_singleton.mpr rfl), c⟩]
          · rw [if_neg e]
            by_cases e2 : y ∈ s4.line.take k ∧ (s4.pl y).source = some g
            · rw [if_pos e2, if_pos ⟨List.mem_append_left _ e2.1, e2.2⟩]
            · rw [if_neg e2, if_neg fun z => (List.mem_append.mp z.1).elim (fun w => e2 ⟨w, z.2⟩) fun w => e (List.mem_singleton.mp w)]
        · rw [decide_eq_false c]
          refine iteF ⟨_, rfl, t5, x5.congr rfl fun y hy => ?_⟩
          rw [take_succ_at ho]
          show (if y ∈ s4.line.take k ++ [o] ∧ (s4.pl y).source = some g then { (s4.pl y) with source := none } else s4.pl y) = if y ∈ s4.line.take k ∧ (s4.pl y).source = some g then { (s4.pl y) with source := none } else s4.pl y
          by_cases e2 : y ∈ s4.line.take k ∧ (s4.pl y).source = some g
          · rw [if_pos e2, if_pos ⟨List.mem_append_left _ e2.1, e2.2⟩]
          · rw [if_neg e2, if_neg fun z => (List.mem_append.mp z.1).elim (fun w => e2 ⟨w, z.2⟩) fun w => c (by rw [← List.mem_singleton.mp w]; exact z.2)]
      · rintro σ H5 ⟨v1, rfl, t5, x5⟩
        rw [List.length_map, List.take_length] at x5
        have x6 : House K i rl H5 p b (without s g) h3 := x5.congr (by rw [← hs4]; rfl) fun y hy => by
          have hy' : y ∈ s4.line := hy
          show (if (s.pl y).source = some g then { (s.pl y) with source := none } else s.pl y) = if y ∈ s4.line ∧ (s4.pl y).source = some g then { (s4.pl y) with source := none } else s4.pl y
          have e : s4.pl = s.pl := by rw [← hs4]; rfl
          rw [e]
          by_cases c : (s.pl y).source = some g
          · rw [if_pos c, if_pos ⟨hy', c⟩]
          · rw [if_neg c, if_neg fun z => c z.2]
        have wl : (without s g).line = s.line.erase g := rfl
        refine ⟨_, rfl, p, h3.dx, _, rfl, x6.self.h, rfl, i, rl, p, b, _, h3, rfl, x6, (by rw [wl]; omega), fun H7 h7 t7 x7 e7 => ?_⟩
        have el7 : (lookAll (without s g)).line = s.line.erase g := by rw [lookAll_line, wl]
        refine ⟨_, rfl, p, h7.dx, _, rfl, x7.self.h, rfl, _, rfl, i, rl, p, _, _, h7, g, rfl, x7, (by rw [el7, wl]; omega), (by rw [el7]; exact nd4), fun rl8 H8 h8 t8 x8 e8 => ?_⟩
        have el8 : (noMore (lookAll (without s g)) g).line = s.line.erase g := by rw [noMore_line, el7]
        refine ⟨_, rfl, p, h8.dx, _, rfl, x8.self.h, rfl, i, rl8, p, _, _, h8, rfl, x8, (by rw [el8, el7, wl]; omega), fun rl9 H9 h9 a9 vs' t9 x9 e9 ra ha hl => ?_⟩
        refine q.yes (by rw [deed_out, if_pos hg]) (((t5.trans t7).trans t8).trans t9) (x9.mono ?_) ra ha hl
        rw [el8, el7, wl]; omega
    refine ⟨_, rfl, p, CH K, h3.dx, _, _, rfl, x3.self.h, T.cls_House, T.na_H_away, rfl, h3.aw, rfl, .inl ⟨_, .of x3.aw.h⟩, _, rfl, _, Sum.inr g, x3.aw.h, rfl, fun v hv => ?_, fun hv => ?_⟩
    · have x4 := x3.setAway (l := s.away.filter fun x => decide (x ≠ g)) (c := b) (Nat.le_trans (List.length_filter_le _ _) x3.few.away) (Nat.le_refl _)
      rw [dropK_awk]
      exact part3 _ (t3.trans (Step.write x3.aw fun z => z)) x4
    · refine part3 _ t3 ?_
      have hna : g ∉ s.away := notMem_of_awk hv
      rw [(filter_ne_iff g s.away).mpr hna]
      exact x3
  refine ⟨_, rfl, p, CH K, h.dx, _, _, rfl, x2.self.h, T.cls_House, T.na_H_debts, rfl, h.db, rfl, .inl ⟨_, .of x2.db.h⟩, _, rfl, h.kd, Sum.inr g, x2.db.h, rfl, fun v hv => ?_, fun hv => ?_⟩
  · exact part2 _ { h with kp := dropK h.kp (.inr g), kd := dropK h.kd (.inr g) } (t12.trans (Step.write x2.db fun z => z)) rfl x2.delDebt
  · refine part2 _ { h with kp := dropK h.kp (.inr g) } t12 rfl ?_
    rw [setDebt_self]
    · exact x2
    · have z := x2.de g
      show s.debts g = none
      cases e : s.debts g with
      | none => rfl
      | some ds =>
        have z' : DebtV rl H2 i g (valV h.kd (.inr g)) (s.debts g) := z
        rw [e] at z'
        obtain ⟨a', e1, _⟩ := z'
        rw [hv] at e1; cases e1
end
end G
set_option Elab.async false
set_option linter.all false
set_option maxRecDepth 100000
set_option maxHeartbeats 4000000
namespace G
open PySem PySem.Spec PyProof.Rows L2
theorem hearOpen_eq (s : S) (g : Str) : hearOpen s g = answer (lookN (s.setPl g { (s.pl g) with told := none }) (some g) (behind s g)).1 g (lookN (s.setPl g { (s.pl g) with told := none }) (some g) (behind s g)).2 := rfl
theorem hearWord_line (s : S) (g w : Str) : (hearWord s g w).line = s.line := lookN_line _ _ _
theorem hearOpen_line (s : S) (g : Str) : (hearOpen s g).line = s.line := by rw [hearOpen_eq, answer_line, lookN_line]; rfl
theorem close_line (s : S) (g : Str) : (close s g).line = s.line := by
  show (noMore _ g).line = _
  rw [noMore_line, look_line]; rfl
theorem dbt_none {i : Nat} {rl : Rl} {H : Hp} {kd : List (Key × V)} {d : Str → Option (List Str)} (x : Debts rl H i kd d) (g : Str) : (valV kd (.inr g)).isSome = decide (d g ≠ none) := by
  rw [dbt_isSome x]
  cases d g with
  | none => rfl
  | some ds => rfl
section
variable {P : Program} {w : World} {K : PySem.W.Frag} {mg : Str → Option Value} {base : Heap}

/-! ### hear -/
def spHear (K : PySem.W.Frag) : Sp := fun vs H Q E => ∃ (i : Nat) (rl : Rl) (p : Addr) (b : Nat) (s : S) (h : HA) (g : Str) (la : Addr) (l : List Str), vs = [.ref p, .str g, .ref la] ∧ House K i rl H p b s h ∧ isNm g = true ∧ s.line.Nodup ∧ H la = some (.tup (l.map .str)) ∧ l ∈ ltrs ∧ b + cost s ≤ Lim ∧
  Due K i rl H p (b + cost s) (deed s (.hear g l)) Q E
theorem sc_hear : FnScope ["self", "guest", "letter", "place"] ["self", "guest", "letter"] (defScope s_House_hear) := ⟨rfl, rfl, rfl, by decide +kernel, rfl, by decide +kernel, by decide +kernel⟩
theorem ok_hear (T : Txt K mg) : Ok P w K mg base (L2.CX P w) 6 (He.fAd K ("House", some "hear")) ["self", "guest", "letter"] (spHear K) := by
  obtain ⟨fd0, G0, b0, k0⟩ := (ok_is_name (P := P) (w := w) (base := base) T).ex
  obtain ⟨fd1, G1, b1, k1⟩ := (ok_is_letter (P := P) (w := w) (base := base) T).ex
  obtain ⟨fd2, G2, b2, k2⟩ := (ok_behind (P := P) (w := w) (base := base) T).ex
  obtain ⟨fd3, G3, b3, k3⟩ := (ok_gone (P := P) (w := w) (base := base) T).ex
  obtain ⟨fd4, G4, b4, k4⟩ := (ok_answer (P := P) (w := w) (base := base) T).ex
  obtain ⟨fd5, G5, b5, k5⟩ := (ok_close (P := P) (w := w) (base := base) T).ex
  refine Ok.ofX T.f_House_hear sc_hear (fun _ _ _ _ _ _ us hl => match us, hl with | [_, _, _], _ => rfl) (fun vs H Q E h => by obtain ⟨_, _, _, _, _, _, _, _, _, rfl, _⟩ := h; rfl) (fun cdv A outer s H vs Q E hr h => ?_)
  obtain ⟨i, rl, p, b, s, h, g, la, l, rfl, x, hn, nd, hla, hl, hb, q⟩ := h
  have hu := hu_of hr
  have hu2 := hr.units
  have hr1 : Room 1 _ := hr.mono (by decide)
  have hr2 : Room 2 _ := hr.mono (by decide)
  have hr3 : Room 3 _ := hr.mono (by decide)
  have hr4 : Room 4 _ := hr.mono (by decide)
  obtain ⟨t1, c1⟩ := T.c_WORD
  obtain ⟨t2, c2⟩ := T.c_IN
  obtain ⟨t3, c3⟩ := T.c_OUT
  refine ⟨_, (pss_cons (ps_if (PW.pt (pw_or (pt_not (pt_val (pe_call G0 hr1 (by rfl) T.g_is_name k0 b0 .nil pass0 (pa_cons (pv 1) pa_nil)))) (pw_or (pt_cmp (pc_dnotin hu (pv 1) (pe_fld (pv 0) rfl))) (pw_or1 (pt_not (pt_val (pe_call G1 hr1 (by rfl) T.g_is_letter k1 b1 .nil pass0 (pa_cons (pv 2) pa_nil))))))))
        (pss_one (ps_raise rfl (takes_of rfl rfl rfl rfl) (pmk_own PySem.F.excBase_ValueError T.x_NoLetter.1 T.g_NoLetter T.x_NoLetter.2.1 (raises_own T.x_NoLetter.2.2.1 T.x_NoLetter.2.2.2) rfl))) pss_nil)
      (pss_cons (ps_set (i := 3) sc_hear.nd rfl (Or.inl rfl) (pe_dget hu (pe_fld (pv 0) rfl) (pv 1) (fun _ _ => rfl)))
      (pss_cons (ps_if (pt_cmpR op_eq (pe_ix ix_tup (pv 2) pe_int (fun _ _ => rfl)) (pe_glob (v := .str "word") rfl c1 ⟨t1, rfl⟩) (nomark _)) (pss_cons (ps_if (PW.pt (pw_or (pt_cmpR op_notInS (pe_ix ix_tup (pv 2) pe_int (fun _ _ => rfl)) (pe_tup (pa_cons (pe_glob (v := .str "in") rfl c2 ⟨t2, rfl⟩) (pa_cons (pe_glob (v := .str "out") rfl c3 ⟨t3, rfl⟩) pa_nil))) (by rfl)) (pw_or (pt_cmpR op_notN (pe_fld (pv 3) rfl) pe_non (nomark _)) (pw_or1 (pt_cmp (pc_din hu (pv 1) (pe_fld (pv 0) rfl)))))))
          (pss_one (ps_raise rfl (takes_of rfl rfl rfl rfl) (pmk_own PySem.F.excBase_ValueError T.x_NoLetter.1 T.g_NoLetter T.x_NoLetter.2.1 (raises_own T.x_NoLetter.2.2.1 T.x_NoLetter.2.2.2) rfl))) pss_nil)
      (pss_cons (ps_fldaug (pv 0) pe_int in_add)
      (pss_cons (ps_fld (pv 3) (pe_tup (pa_cons (pe_ix ix_tup (pv 2) pe_int (fun _ _ => rfl)) (pa_cons (pe_fld (pv 0) rfl) pa_nil))) rfl)
      (pss_one (ps_expr (pe_meth (pv 0) T.cls_House T.m_look_behind G2 hr4 b2 .nil pass0 (pa_cons (pv 1) pa_nil)))))))
      (pss_one (ps_if (pt_cmpR (op_eqP hu2) (pv 2) (pe_glob (v := .ref (He.ga K "OPEN")) rfl T.g_OPEN rfl) (nomark _)) (pss_cons (ps_if (pt_cmpR op_isN (pe_fld (pv 3) rfl) pe_non (nomark _)) (pss_one (ps_raise rfl (takes_of rfl rfl rfl rfl) (pmk_own PySem.F.excBase_ValueError T.x_NoLetter.1 T.g_NoLetter T.x_NoLetter.2.1 (raises_own T.x_NoLetter.2.2.1 T.x_NoLetter.2.2.2) rfl))) pss_nil)
      (pss_cons (ps_fld (pv 3) pe_non rfl)
      (pss_one (ps_expr (pe_meth (pv 0) T.cls_House T.m_answer_for G4 hr2 b4 .nil pass0 (pa_cons (pv 1) (pa_cons (pe_meth (pv 0) T.cls_House T.m_look_behind G2 hr4 b2 .nil pass0 (pa_cons (pv 1) pa_nil)) pa_nil)))))))
        (pss_one (ps_if (pt_cmpR (op_eqP hu2) (pv 2) (pe_glob (v := .ref (He.ga K "HEARD")) rfl T.g_HEARD rfl) (nomark _)) (pss_cons (ps_if (pt_not (pt_val (pe_fld (pv 3) rfl))) (pss_one (ps_raise rfl (takes_of rfl rfl rfl rfl) (pmk_own PySem.F.excBase_ValueError T.x_NoLetter.1 T.g_NoLetter T.x_NoLetter.2.1 (raises_own T.x_NoLetter.2.2.1 T.x_NoLetter.2.2.2) rfl))) pss_nil)
      (pss_one (ps_expr (pe_meth (pv 0) T.cls_House T.m_close G5 hr4 b5 .nil pass0 (pa_cons (pv 1) pa_nil)))))
          (pss_one (ps_if (PW.pt (pw_and (pt_cmpR (op_eqP hu2) (pv 2) (pe_glob (v := .ref (He.ga K "BACK")) rfl T.g_BACK rfl) (nomark _)) (pw_and1 (pt_cmp (pc_din hu (pv 1) (pe_fld (pv 0) rfl)))))) (pss_one (ps_ddel (pe_fld (pv 0) rfl) (pv 1)))
            (pss_one (ps_raise rfl (takes_of rfl rfl rfl rfl) (pmk_own PySem.F.excBase_ValueError T.x_NoLetter.1 T.g_NoLetter T.x_NoLetter.2.1 (raises_own T.x_NoLetter.2.2.1 T.x_NoLetter.2.2.2) rfl))))))))))
      (pss_one (ps_ret (pe_meth0 (pv 0) T.cls_House T.m_gone G3 hr3 b3 .nil pass0)))))), ?_⟩
  have hc : cost s = 6 * s.line.length + 20 := rfl
  refine ⟨_, rfl, g, rfl, nm_len hn, fun H1 s1 => ⟨true, by rw [hn], iteF ?_⟩⟩
  have x1 := x.same s1
  have hla1 := s1 _ _ hla
  refine ⟨_, rfl, _, rfl, p, CH K, h.dx, _, _, rfl, x1.self.h, T.cls_House, T.na_H_places_by, rfl, h.pb, _, rfl, DGet.k (k := Sum.inr g) x1.pb.h, _, rfl, ?_⟩
  rw [mem_places x]
  by_cases cg : g ∈ s.line
  case neg =>
    rw [decide_eq_false cg]
    exact iteT (iteT (q.no (deed_hear_no s g l cg) s1 T.e_NoLetter))
  rw [decide_eq_true cg]
  refine iteF ⟨_, rfl, la, l, rfl, hla1, hl, fun H2 s2 => ⟨true, rfl, iteF ?_⟩⟩
  have x2 := x1.same s2
  have hla2 := s2 _ _ hla1
  have s12 := s1.trans s2
  obtain ⟨a, dxa, tv, y⟩ := x2.pl g cg
  refine ⟨_, rfl, p, CH K, h.dx, _, _, rfl, x2.self.h, T.cls_House, T.na_H_places_by, rfl, _, rfl, h.pb, .ref a, rfl, by rw [← y.v]; exact DGet.k (k := Sum.inr g) x2.pb.h, ?_⟩
  -- the last row: return self.gone()
  have fin : ∀ (b' : Nat) (s' : S) (H3 : Hp) (rl3 : Rl) (h3 : HA), Step i rl H rl3 H3 → House K i rl3 H3 p b' s' h3 → s'.line = s.line → b' + 2 * s.line.length ≤ b + cost s → deed s (.hear g l) = some (G.gone s') →
      (tRet (tMeth (CH K) "gone" (spGone K) [] E0 (tVar 0) tNil)) { nx := fun _ H' => Q .non H', rt := Q } [some (.ref p), some (.str g), some (.ref la), some (.ref a)] H3 := by
    intro b' s' H3 rl3 h3 t3 x3 e3 hb3 ed
    refine ⟨_, rfl, p, h3.dx, _, rfl, x3.self.h, rfl, i, rl3, p, _, _, h3, rfl, x3, by rw [e3]; omega, fun rl4 H4 h4 a4 vs' t4 x4 e4 ra ha hll => ?_⟩
    exact q.yes ed (t3.trans t4) (x4.mono (by rw [e3]; omega)) ra ha hll
  have hL : (∃ wd : Str, l = lWord wd ∧ (wd = "in" ∨ wd = "out" ∨ wd = "clear")) ∨ l = lOpen ∨ l = lHeard ∨ l = lBack ∨ l = lChair := by
    simp only [ltrs, List.mem_cons, List.mem_nil_iff, or_false] at hl
    rcases hl with rfl | rfl | rfl | rfl | rfl | rfl | rfl
    · exact .inr (.inl rfl)
    · exact .inr (.inr (.inl rfl))
    · exact .inr (.inr (.inr (.inl rfl)))
    · exact .inr (.inr (.inr (.inr rfl)))
    · exact .inl ⟨_, rfl, .inl rfl⟩
    · exact .inl ⟨_, rfl, .inr (.inl rfl)⟩
    · exact .inl ⟨_, rfl, .inr (.inr rfl)⟩
  rcases hL with ⟨wd, rfl, hw⟩ | hL
  · -- a word
    refine ⟨_, rfl, la, _, _, _, rfl, rfl, SqT.of hla2, rfl, rfl, true, rfl, iteT ?_⟩
    refine ⟨_, rfl, la, _, _, _, rfl, rfl, SqT.of hla2, rfl, (by show 2 ≤ sizeLine; decide), fun tp htp => ?_⟩
    have s3 := same_upd (o := HO.tup [V.str "in", V.str "out"]) htp
    have x3 := x2.same s3
    have y3 := y.tr (fun _ _ _ z => C.same z s3) (sameTk s3)
    have hla3 := s3 _ _ hla2
    refine ⟨tp, (["in", "out"] : List Str), wd, rfl, rfl, .inr (SqT.of upd_same), _, rfl, ?_⟩
    rw [if_pos rfl]
    by_cases w1 : wd ∈ (["in", "out"] : List Str)
    case neg =>
      rw [decide_eq_false w1]
      have ew : wd = "clear" := by
        rcases hw with e | e | e
        · exact absurd (by rw [e]; simp) w1
        · exact absurd (by rw [e]; simp) w1
        · exact e
      subst ew
      exact iteT (iteT (q.no (deed_clear s g cg) (s12.trans s3) T.e_NoLetter))
    have w2 : wd = "in" ∨ wd = "out" := by simpa using w1
    rw [decide_eq_true w1]
    refine iteF ⟨_, rfl, a, CP K, dxa, _, _, rfl, y3.c.h, T.cls_Place, T.na_P_told, rfl, rfl, _, rfl, ?_⟩
    have ht := y3.t
    cases et : (s.pl g).told with
    | some tn =>
      obtain ⟨wt, n⟩ := tn
      rw [et] at ht
      obtain ⟨t, rfl, htt⟩ := ht
      exact iteT (iteT (q.no (by rw [deed_word s g wd cg w2, if_neg fun z => by rw [et] at z; cases z.1]) (s12.trans s3) T.e_NoLetter))
    | none =>
      rw [et] at ht
      have ht' : tv = .non := ht
      subst ht'
      refine iteF ⟨_, rfl, _, rfl, p, CH K, h.dx, _, _, rfl, x3.self.h, T.cls_House, T.na_H_debts, rfl, h.db, _, rfl, DGet.k (k := Sum.inr g) x3.db.h, _, rfl, ?_⟩
      rw [dbt_none x3.de]
      by_cases cd : s.debts g = none
      case neg =>
        rw [decide_eq_true cd]
        exact iteT (q.no (by rw [deed_word s g wd cg w2, if_neg fun z => cd z.2]) (s12.trans s3) T.e_NoLetter)
      rw [decide_eq_false fun z => z cd]
      refine iteF ⟨_, rfl, p, CH K, h.dx, _, _, rfl, x3.self.h, T.cls_House, T.na_H_ears, rfl, _, _, rfl, rfl, h.dx, _, x3.self.h, (by exact (by decide : (9 : Nat) < 1000)), ?_⟩
      have x4 := x3.setSelf (fs := putF "ears" (.int ((s.ears : Int) + 1)) (hfs s.own s.size h.l h.pb s.ears h.db h.aw h.pa h.go)) (s' := { s with ears := s.ears + 1 }) (h' := h) rfl rfl rfl rfl rfl rfl rfl rfl rfl rfl rfl rfl rfl rfl rfl rfl rfl rfl
      have u4 := Step.write x3.self (fun z => z) (o' := .ins (CH K) h.dx (putF "ears" (.int ((s.ears : Int) + 1)) (hfs s.own s.size h.l h.pb s.ears h.db h.aw h.pa h.go)))
      have y4 : PlAt (CP K) rl _ i h g (s.pl g) a dxa .non := ⟨y3.v, y3.c.upd x3.self (by intro e; cases e) (o' := .ins (CH K) h.dx (putF "ears" (.int ((s.ears : Int) + 1)) (hfs s.own s.size h.l h.pb s.ears h.db h.aw h.pa h.go))), y3.t.tk u4.tk⟩
      have hla4 := u4.tk _ _ hla3
      refine ⟨_, rfl, la, _, _, _, rfl, rfl, SqT.of hla4, rfl, _, rfl, p, CH K, h.dx, _, _, rfl, x4.self.h, T.cls_House, T.na_H_ears, rfl, (by show 2 ≤ sizeLine; decide), fun tt htt => ?_⟩
      have s5 := same_upd (o := HO.tup [V.str wd, V.int ((s.ears + 1 : Nat) : Int)]) htt
      have x5 := x4.same s5
      have y5 := y4.tr (fun _ _ _ z => C.same z s5) (sameTk s5)
      refine ⟨_, rfl, a, CP K, dxa, _, rfl, y5.c.h, T.cls_Place, T.na_P_told, (by exact (by decide : (5 : Nat) < 1000)), ?_⟩
      obtain ⟨x6, y6⟩ := x5.setPl (q' := { (s.pl g) with told := some (wd, s.ears + 1) }) y5 (tv' := .ref tt) ⟨tt, rfl, upd_same⟩
      have u6 := Step.write y5.c (fun z => z) (o' := .ins (CP K) dxa (pfs (.ref tt) { (s.pl g) with told := some (wd, s.ears + 1) }))
      refine ⟨_, rfl, p, h.dx, _, rfl, x6.self.h, rfl, _, rfl, i, rl, p, _, _, h, g, rfl, x6, (by show b + 2 * s.line.length ≤ Lim; omega), cg, fun rl7 H7 h7 D7 u7 x7 e7 _ _ _ => ?_⟩
      refine fin (b + 2 * s.line.length) (hearWord s g wd) H7 rl7 h7 ((Step.same (s12.trans s3)).trans (u4.trans ((Step.same s5).trans (u6.trans u7)))) x7 (hearWord_line s g wd) (by omega) ?_
      rw [deed_word s g wd cg w2, if_pos ⟨et, cd⟩]
  have open_ : ∀ {m : List Str} (hm : l ≠ m) {u : Addr} (hu : SqT K H2 u (m.map .str)) {R : Bool → Prop} (hR : R false), ∃ d e, Dp K H2 (.ref la) d ∧ Dp K H2 (.ref u) e ∧ d.plain = true ∧ e.plain = true ∧ d.depth ≤ 60 ∧ ∃ k, V.bl (PyData.eqv d e) = V.bl k ∧ R k := by
    intro m hm u hu R hR
    refine ⟨tS l, tS m, dp_tup (SqT.of hla2), dp_tup hu, plain_tS _, plain_tS _, by rw [depth_tS]; decide, false, ?_, hR⟩
    rw [eqv_tS, decide_eq_false hm]
  have same_ : ∀ {u : Addr} (hu : SqT K H2 u (l.map .str)) {R : Bool → Prop} (hR : R true), ∃ d e, Dp K H2 (.ref la) d ∧ Dp K H2 (.ref u) e ∧ d.plain = true ∧ e.plain = true ∧ d.depth ≤ 60 ∧ ∃ k, V.bl (PyData.eqv d e) = V.bl k ∧ R k := by
    intro u hu R hR
    refine ⟨tS l, tS l, dp_tup (SqT.of hla2), dp_tup hu, plain_tS _, plain_tS _, by rw [depth_tS]; decide, true, ?_, hR⟩
    rw [eqv_tS, decide_eq_true rfl]
  rcases hL with rfl | rfl | rfl | rfl
  · -- open
    refine ⟨_, rfl, la, _, _, _, rfl, rfl, SqT.of hla2, rfl, rfl, false, rfl, iteF ?_⟩
    refine ⟨_, rfl, same_ (T.t_OPEN H2) (iteT ?_)⟩
    refine ⟨_, rfl, a, CP K, dxa, _, _, rfl, y.c.h, T.cls_Place, T.na_P_told, rfl, rfl, _, rfl, ?_⟩
    have ht := y.t
    cases et : (s.pl g).told with
    | none =>
      rw [et] at ht
      have ht' : tv = .non := ht
      subst ht'
      exact iteT (q.no (by rw [deed_open s g cg, if_pos et]) s12 T.e_NoLetter)
    | some tn =>
      obtain ⟨wt, n⟩ := tn
      rw [et] at ht
      obtain ⟨t, rfl, htt⟩ := ht
      refine iteF ⟨_, rfl, a, CP K, dxa, _, rfl, y.c.h, T.cls_Place, T.na_P_told, (by exact (by decide : (5 : Nat) < 1000)), ?_⟩
      obtain ⟨x3, y3⟩ := x2.setPl (q' := { (s.pl g) with told := none }) y (tv' := .non) rfl
      have u3 := Step.write y.c (fun z => z) (o' := .ins (CP K) dxa (pfs .non { (s.pl g) with told := none }))
      have u3' := (Step.same s12 : Step i rl H rl H2).trans u3
      refine ⟨_, rfl, p, h.dx, _, rfl, x3.self.h, rfl, _, rfl, _, rfl, p, h.dx, _, rfl, x3.self.h, rfl, _, rfl, i, rl, p, _, _, h, g, rfl, x3, (by show b + 2 * s.line.length ≤ Lim; omega), cg, fun rl4 H4 h4 D u4 x4 e4 rD hDn eD => ?_⟩
      have lb := lookN_len (s.setPl g { (s.pl g) with told := none }) (some g) (behind (s.setPl g { (s.pl g) with told := none }) g)
      have lb2 := behind_le (s.setPl g { (s.pl g) with told := none }) g
      have lb3 : (s.setPl g { (s.pl g) with told := none }).line = s.line := rfl
      rw [lb3] at lb2
      refine ⟨i, rl4, p, _, _, h4, g, D, _, rfl, x4, (by show b + 2 * s.line.length + 1 ≤ Lim; omega), rD, eD, (by show _ ≤ b + 2 * s.line.length; omega), fun H5 h5 u5 x5 e5 => ?_⟩
      refine fin (b + 2 * s.line.length + 1) (hearOpen s g) H5 _ h5 (((u3'.trans u4).give ((u3'.was_free hDn))).trans u5) x5 (hearOpen_line s g) (by omega) ?_
      rw [deed_open s g cg, if_neg fun z => by rw [et] at z; cases z]
  · -- heard
    refine ⟨_, rfl, la, _, _, _, rfl, rfl, SqT.of hla2, rfl, rfl, false, rfl, iteF ?_⟩
    refine ⟨_, rfl, open_ (m := lOpen) (by decide) (T.t_OPEN H2) (iteF ?_)⟩
    refine ⟨_, rfl, same_ (T.t_HEARD H2) (iteT ?_)⟩
    refine ⟨_, rfl, a, CP K, dxa, _, _, rfl, y.c.h, T.cls_Place, T.na_P_opened, rfl, _, rfl, ?_⟩
    cases eo : (s.pl g).opened with
    | false => exact iteT (q.no (by rw [deed_heard s g cg, if_neg fun z => by rw [eo] at z; cases z]) s12 T.e_NoLetter)
    | true =>
      refine iteF ⟨_, rfl, p, h.dx, _, rfl, x2.self.h, rfl, _, rfl, i, rl, p, _, _, h, g, rfl, x2, by omega, nd, cg, fun rl3 H3 h3 u3 x3 e3 => ?_⟩
      refine fin (b + 2 * s.line.length + 2) (close s g) H3 rl3 h3 ((Step.same s12).trans u3) x3 (close_line s g) (by omega) ?_
      rw [deed_heard s g cg, if_pos eo]
  · -- back
    refine ⟨_, rfl, la, _, _, _, rfl, rfl, SqT.of hla2, rfl, rfl, false, rfl, iteF ?_⟩
    refine ⟨_, rfl, open_ (m := lOpen) (by decide) (T.t_OPEN H2) (iteF ?_)⟩
    refine ⟨_, rfl, open_ (m := lHeard) (by decide) (T.t_HEARD H2) (iteF ?_)⟩
    refine ⟨_, rfl, same_ (T.t_BACK H2) (iteT ?_)⟩
    refine ⟨_, rfl, _, rfl, p, CH K, h.dx, _, _, rfl, x2.self.h, T.cls_House, T.na_H_away, rfl, h.aw, _, rfl, DGet.k (k := Sum.inr g) x2.aw.h, _, rfl, ?_⟩
    rw [isSome_awk]
    by_cases ca : g ∈ s.away
    case neg =>
      rw [decide_eq_false ca]
      exact iteF (q.no (by rw [deed_back s g cg, if_neg ca]) s12 T.e_NoLetter)
    rw [decide_eq_true ca]
    refine iteT ⟨_, rfl, p, CH K, h.dx, _, _, rfl, x2.self.h, T.cls_House, T.na_H_away, rfl, _, rfl, h.aw, _, Sum.inr g, rfl, x2.aw.h, rfl, by rw [isSome_awk]; exact decide_eq_true ca, ?_⟩
    rw [dropK_awk]
    have x3 := x2.setAway (l := s.away.filter fun x => decide (x ≠ g)) (c := b) (Nat.le_trans (List.length_filter_le _ _) x2.few.away) (Nat.le_refl _)
    refine fin b (back s g) _ rl h ((Step.same s12).trans (Step.write x2.aw fun z => z)) x3 rfl (by omega) ?_
    rw [deed_back s g cg, if_pos ca]
  · -- chair
    refine ⟨_, rfl, la, _, _, _, rfl, rfl, SqT.of hla2, rfl, rfl, false, rfl, iteF ?_⟩
    refine ⟨_, rfl, open_ (m := lOpen) (by decide) (T.t_OPEN H2) (iteF ?_)⟩
    refine ⟨_, rfl, open_ (m := lHeard) (by decide) (T.t_HEARD H2) (iteF ?_)⟩
    refine ⟨_, rfl, open_ (m := lBack) (by decide) (T.t_BACK H2) (iteF ?_)⟩
    exact q.no (deed_chair s g cg) s12 T.e_NoLetter
end
end G
set_option Elab.async false
set_option linter.all false
set_option maxRecDepth 100000
set_option maxHeartbeats 4000000
namespace G
open PySem PySem.Spec PyProof.Rows L2
/-! ### what a house tells: the mathematics -/
def reasonL (s : S) (g : Str) : Option (List Str) := match (s.pl g).mark with
  | none => none
  | some m => if m = "barred" then some ((named s g "in" true).take s.size) else some ((named s g "out" true).take (s.line.idxOf g + 1 - s.size))
def aheadB (s : S) (g o : Str) : Bool := match (s.pl g).told with
  | none => false
  | some (_, n) => (s.pl o).mark.isSome && decide (n ≤ (s.pl o).since)
def awaitedL (s : S) : List Str := s.line.filter fun g => (s.pl g).opened
def chairsL (s : S) : List Str := s.line.filter fun g => decide (g ∈ s.away)
def owedL (s : S) : List (Str × List Str) := (s.line.filter fun g => (s.debts g).isSome).map fun g => (g, s.line.filter fun o => decide (o ∈ (s.debts g).getD []))
def oD : Option Str → PyData
  | none => .none
  | some x => .str x
def turnD (t : Turn_) : PyData := .tuple [.str t.1, oD t.2.1, oD t.2.2]
def owedD (t : Str × List Str) : PyData := .tuple [.str t.1, lS t.2]
theorem dp_oV {K : PySem.W.Frag} {H : Hp} (x : Option Str) : Dp K H (oV x) (oD x) := by cases x <;> constructor
theorem dp_turn {K : PySem.W.Frag} {H : Hp} {t : Turn_} {v : V} (h : TurnV H t v) : Dp K H v (turnD t) := by
  obtain ⟨a, rfl, q⟩ := h
  exact .tup (SqT.of q) (.cons (.str _) (.cons (dp_oV _) (.cons (dp_oV _) .nil)))
theorem dp_turns {K : PySem.W.Frag} {H : Hp} : ∀ {l : List Turn_} {vs : List V}, Paired (TurnV H) l vs → DpAll K H vs (l.map turnD)
  | _, _, .nil => .nil
  | _, _, .cons a b => .cons (dp_turn a) (dp_turns b)
section
variable {P : Program} {w : World} {K : PySem.W.Frag} {mg : Str → Option Value} {base : Heap}

/-! ### order, room, turns -/
def spObs (K : PySem.W.Frag) (post : S → Hp → VK → Prop) : Sp := fun vs H Q _ => ∃ (i : Nat) (rl : Rl) (p : Addr) (b : Nat) (s : S) (h : HA), vs = [.ref p] ∧ House K i rl H p b s h ∧ b ≤ Lim ∧ post s H Q
/-- a new list of these texts -/
def newL (H : Hp) (Q : VK) (l : List Str) : Prop := ∀ H' a, Same H H' → H a = none → H' a = some (.lst (l.map .str)) → Q (.ref a) H'
theorem sc_order : FnScope ["self"] ["self"] (defScope s_House_order) := ⟨rfl, rfl, rfl, by decide +kernel, rfl, by decide +kernel, by decide +kernel⟩
theorem ok_order (T : Txt K mg) : Ok P w K mg base CX0 1 (He.fAd K ("House", some "order")) ["self"] (spObs K fun s H Q => newL H Q s.line) := by
  refine Ok.of T.f_House_order sc_order (fun _ _ _ _ _ _ us hl => match us, hl with | [_], _ => rfl) (fun vs H Q E h => by obtain ⟨_, _, _, _, _, _, rfl, _⟩ := h; rfl) (fun cdv A outer s H vs Q E hr h => ?_)
  obtain ⟨i, rl, p, b, s, h, rfl, x, hb, q⟩ := h
  refine ⟨_, (pss_one (ps_ret (pe_callTy call_list_of (by rfl) T.n_list (by decide +kernel) (pa_cons (pe_fld (pv 0) rfl) pa_nil)))), ?_⟩
  exact ⟨_, rfl, p, CH K, h.dx, _, _, rfl, x.self.h, T.cls_House, T.na_H_line, rfl, h.l, _, rfl, .inl (SqL.of x.line.h), fun l hl => q _ l (same_upd hl) hl upd_same⟩
theorem sc_room : FnScope ["self"] ["self"] (defScope s_House_room) := ⟨rfl, rfl, rfl, by decide +kernel, rfl, by decide +kernel, by decide +kernel⟩
theorem ok_room (T : Txt K mg) : Ok P w K mg base CX0 1 (He.fAd K ("House", some "room")) ["self"] (spObs K fun s H Q => Q (.int s.size) H) := by
  refine Ok.of T.f_House_room sc_room (fun _ _ _ _ _ _ us hl => match us, hl with | [_], _ => rfl) (fun vs H Q E h => by obtain ⟨_, _, _, _, _, _, rfl, _⟩ := h; rfl) (fun cdv A outer s H vs Q E hr h => ?_)
  obtain ⟨i, rl, p, b, s, h, rfl, x, hb, q⟩ := h
  refine ⟨_, (pss_one (ps_ret (pe_fld (pv 0) rfl))), ?_⟩
  exact ⟨_, rfl, p, CH K, h.dx, _, _, rfl, x.self.h, T.cls_House, T.na_H_size, rfl, q⟩
theorem sc_turns : FnScope ["self"] ["self"] (defScope s_House_turns) := ⟨rfl, rfl, rfl, by decide +kernel, rfl, by decide +kernel, by decide +kernel⟩
theorem ok_turns (T : Txt K mg) : Ok P w K mg base CX0 1 (He.fAd K ("House", some "turns")) ["self"] (spObs K fun s H Q => ∀ H' a, Same H H' → Dp K H' (.ref a) (.list (s.past.map turnD)) → Q (.ref a) H') := by
  refine Ok.of T.f_House_turns sc_turns (fun _ _ _ _ _ _ us hl => match us, hl with | [_], _ => rfl) (fun vs H Q E h => by obtain ⟨_, _, _, _, _, _, rfl, _⟩ := h; rfl) (fun cdv A outer s H vs Q E hr h => ?_)
  obtain ⟨i, rl, p, b, s, h, rfl, x, hb, q⟩ := h
  refine ⟨_, (pss_one (ps_ret (pe_callTy call_list_of (by rfl) T.n_list (by decide +kernel) (pa_cons (pe_fld (pv 0) rfl) pa_nil)))), ?_⟩
  refine ⟨_, rfl, p, CH K, h.dx, _, _, rfl, x.self.h, T.cls_House, T.na_H_past, rfl, h.pa, _, rfl, .inl (SqL.of x.pa.h), fun l hl => q _ l (same_upd hl) ?_⟩
  exact .lst (SqL.of upd_same) (dp_turns ((x.same (same_upd hl)).pv))

/-! ### word, is_open, cause, heard_of -/
def spObs1 (K : PySem.W.Frag) (post : S → Str → Hp → VK → Prop) : Sp := fun vs H Q _ => ∃ (i : Nat) (rl : Rl) (p : Addr) (b : Nat) (s : S) (h : HA) (g : Str), vs = [.ref p, .str g] ∧ House K i rl H p b s h ∧ b ≤ Lim ∧ isNm g = true ∧ g ∈ s.line ∧ post s g H Q
def outV (H : Hp) (Q : VK) (v : V) : Prop := ∀ H', Same H H' → Q v H'
theorem sc_word : FnScope ["self", "guest"] ["self", "guest"] (defScope s_House_word) := ⟨rfl, rfl, rfl, by decide +kernel, rfl, by decide +kernel, by decide +kernel⟩
theorem ok_word (T : Txt K mg) : Ok P w K mg base CX0 3 (He.fAd K ("House", some "word")) ["self", "guest"] (spObs1 K fun s g H Q => outV H Q (oV (s.pl g).mark)) := by
  obtain ⟨fd0, G0, b0, k0⟩ := (ok_near (P := P) (w := w) (base := base) T).ex
  refine Ok.of T.f_House_word sc_word (fun _ _ _ _ _ _ us hl => match us, hl with | [_, _], _ => rfl) (fun vs H Q E h => by obtain ⟨_, _, _, _, _, _, _, rfl, _⟩ := h; rfl) (fun cdv A outer s H vs Q E hr h => ?_)
  obtain ⟨i, rl, p, b, s, h, g, rfl, x, hb, hn, hg, q⟩ := h
  obtain ⟨a, dxa, tv, y⟩ := x.pl g hg
  refine ⟨_, (pss_one (ps_ret (pe_fld (pe_meth (pv 0) T.cls_House T.m_need_near G0 hr b0 .nil pass0 (pa_cons (pv 1) pa_nil)) rfl))), ?_⟩
  exact ⟨_, rfl, p, h.dx, _, rfl, x.self.h, rfl, _, rfl, i, rl, p, b, s, h, g, a, dxa, tv, rfl, x, hn, y, fun H1 s1 => ⟨a, CP K, dxa, _, _, rfl, s1 _ _ y.c.h, T.cls_Place, T.na_P_mark, rfl, q H1 s1⟩⟩
theorem sc_isOpen : FnScope ["self", "guest"] ["self", "guest"] (defScope s_House_is_open) := ⟨rfl, rfl, rfl, by decide +kernel, rfl, by decide +kernel, by decide +kernel⟩
theorem ok_isOpen (T : Txt K mg) : Ok P w K mg base CX0 3 (He.fAd K ("House", some "is_open")) ["self", "guest"] (spObs1 K fun s g H Q => outV H Q (.bl (s.pl g).opened)) := by
  obtain ⟨fd0, G0, b0, k0⟩ := (ok_near (P := P) (w := w) (base := base) T).ex
  refine Ok.of T.f_House_is_open sc_isOpen (fun _ _ _ _ _ _ us hl => match us, hl with | [_, _], _ => rfl) (fun vs H Q E h => by obtain ⟨_, _, _, _, _, _, _, rfl, _⟩ := h; rfl) (fun cdv A outer s H vs Q E hr h => ?_)
  obtain ⟨i, rl, p, b, s, h, g, rfl, x, hb, hn, hg, q⟩ := h
  obtain ⟨a, dxa, tv, y⟩ := x.pl g hg
  refine ⟨_, (pss_one (ps_ret (pe_fld (pe_meth (pv 0) T.cls_House T.m_need_near G0 hr b0 .nil pass0 (pa_cons (pv 1) pa_nil)) rfl))), ?_⟩
  exact ⟨_, rfl, p, h.dx, _, rfl, x.self.h, rfl, _, rfl, i, rl, p, b, s, h, g, a, dxa, tv, rfl, x, hn, y, fun H1 s1 => ⟨a, CP K, dxa, _, _, rfl, s1 _ _ y.c.h, T.cls_Place, T.na_P_opened, rfl, q H1 s1⟩⟩
theorem sc_cause : FnScope ["self", "guest"] ["self", "guest"] (defScope s_House_cause) := ⟨rfl, rfl, rfl, by decide +kernel, rfl, by decide +kernel, by decide +kernel⟩
theorem ok_cause (T : Txt K mg) : Ok P w K mg base CX0 3 (He.fAd K ("House", some "cause")) ["self", "guest"] (spObs1 K fun s g H Q => outV H Q (oV (s.pl g).source)) := by
  obtain ⟨fd0, G0, b0, k0⟩ := (ok_near (P := P) (w := w) (base := base) T).ex
  refine Ok.of T.f_House_cause sc_cause (fun _ _ _ _ _ _ us hl => match us, hl with | [_, _], _ => rfl) (fun vs H Q E h => by obtain ⟨_, _, _, _, _, _, _, rfl, _⟩ := h; rfl) (fun cdv A outer s H vs Q E hr h => ?_)
  obtain ⟨i, rl, p, b, s, h, g, rfl, x, hb, hn, hg, q⟩ := h
  obtain ⟨a, dxa, tv, y⟩ := x.pl g hg
  refine ⟨_, (pss_one (ps_ret (pe_fld (pe_meth (pv 0) T.cls_House T.m_need_near G0 hr b0 .nil pass0 (pa_cons (pv 1) pa_nil)) rfl))), ?_⟩
  exact ⟨_, rfl, p, h.dx, _, rfl, x.self.h, rfl, _, rfl, i, rl, p, b, s, h, g, a, dxa, tv, rfl, x, hn, y, fun H1 s1 => ⟨a, CP K, dxa, _, _, rfl, s1 _ _ y.c.h, T.cls_Place, T.na_P_source, rfl, q H1 s1⟩⟩
def toldW (t : Option (Str × Nat)) : Option Str := t.map (·.1)
theorem sc_heardOf : FnScope ["self", "guest", "told"] ["self", "guest"] (defScope s_House_heard_of) := ⟨rfl, rfl, rfl, by decide +kernel, rfl, by decide +kernel, by decide +kernel⟩
theorem ok_heardOf (T : Txt K mg) : Ok P w K mg base CX0 3 (He.fAd K ("House", some "heard_of")) ["self", "guest"] (spObs1 K fun s g H Q => outV H Q (oV (toldW (s.pl g).told))) := by
  obtain ⟨fd0, G0, b0, k0⟩ := (ok_near (P := P) (w := w) (base := base) T).ex
  refine Ok.of T.f_House_heard_of sc_heardOf (fun _ _ _ _ _ _ us hl => match us, hl with | [_, _], _ => rfl) (fun vs H Q E h => by obtain ⟨_, _, _, _, _, _, _, rfl, _⟩ := h; rfl) (fun cdv A outer s H vs Q E hr h => ?_)
  obtain ⟨i, rl, p, b, s, h, g, rfl, x, hb, hn, hg, q⟩ := h
  obtain ⟨a, dxa, tv, y⟩ := x.pl g hg
  refine ⟨_, (pss_cons (ps_set (i := 2) sc_heardOf.nd rfl (Or.inl rfl) (pe_fld (pe_meth (pv 0) T.cls_House T.m_need_near G0 hr b0 .nil pass0 (pa_cons (pv 1) pa_nil)) rfl))
      (pss_one (ps_ret (pe_ifExp (pt_cmpR op_isN (pv 2) pe_non (nomark _)) pe_non (pe_ix ix_tup (pv 2) pe_int (fun _ _ => rfl)))))), ?_⟩
  refine ⟨_, rfl, p, h.dx, _, rfl, x.self.h, rfl, _, rfl, i, rl, p, b, s, h, g, a, dxa, tv, rfl, x, hn, y, fun H1 s1 => ⟨a, CP K, dxa, _, _, rfl, s1 _ _ y.c.h, T.cls_Place, T.na_P_told, rfl, ?_⟩⟩
  have ht := y.t
  cases et : (s.pl g).told with
  | none =>
    rw [et] at ht q
    have ht' : tv = .non := ht
    subst ht'
    exact ⟨_, rfl, rfl, _, rfl, iteT (q H1 s1)⟩
  | some tn =>
    obtain ⟨wt, n⟩ := tn
    rw [et] at ht q
    obtain ⟨t, rfl, htt⟩ := ht
    exact ⟨_, rfl, rfl, _, rfl, iteF ⟨_, rfl, t, _, _, _, rfl, rfl, SqT.of (s1 _ _ htt), rfl, q H1 s1⟩⟩

/-! ### is_ahead -/
def spAhead (K : PySem.W.Frag) : Sp := fun vs H Q _ => ∃ (i : Nat) (rl : Rl) (p : Addr) (b : Nat) (s : S) (h : HA) (g o : Str), vs = [.ref p, .str g, .str o] ∧ House K i rl H p b s h ∧ b ≤ Lim ∧ isNm g = true ∧ isNm o = true ∧ g ∈ s.line ∧ o ∈ s.line ∧ ∀ H', Same H H' → Q (.bl (aheadB s g o)) H'
theorem sc_ahead : FnScope ["self", "guest", "other", "told", "place"] ["self", "guest", "other"] (defScope s_House_is_ahead) := ⟨rfl, rfl, rfl, by decide +kernel, rfl, by decide +kernel, by decide +kernel⟩
theorem ok_ahead (T : Txt K mg) : Ok P w K mg base CX0 3 (He.fAd K ("House", some "is_ahead")) ["self", "guest", "other"] (spAhead K) := by
  obtain ⟨fd0, G0, b0, k0⟩ := (ok_near (P := P) (w := w) (base := base) T).ex
  refine Ok.of T.f_House_is_ahead sc_ahead (fun _ _ _ _ _ _ us hl => match us, hl with | [_, _, _], _ => rfl) (fun vs H Q E h => by obtain ⟨_, _, _, _, _, _, _, _, rfl, _⟩ := h; rfl) (fun cdv A outer s H vs Q E hr h => ?_)
  obtain ⟨i, rl, p, b, s, h, g, o, rfl, x, hb, hn, hn2, hg, ho, q⟩ := h
  obtain ⟨a, dxa, tv, y⟩ := x.pl g hg
  obtain ⟨a2, dxa2, tv2, y2⟩ := x.pl o ho
  refine ⟨_, (pss_cons (ps_par (i := 3) (j := 4) rfl sc_ahead.nd rfl rfl (by decide) rfl rfl (pa_cons (pe_fld (pe_meth (pv 0) T.cls_House T.m_need_near G0 hr b0 .nil pass0 (pa_cons (pv 1) pa_nil)) rfl) (pa_cons (pe_meth (pv 0) T.cls_House T.m_need_near G0 hr b0 .nil pass0 (pa_cons (pv 2) pa_nil)) pa_nil)) (by rfl))
      (pss_one (ps_ret (pe_and (pe_cmpR op_notN (pv 3) pe_non (nomark _)) (pe_and (pe_cmpR op_notN (pe_fld (pv 4) rfl) pe_non (nomark _)) (pe_one (pe_cmpR op_le (pe_ix ix_tup (pv 3) pe_int (fun _ _ => rfl)) (pe_fld (pv 4) rfl) (nomark _)))))))), ?_⟩
  refine ⟨_, rfl, p, h.dx, _, rfl, x.self.h, rfl, _, rfl, i, rl, p, b, s, h, g, a, dxa, tv, rfl, x, hn, y, fun H1 s1 => ⟨a, CP K, dxa, _, _, rfl, s1 _ _ y.c.h, T.cls_Place, T.na_P_told, rfl, ?_⟩⟩
  have x1 := x.same s1
  refine ⟨_, rfl, p, h.dx, _, rfl, x1.self.h, rfl, _, rfl, i, rl, p, b, s, h, o, a2, dxa2, tv2, rfl, x1, hn2, y2.tr (fun _ _ _ z => C.same z s1) (sameTk s1), fun H2 s2 => ⟨_, _, rfl, ?_⟩⟩
  have s12 := s1.trans s2
  have ht := y.t
  unfold aheadB at q
  cases et : (s.pl g).told with
  | none =>
    rw [et] at ht q
    have ht' : tv = .non := ht
    subst ht'
    exact ⟨_, rfl, rfl, _, rfl, iteF (q H2 s12)⟩
  | some tn =>
    obtain ⟨wt, n⟩ := tn
    rw [et] at ht q
    dsimp only at q
    obtain ⟨t, rfl, htt⟩ := ht
    refine ⟨_, rfl, rfl, true, rfl, iteT ⟨_, rfl, a2, CP K, dxa2, _, _, rfl, s12 _ _ y2.c.h, T.cls_Place, T.na_P_mark, rfl, rfl, _, rfl, ?_⟩⟩
    cases em : (s.pl o).mark with
    | none =>
      rw [em] at q
      exact iteF (q H2 s12)
    | some m =>
      rw [em] at q
      refine iteT ⟨_, rfl, t, _, _, _, rfl, rfl, SqT.of (s12 _ _ htt), rfl, _, rfl, a2, CP K, dxa2, _, _, rfl, s12 _ _ y2.c.h, T.cls_Place, T.na_P_since, rfl, _, _, rfl, rfl, ?_⟩
      have e : decide (((n : Nat) : Int) ≤ ((s.pl o).since : Int)) = ((some m).isSome && decide (n ≤ (s.pl o).since)) := by
        show _ = (true && _)
        rw [Bool.true_and]
        exact decide_eq_decide.mpr (by omega)
      show Q (V.bl (decide (((n : Nat) : Int) ≤ ((s.pl o).since : Int)))) H2
      rw [e]
      exact q H2 s12

/-! ### awaited, chairs -/
theorem sc_awaited : FnScope ["self", "guest"] ["self"] (defScope s_House_awaited) := ⟨rfl, rfl, rfl, by decide +kernel, rfl, by decide +kernel, by decide +kernel⟩
theorem ok_awaited (T : Txt K mg) : Ok P w K mg base CX0 1 (He.fAd K ("House", some "awaited")) ["self"] (spObs K fun s H Q => newL H Q (awaitedL s)) := by
  refine Ok.of T.f_House_awaited sc_awaited (fun _ _ _ _ _ _ us hl => match us, hl with | [_], _ => rfl) (fun vs H Q E h => by obtain ⟨_, _, _, _, _, _, rfl, _⟩ := h; rfl) (fun cdv A outer s H vs Q E hr h => ?_)
  obtain ⟨i, rl, p, b, s, h, rfl, x, hb, q⟩ := h
  have hu := hu_of hr
  refine ⟨_, (pss_one (ps_ret (pe_lc (own := [("guest", 1)]) (g := gName 1) (tt := tB (tFld K (tDGet (tFld K (tVar 0) "places_by") (tVar 1)) "opened")) (te := tVar 1) rfl sc_awaited.nd (pi_list (pe_fld (pv 0) rfl)) (blkOk_by (N := ["self", "guest"]) (sc := defScope s_House_awaited) (by decide +kernel))
        (fun _ _ _ _ _ => pg_name (i := 1) sc_awaited.nd rfl (Or.inl rfl)) (fun _ _ _ _ _ => pts_one (pt_val (pe_fld (pe_dget hu (pe_fld (pv 0) rfl) (pv 1) (fun _ _ => rfl)) rfl))) (fun _ _ _ _ _ => pv 1)))), ?_⟩
  refine ⟨_, rfl, p, CH K, h.dx, _, _, rfl, x.self.h, T.cls_House, T.na_H_line, rfl, h.l, rfl, ⟨_, SqL.of x.line.h⟩, fun D hD => ?_⟩
  refine lc_pure 1 s.line V.str (fun g => (s.pl g).opened) V.str (walk_strs s.line) (yat_str s.line) hD (lim_lt x.few.line hb) (fun H2 s2 => SqL.of (s2 _ _ x.line.h)) (fun _ => rfl) ?_ ?_ ?_
  · intro o H2 k ho s2 hk
    have x2 := x.same s2
    obtain ⟨a, dxa, tv, y⟩ := x2.pl o ho
    exact ⟨_, rfl, p, CH K, h.dx, _, _, rfl, x2.self.h, T.cls_House, T.na_H_places_by, rfl, _, rfl, h.pb, .ref a, rfl, by rw [← y.v]; exact DGet.k (k := Sum.inr o) x2.pb.h, a, CP K, dxa, _, _, rfl, y.c.h, T.cls_Place, T.na_P_opened, rfl, _, rfl, hk H2 (Same.refl H2)⟩
  · intro o H2 k ho _ s2 hk
    exact ⟨_, rfl, hk H2 (Same.refl H2)⟩
  · intro H1 s1 h1
    exact q H1 D s1 hD h1
theorem sc_chairs : FnScope ["self", "guest"] ["self"] (defScope s_House_chairs) := ⟨rfl, rfl, rfl, by decide +kernel, rfl, by decide +kernel, by decide +kernel⟩
theorem ok_chairs (T : Txt K mg) : Ok P w K mg base CX0 1 (He.fAd K ("House", some "chairs")) ["self"] (spObs K fun s H Q => newL H Q (chairsL s)) := by
  refine Ok.of T.f_House_chairs sc_chairs (fun _ _ _ _ _ _ us hl => match us, hl with | [_], _ => rfl) (fun vs H Q E h => by obtain ⟨_, _, _, _, _, _, rfl, _⟩ := h; rfl) (fun cdv A outer s H vs Q E hr h => ?_)
  obtain ⟨i, rl, p, b, s, h, rfl, x, hb, q⟩ := h
  have hu := hu_of hr
  refine ⟨_, (pss_one (ps_ret (pe_lc (own := [("guest", 1)]) (g := gName 1) (tt := tB (tDIn (tVar 1) (tFld K (tVar 0) "away"))) (te := tVar 1) rfl sc_chairs.nd (pi_list (pe_fld (pv 0) rfl)) (blkOk_by (N := ["self", "guest"]) (sc := defScope s_House_chairs) (by decide +kernel))
        (fun _ _ _ _ _ => pg_name (i := 1) sc_chairs.nd rfl (Or.inl rfl)) (fun _ _ _ _ _ => pts_one (pt_cmp (pc_din hu (pv 1) (pe_fld (pv 0) rfl)))) (fun _ _ _ _ _ => pv 1)))), ?_⟩
  refine ⟨_, rfl, p, CH K, h.dx, _, _, rfl, x.self.h, T.cls_House, T.na_H_line, rfl, h.l, rfl, ⟨_, SqL.of x.line.h⟩, fun D hD => ?_⟩
  refine lc_pure 1 s.line V.str (fun g => decide (g ∈ s.away)) V.str (walk_strs s.line) (yat_str s.line) hD (lim_lt x.few.line hb) (fun H2 s2 => SqL.of (s2 _ _ x.line.h)) (fun _ => rfl) ?_ ?_ ?_
  · intro o H2 k ho s2 hk
    have x2 := x.same s2
    refine ⟨_, rfl, _, rfl, p, CH K, h.dx, _, _, rfl, x2.self.h, T.cls_House, T.na_H_away, rfl, h.aw, _, rfl, DGet.k (k := Sum.inr o) x2.aw.h, _, rfl, ?_⟩
    rw [isSome_awk]
    exact hk H2 (Same.refl H2)
  · intro o H2 k ho _ s2 hk
    exact ⟨_, rfl, hk H2 (Same.refl H2)⟩
  · intro H1 s1 h1
    exact q H1 D s1 hD h1

/-! ### reason -/
def spReason (K : PySem.W.Frag) : Sp := spObs1 K fun s g H Q => match reasonL s g with
  | none => outV H Q .non
  | some l => newL H Q l
theorem sc_reason : FnScope ["self", "guest", "mark"] ["self", "guest"] (defScope s_House_reason) := ⟨rfl, rfl, rfl, by decide +kernel, rfl, by decide +kernel, by decide +kernel⟩
theorem ok_reason (T : Txt K mg) : Ok P w K mg base CX0 3 (He.fAd K ("House", some "reason")) ["self", "guest"] (spReason K) := by
  obtain ⟨fd0, G0, b0, k0⟩ := (ok_near (P := P) (w := w) (base := base) T).ex
  obtain ⟨fd1, G1, b1, k1⟩ := (ok_named (P := P) (w := w) (base := base) T).ex
  refine Ok.of T.f_House_reason sc_reason (fun _ _ _ _ _ _ us hl => match us, hl with | [_, _], _ => rfl) (fun vs H Q E h => by obtain ⟨_, _, _, _, _, _, _, rfl, _⟩ := h; rfl) (fun cdv A outer s H vs Q E hr h => ?_)
  obtain ⟨i, rl, p, b, s, h, g, rfl, x, hb, hn, hg, q⟩ := h
  have hr1 : Room 1 _ := hr.mono (by decide)
  obtain ⟨t2, c2⟩ := T.c_IN
  obtain ⟨t3, c3⟩ := T.c_OUT
  obtain ⟨t5, c5⟩ := T.c_BARRED
  obtain ⟨a, dxa, tv, y⟩ := x.pl g hg
  refine ⟨_, (pss_cons (ps_set (i := 2) sc_reason.nd rfl (Or.inl rfl) (pe_fld (pe_meth (pv 0) T.cls_House T.m_need_near G0 hr b0 .nil pass0 (pa_cons (pv 1) pa_nil)) rfl))
      (pss_cons (ps_if (pt_cmpR op_isN (pv 2) pe_non (nomark _)) (pss_one (ps_ret pe_non)) pss_nil)
      (pss_cons (ps_if (pt_cmpR op_eq (pv 2) (pe_glob (v := .str "barred") rfl c5 ⟨t5, rfl⟩) (nomark _)) (pss_one (ps_ret (pe_slice sl_list (pe_meth (pv 0) T.cls_House T.m_named G1 hr1 b1 .nil pass0 (pa_cons (pv 1) (pa_cons (pe_glob (v := .str "in") rfl c2 ⟨t2, rfl⟩) (pa_cons (pe_bl) pa_nil)))) po_none (po_some (pe_fld (pv 0) rfl))))) pss_nil)
      (pss_one (ps_ret (pe_slice sl_list (pe_meth (pv 0) T.cls_House T.m_named G1 hr1 b1 .nil pass0 (pa_cons (pv 1) (pa_cons (pe_glob (v := .str "out") rfl c3 ⟨t3, rfl⟩) (pa_cons (pe_bl) pa_nil)))) po_none
        (po_some (pe_callB (call_max2 rfl) (by rfl) T.n_max (by decide +kernel) (pa_cons (pe_int) (pa_cons (pe_op op_sub (pe_op op_add (pe_bm PySem.F.plainAttrs_list PySem.F.slot_list_index PySem.F.type_list_index mt_indexS (pe_fld (pv 0) rfl) (pa_cons (pv 1) pa_nil)) pe_int) (pe_fld (pv 0) rfl)) pa_nil)))))))))), ?_⟩
  refine ⟨_, rfl, p, h.dx, _, rfl, x.self.h, rfl, _, rfl, i, rl, p, b, s, h, g, a, dxa, tv, rfl, x, hn, y, fun H1 s1 => ⟨a, CP K, dxa, _, _, rfl, s1 _ _ y.c.h, T.cls_Place, T.na_P_mark, rfl, ?_⟩⟩
  have x1 := x.same s1
  unfold reasonL at q
  cases em : (s.pl g).mark with
  | none =>
    rw [em] at q
    exact ⟨_, rfl, rfl, _, rfl, iteT (q H1 s1)⟩
  | some m =>
    rw [em] at q
    dsimp only at q
    refine ⟨_, rfl, rfl, false, rfl, iteF ⟨_, rfl, rfl, _, rfl, ?_⟩⟩
    by_cases c : m = "barred"
    · rw [if_pos c] at q
      subst c
      rw [show decide (oV (some "barred") = V.str "barred") = true from decide_eq_true rfl]
      refine iteT ⟨_, rfl, p, h.dx, _, rfl, x1.self.h, rfl, _, rfl, i, rl, p, b, s, h, g, "in", true, rfl, x1, hb, hg, fun H2 l2 s2 n2 e2 => ?_⟩
      have x2 := x1.same s2
      refine ⟨_, rfl, p, CH K, h.dx, _, _, rfl, x2.self.h, T.cls_House, T.na_H_size, rfl, _, rfl, l2, _, rfl, SqL.of e2, fun sl hsl => ?_⟩
      rw [cut_to, ← List.map_take]
      exact q _ sl ((s1.trans s2).trans (same_upd hsl)) ((s1.trans s2).free hsl) upd_same
    · rw [if_neg c] at q
      rw [show decide (oV (some m) = V.str "barred") = false from decide_eq_false fun z => c (by have z' : V.str m = V.str "barred" := z; injection z')]
      refine iteF ⟨_, rfl, p, h.dx, _, rfl, x1.self.h, rfl, _, rfl, i, rl, p, b, s, h, g, "out", true, rfl, x1, hb, hg, fun H2 l2 s2 n2 e2 => ?_⟩
      have x2 := x1.same s2
      refine ⟨_, rfl, p, CH K, h.dx, _, _, rfl, x2.self.h, T.cls_House, T.na_H_line, rfl, .inl ⟨rfl, _, SqL.of x2.line.h⟩, _, rfl, h.l, s.line, g, rfl, rfl, SqL.of x2.line.h, hg, _, _, rfl, rfl, _, rfl, p, CH K, h.dx, _, _, rfl, x2.self.h, T.cls_House, T.na_H_size, rfl, _, _, rfl, rfl, _, _, rfl, _, rfl, l2, _, rfl, SqL.of e2, fun sl hsl => ?_⟩
      have e : (if ((s.line.idxOf g : Nat) : Int) + 1 - (s.size : Int) > 0 then ((s.line.idxOf g : Nat) : Int) + 1 - (s.size : Int) else 0) = ((s.line.idxOf g + 1 - s.size : Nat) : Int) := by
        split <;> omega
      rw [e, cut_to, ← List.map_take]
      exact q _ sl ((s1.trans s2).trans (same_upd hsl)) ((s1.trans s2).free hsl) upd_same
end
end G
set_option Elab.async false
set_option linter.all false
set_option maxRecDepth 100000
set_option maxHeartbeats 4000000
namespace G
open PySem PySem.Spec PyProof.Rows L2
theorem sameSeqT {K : PySem.W.Frag} {H H' : Hp} {a : Addr} {xs : List V} (e : Same H H') (h : SqT K H a xs) : SqT K H' a xs := by
  rcases h with (h | ⟨o, h⟩) | h
  · exact .inl (.inl (e _ _ h))
  · exact .inl (.inr ⟨o, e _ _ h⟩)
  · exact .inr h
mutual
theorem dp_same {K : PySem.W.Frag} {H H' : Hp} (s : Same H H') : ∀ (d : PyData) (v : V), Dp K H v d → Dp K H' v d
  | .none, _, h => by cases h; exact .non
  | .bool b, _, h => by cases h; exact .bl b
  | .int i, _, h => by cases h; exact .int i
  | .str x, _, h => by cases h; exact .str x
  | .list ds, _, h => by
    cases h with
    | lst h1 h2 => exact .lst (s.seq h1) (dpAll_same s ds _ h2)
  | .tuple ds, _, h => by
    cases h with
    | tup h1 h2 => exact .tup (sameSeqT s h1) (dpAll_same s ds _ h2)
  | .dict _, _, h => by cases h
theorem dpAll_same {K : PySem.W.Frag} {H H' : Hp} (s : Same H H') : ∀ (ds : List PyData) (vs : List V), DpAll K H vs ds → DpAll K H' vs ds
  | [], _, h => by cases h; exact .nil
  | d :: ds, _, h => by
    cases h with
    | cons h1 h2 => exact .cons (dp_same s d _ h1) (dpAll_same s ds _ h2)
end
theorem dpAll_snoc {K : PySem.W.Frag} {H : Hp} : ∀ {ds : List PyData} {vs : List V} {d : PyData} {v : V}, DpAll K H vs ds → Dp K H v d → DpAll K H (vs ++ [v]) (ds ++ [d])
  | _, _, _, _, .nil, h => .cons h .nil
  | _, _, _, _, .cons a b, h => .cons a (dpAll_snoc b h)
theorem dpAll_len {K : PySem.W.Frag} {H : Hp} : ∀ {ds : List PyData} {vs : List V}, DpAll K H vs ds → vs.length = ds.length
  | _, _, .nil => rfl
  | _, _, .cons a b => by rw [List.length_cons, List.length_cons, dpAll_len b]
/-- all but what stands at D -/
def hid (D : Addr) (H : Hp) : Hp := fun b => if b = D then none else H b
theorem hid_ne {D b : Addr} {H : Hp} (h : b ≠ D) : hid D H b = H b := if_neg h
theorem hid_upd {D : Addr} {H : Hp} {o : HO} : Same (hid D H) (upd H D o) := fun b u e => by
  by_cases h : b = D
  · rw [show hid D H b = none from if_pos h] at e; cases e
  · rw [upd_ne h, ← hid_ne (H := H) h]; exact e
theorem hid_same {D : Addr} {H H' : Hp} (s : Same H H') : Same (hid D H) (hid D H') := fun b u e => by
  by_cases h : b = D
  · rw [show hid D H b = none from if_pos h] at e; cases e
  · rw [hid_ne h] at e ⊢; exact s _ _ e
theorem hid_le {D : Addr} {H : Hp} : Same (hid D H) H := fun b u e => by
  by_cases h : b = D
  · rw [show hid D H b = none from if_pos h] at e; cases e
  · rw [hid_ne h] at e; exact e
theorem hid_put {D : Addr} {H : Hp} {o : HO} : hid D (upd H D o) = hid D H := by
  funext b
  by_cases h : b = D
  · rw [show hid D H b = none from if_pos h]; exact if_pos h
  · rw [hid_ne h, hid_ne h, upd_ne h]
def retE : Stmt → Expr
  | .Return (some e) _ => e
  | _ => .Constant .none 0 ⟨0, 0, 0, 0⟩
def compSc : Expr → Scope
  | .ListComp _ _ sc _ => sc
  | _ => { kind := .function, names := [], isGenerator := false, isCoroutine := false }
section
variable {P : Program} {w : World} {K : PySem.W.Frag} {mg : Str → Option Value} {base : Heap}

/-! ### owed -/
theorem sc_owed : FnScope ["self", "found", "guest", "one"] ["self"] (defScope s_House_owed) := ⟨rfl, rfl, rfl, by decide +kernel, rfl, by decide +kernel, by decide +kernel⟩
theorem ok_owed (T : Txt K mg) : Ok P w K mg base CX0 1 (He.fAd K ("House", some "owed")) ["self"] (spObs K fun s H Q => ∀ H' a, Same H H' → Dp K H' (.ref a) (.list ((owedL s).map owedD)) → Q (.ref a) H') := by
  refine Ok.of T.f_House_owed sc_owed (fun _ _ _ _ _ _ us hl => match us, hl with | [_], _ => rfl) (fun vs H Q E h => by obtain ⟨_, _, _, _, _, _, rfl, _⟩ := h; rfl) (fun cdv A outer s H vs Q E hr h => ?_)
  obtain ⟨i, rl, p, b, s, h, rfl, x, hb, q⟩ := h
  have hu := hu_of hr
  refine ⟨_, (pss_cons (ps_setLc (i := 1) (own := [("guest", 2)]) (g := gName 2) (tt := tB (tDIn (tVar 2) (tFld K (tVar 0) "debts"))) (te := tVar 2) rfl sc_owed.nd rfl rfl (sw_true rfl rfl rfl (by decide +kernel)) (pi_list (pe_fld (pv 0) rfl)) (blkOk_by (N := ["self", "found", "guest", "one"]) (sc := defScope s_House_owed) (by decide +kernel))
        (fun _ _ _ _ _ => pg_name (i := 2) sc_owed.nd rfl (Or.inl rfl)) (fun _ _ _ _ _ => pts_one (pt_cmp (pc_din hu (pv 2) (pe_fld (pv 0) rfl)))) (fun _ _ _ _ _ => pv 2))
      (pss_one (ps_ret (pe_lc (own := [("guest", 2)]) (g := gName 2) (tt := tYes) (te := tTup (tCons (tVar 2) (tCons (tLc (iList K (tFld K (tVar 0) "line")) (gName 3) (tTest (tOp (rInS K false) (tVar 3) (tDGet (tFld K (tVar 0) "debts") (tVar 2)))) (tVar 3) [3]) tNil))) rfl sc_owed.nd (pi_list (pv 1)) (blkOk_by (N := ["self", "found", "guest", "one"]) (sc := defScope s_House_owed) (by decide +kernel))
        (fun _ _ _ _ _ => pg_name (i := 2) sc_owed.nd rfl (Or.inr rfl)) (fun _ _ _ _ _ => pts_nil) (fun _ _ _ _ _ => pe_tup (pa_cons (pv 2) (pa_cons (pe_lc (own := [("one", 3)]) (g := gName 3) rfl sc_owed.nd (pi_list (pe_fld (pv 0) rfl))
            (blkOk_by (N := ["self", "found", "guest", "one"]) (sc := relS (compSc (retE ((defBody s_House_owed).getD 1 (.Pass ⟨0, 0, 0, 0⟩)))) (defScope s_House_owed)) (by decide +kernel))
            (fun _ _ _ _ _ => pg_name (i := 3) sc_owed.nd rfl (Or.inl rfl)) (fun _ _ _ _ _ => pts_one (pt_cmpR op_inS (pv 3) (pe_dget hu (pe_fld (pv 0) rfl) (pv 2) (fun _ _ => rfl)) (by rfl))) (fun _ _ _ _ _ => pv 3)) pa_nil))))))), ?_⟩
  refine ⟨_, rfl, p, CH K, h.dx, _, _, rfl, x.self.h, T.cls_House, T.na_H_line, rfl, h.l, rfl, ⟨_, SqL.of x.line.h⟩, fun D hD => ?_⟩
  refine lc_pure 2 s.line V.str (fun g => (s.debts g).isSome) V.str (walk_strs s.line) (yat_str s.line) hD (lim_lt x.few.line hb) (fun H2 s2 => SqL.of (s2 _ _ x.line.h)) (fun _ => rfl) ?_ ?_ ?_
  · intro o H2 k ho s2 hk
    have x2 := x.same s2
    refine ⟨_, rfl, _, rfl, p, CH K, h.dx, _, _, rfl, x2.self.h, T.cls_House, T.na_H_debts, rfl, h.db, _, rfl, DGet.k (k := Sum.inr o) x2.db.h, _, rfl, ?_⟩
    rw [dbt_isSome x2.de]
    exact hk H2 (Same.refl H2)
  · intro o H2 k ho _ s2 hk
    exact ⟨_, rfl, hk H2 (Same.refl H2)⟩
  intro H1 s1 h1
  have flen := List.length_filter_le (fun g => (s.debts g).isSome) s.line
  have fmem : ∀ g, g ∈ s.line.filter (fun g => (s.debts g).isSome) → (s.debts g).isSome = true := fun g hg => (List.mem_filter.mp hg).2
  unfold owedL at q
  generalize (s.line.filter fun g => (s.debts g).isSome) = fl at h1 q flen fmem
  refine ⟨_, rfl, D, rfl, ⟨_, SqL.of h1⟩, fun D2 hD2 => ?_⟩
  have hHD2 : H D2 = none := s1.free hD2
  refine lc_list (K := K) (a := D) (xs := fl.map V.str) (fun k H2 => Same H1 H2 ∧ ∃ vs, H2 D2 = some (.lst vs) ∧ DpAll K (hid D2 H2) vs ((fl.take k).map fun g => owedD (g, s.line.filter fun o => decide (o ∈ (s.debts g).getD []))))
    ⟨same_upd hD2, [], upd_same, .nil⟩ (fun k H2 _ ⟨s2, _⟩ => SqL.of (s2 _ _ h1)) ?_ ?_
  · rintro k v H2 hk ⟨s2, vs, e2, d2⟩
    rw [List.getElem?_map] at hk
    obtain ⟨g, hg, rfl⟩ := Option.map_eq_some_iff.mp hk
    have hkl : k < fl.length := (List.getElem?_eq_some_iff.mp hg).1
    obtain ⟨ds, hds⟩ := Option.isSome_iff_exists.mp (fmem g (List.mem_of_getElem? hg))
    have x2 := x.same (s1.trans s2)
    have zd := x2.de g
    rw [hds] at zd
    obtain ⟨da, hda, cda⟩ := zd
    refine ⟨rfl, ?_⟩
    unfold tYes
    refine iteT ⟨_, rfl, _, rfl, p, CH K, h.dx, _, _, rfl, x2.self.h, T.cls_House, T.na_H_line, rfl, h.l, rfl, ⟨_, SqL.of x2.line.h⟩, fun D3 hD3 => ?_⟩
    refine lc_pure 3 s.line V.str (fun o => decide (o ∈ ds)) V.str (walk_strs s.line) (yat_str s.line) hD3 (lim_lt x.few.line hb) (fun H3 s3 => SqL.of (s3 _ _ x2.line.h)) (fun _ => rfl) ?_ ?_ ?_
    · intro o H3 kk ho s3 hkk
      have x3 := x2.same s3
      refine ⟨_, rfl, _, rfl, p, CH K, h.dx, _, _, rfl, x3.self.h, T.cls_House, T.na_H_debts, rfl, _, rfl, h.db, .ref da, rfl, by rw [← hda]; exact DGet.k (k := Sum.inr g) x3.db.h, ?_⟩
      refine ⟨da, ds, o, rfl, rfl, .inl (SqL.of (s3 _ _ cda.h)), _, rfl, ?_⟩
      rw [if_neg Bool.false_ne_true]
      exact hkk H3 (Same.refl H3)
    · intro o H3 kk ho _ s3 hkk
      exact ⟨_, rfl, hkk H3 (Same.refl H3)⟩
    intro H3 s3 e3
    have n32 : D3 ≠ D2 := fun e => by rw [e, e2] at hD3; cases hD3
    refine ⟨(by show 2 ≤ sizeLine; decide), fun t ht => ?_⟩
    have s4 := same_upd (o := HO.tup [V.str g, V.ref D3]) ht
    have e4 := s4 _ _ (s3 _ _ e2)
    have nt2 : t ≠ D2 := fun e => by rw [e, s3 _ _ e2] at ht; cases ht
    have hvl := dpAll_len d2
    rw [List.length_map] at hvl
    have htk := List.length_take_le k fl
    refine ⟨vs, e4, lim_lt (show vs.length ≤ b by have := x.few.line; omega) hb, fun c u e => ?_, vs ++ [.ref t], upd_same, ?_⟩
    · have n : c ≠ D2 := ne_of_none e hD2
      rw [upd_ne n]
      exact s4 _ _ (s3 _ _ (s2 _ _ e))
    · rw [hid_put, take_succ_at hg, List.map_append]
      refine dpAll_snoc (dpAll_same (hid_same (s3.trans s4)) _ _ d2) ?_
      refine .tup (SqT.of (xs := [V.str g, V.ref D3]) (by rw [hid_ne nt2]; exact upd_same)) (.cons (.str g) (.cons (dp_lst (SqL.of ?_)) .nil))
      rw [hid_ne n32, s4 _ _ e3, hds]
      rfl
  · rintro H2 ⟨s2, vs, e2, d2⟩
    rw [List.length_map, List.take_length] at d2
    refine q H2 D2 (s1.trans s2) (.lst (SqL.of e2) ?_)
    rw [List.map_map]
    exact dpAll_same hid_le _ _ d2
end
end G
set_option Elab.async false
set_option linter.all false
set_option maxRecDepth 100000
set_option maxHeartbeats 4000000
/-! The law's own house: a dict of tables. -/
namespace G
open PySem PySem.Spec PyProof.Rows L2
theorem valV_of_not {k : Key} : ∀ {kvs : List (Key × V)}, k ∉ kvs.map (·.1) → valV kvs k = none
  | [], _ => rfl
  | p :: r, h => by
    rw [valV_neg fun e => h (by rw [← e]; exact List.mem_cons_self ..)]
    exact valV_of_not fun m => h (List.mem_cons_of_mem _ m)
theorem mergeK_new : ∀ (more kvs : List (Key × V)), ((kvs ++ more).map (·.1)).Nodup → mergeK kvs more = kvs ++ more
  | [], kvs, _ => (List.append_nil kvs).symm
  | p :: r, kvs, h => by
    have e : kvs ++ p :: r = (kvs ++ [p]) ++ r := by rw [List.append_assoc]; rfl
    have hn : p.1 ∉ kvs.map (·.1) := fun m => by
      rw [List.map_append, List.map_cons] at h
      exact (List.nodup_append.mp h).2.2 _ m _ (List.mem_cons_self ..) rfl
    show mergeK (putK kvs p.1 p.2) r = _
    rw [putK_new _ (valV_of_not hn), mergeK_new r _ (by rw [← e]; exact h), ← e]
def mkv (own : Str) (size : Nat) (l he : Addr) (ears : Nat) (wo ats op ow aw pa ou : Addr) : List (Key × V) :=
  [(.inr "name", .str own), (.inr "room", .int size), (.inr "line", .ref l), (.inr "heard", .ref he), (.inr "count", .int ears), (.inr "word", .ref wo), (.inr "at", .ref ats), (.inr "open", .ref op), (.inr "owe", .ref ow), (.inr "away", .ref aw), (.inr "past", .ref pa), (.inr "out", .ref ou)]
section
variable {own : Str} {size : Nat} {l he : Addr} {ears : Nat} {wo ats op ow aw pa ou : Addr}
theorem mg_name : valV (mkv own size l he ears wo ats op ow aw pa ou) (.inr "name") = some (.str own) := rfl
theorem mg_room : valV (mkv own size l he ears wo ats op ow aw pa ou) (.inr "room") = some (.int size) := rfl
theorem mg_line : valV (mkv own size l he ears wo ats op ow aw pa ou) (.inr "line") = some (.ref l) := rfl
theorem mg_heard : valV (mkv own size l he ears wo ats op ow aw pa ou) (.inr "heard") = some (.ref he) := rfl
theorem mg_count : valV (mkv own size l he ears wo ats op ow aw pa ou) (.inr "count") = some (.int ears) := rfl
theorem mg_word : valV (mkv own size l he ears wo ats op ow aw pa ou) (.inr "word") = some (.ref wo) := rfl
theorem mg_at : valV (mkv own size l he ears wo ats op ow aw pa ou) (.inr "at") = some (.ref ats) := rfl
theorem mg_open : valV (mkv own size l he ears wo ats op ow aw pa ou) (.inr "open") = some (.ref op) := rfl
theorem mg_owe : valV (mkv own size l he ears wo ats op ow aw pa ou) (.inr "owe") = some (.ref ow) := rfl
theorem mg_away : valV (mkv own size l he ears wo ats op ow aw pa ou) (.inr "away") = some (.ref aw) := rfl
theorem mg_past : valV (mkv own size l he ears wo ats op ow aw pa ou) (.inr "past") = some (.ref pa) := rfl
theorem mg_out : valV (mkv own size l he ears wo ats op ow aw pa ou) (.inr "out") = some (.ref ou) := rfl
theorem mp_room (n : Nat) : putK (mkv own size l he ears wo ats op ow aw pa ou) (.inr "room") (.int n) = mkv own n l he ears wo ats op ow aw pa ou := rfl
theorem mp_count (n : Nat) : putK (mkv own size l he ears wo ats op ow aw pa ou) (.inr "count") (.int n) = mkv own size l he n wo ats op ow aw pa ou := rfl
theorem mp_away (n : Addr) : putK (mkv own size l he ears wo ats op ow aw pa ou) (.inr "away") (.ref n) = mkv own size l he ears wo ats op ow n pa ou := rfl
theorem mp_out (n : Addr) : putK (mkv own size l he ears wo ats op ow aw pa ou) (.inr "out") (.ref n) = mkv own size l he ears wo ats op ow aw pa n := rfl
theorem mk_new : mergeK (mergeK [] [(.inr "name", .str own), (.inr "room", .int size), (.inr "line", .ref l), (.inr "heard", .ref he), (.inr "count", .int 0), (.inr "word", .ref wo), (.inr "at", .ref ats), (.inr "open", .ref op)]) [(.inr "owe", .ref ow), (.inr "away", .ref aw), (.inr "past", .ref pa), (.inr "out", .ref ou)] = mkv own size l he 0 wo ats op ow aw pa ou := by
  have n1 : (([.inr "name", .inr "room", .inr "line", .inr "heard", .inr "count", .inr "word", .inr "at", .inr "open"] : List Key)).Nodup := by decide +kernel
  have n2 : (([.inr "name", .inr "room", .inr "line", .inr "heard", .inr "count", .inr "word", .inr "at", .inr "open", .inr "owe", .inr "away", .inr "past", .inr "out"] : List Key)).Nodup := by decide +kernel
  have e1 : mergeK [] [(.inr "name", .str own), (.inr "room", .int size), (.inr "line", .ref l), (.inr "heard", .ref he), (.inr "count", .int 0), (.inr "word", .ref wo), (.inr "at", .ref ats), (.inr "open", .ref op)] = ([] : List (Key × V)) ++ [(.inr "name", .str own), (.inr "room", .int size), (.inr "line", .ref l), (.inr "heard", .ref he), (.inr "count", .int 0), (.inr "word", .ref wo), (.inr "at", .ref ats), (.inr "open", .ref op)] := mergeK_new _ _ n1
  rw [e1]
  exact mergeK_new _ _ n2
end
structure MA where
  l : Addr
  he : Addr
  wo : Addr
  ats : Addr
  op : Addr
  ow : Addr
  aw : Addr
  pa : Addr
  ou : Addr
  kh : List (Key × V)
  kw : List (Key × V)
  ka : List (Key × V)
  ko : List (Key × V)
  kd : List (Key × V)
  vp : List V
  vo : List V
structure Mine (K : PySem.W.Frag) (i : Nat) (rl : Rl) (H : Hp) (q : Addr) (b : Nat) (s : S) (m : MA) : Prop where
  self : C rl H i .self q (.dK (mkv s.own s.size m.l m.he s.ears m.wo m.ats m.op m.ow m.aw m.pa m.ou))
  line : C rl H i .line m.l (.lst (s.line.map .str))
  he : C rl H i .heard m.he (.dK m.kh)
  hy : ∀ g, g ∈ s.line → ∃ tv, valV m.kh (.inr g) = some tv ∧ Told H tv (s.pl g).told
  wo : C rl H i .word m.wo (.dK m.kw)
  wy : ∀ g, g ∈ s.line → valV m.kw (.inr g) = some (oV (s.pl g).mark)
  at_ : C rl H i .ats m.ats (.dK m.ka)
  ay : ∀ g, g ∈ s.line → (s.pl g).mark ≠ none → valV m.ka (.inr g) = some (.int (s.pl g).since)
  an : ∀ g, valV m.ka (.inr g) = none ∨ ∃ n : Nat, valV m.ka (.inr g) = some (.int n)
  op : C rl H i .opens m.op (.dK m.ko)
  oy : ∀ g, valV m.ko (.inr g) = if g ∈ s.line ∧ (s.pl g).opened = true then some (oV (s.pl g).source) else none
  on : ∀ n, valV m.ko (.inl n) = none
  ow : C rl H i .debts m.ow (.dK m.kd)
  de : Debts rl H i m.kd s.debts
  aw : C rl H i .away m.aw (.lst (s.away.map .str))
  pa : C rl H i .past m.pa (.lst m.vp)
  pv : Paired (TurnV H) s.past m.vp
  ou : C rl H i .going m.ou (.lst m.vo)
  ov : Paired (LtrV K H) s.going m.vo
  few : Few b s
  khl : m.kh.length ≤ b
  kwl : m.kw.length ≤ b
  kal : m.ka.length ≤ b
  kol : m.ko.length ≤ b
  kdl : m.kd.length ≤ b
section
variable {K : PySem.W.Frag} {i j : Nat} {rl rl' : Rl} {H H' : Hp} {q : Addr} {b c : Nat} {s : S} {m : MA}
theorem Mine.mono (x : Mine K i rl H q b s m) (l : b ≤ c) : Mine K i rl H q c s m :=
  { x with few := x.few.mono l, khl := Nat.le_trans x.khl l, kwl := Nat.le_trans x.kwl l, kal := Nat.le_trans x.kal l, kol := Nat.le_trans x.kol l, kdl := Nat.le_trans x.kdl l }
theorem Mine.tr (x : Mine K i rl H q b s m) (f : ∀ r a o, C rl H i r a o → C rl' H' i r a o) (k : TK H H') : Mine K i rl' H' q b s m where
  self := f _ _ _ x.self
  line := f _ _ _ x.line
  he := f _ _ _ x.he
  hy := fun g hg => let ⟨tv, e, t⟩ := x.hy g hg; ⟨tv, e, t.tk k⟩
  wo := f _ _ _ x.wo
  wy := x.wy
  at_ := f _ _ _ x.at_
  ay := x.ay
  an := x.an
  op := f _ _ _ x.op
  oy := x.oy
  on := x.on
  ow := f _ _ _ x.ow
  de := x.de.tr f
  aw := f _ _ _ x.aw
  pa := f _ _ _ x.pa
  pv := L2.Paired.mapP x.pv fun _ _ q => q.tk k
  ou := f _ _ _ x.ou
  ov := L2.Paired.mapP x.ov fun _ _ q => q.tk k
  few := x.few
  khl := x.khl
  kwl := x.kwl
  kal := x.kal
  kol := x.kol
  kdl := x.kdl
theorem Mine.same (x : Mine K i rl H q b s m) (k : Same H H') : Mine K i rl H' q b s m := x.tr (fun _ _ _ q => q.same k) (sameTk k)
theorem Mine.step (x : Mine K j rl H q b s m) (k : Step i rl H rl' H') (d : j ≠ i) : Mine K j rl' H' q b s m := x.tr (fun _ _ _ q => q.step k d) k.tk
/-- reads of the dict -/
theorem Mine.gName (x : Mine K i rl H q b s m) : DGet H q (.str "name") (some (.str s.own)) := by rw [← mg_name]; exact DGet.k (k := Sum.inr "name") x.self.h
theorem Mine.gRoom (x : Mine K i rl H q b s m) : DGet H q (.str "room") (some (.int s.size)) := by rw [← mg_room]; exact DGet.k (k := Sum.inr "room") x.self.h
theorem Mine.gLine (x : Mine K i rl H q b s m) : DGet H q (.str "line") (some (.ref m.l)) := by rw [← mg_line]; exact DGet.k (k := Sum.inr "line") x.self.h
theorem Mine.gHeard (x : Mine K i rl H q b s m) : DGet H q (.str "heard") (some (.ref m.he)) := by rw [← mg_heard]; exact DGet.k (k := Sum.inr "heard") x.self.h
theorem Mine.gCount (x : Mine K i rl H q b s m) : DGet H q (.str "count") (some (.int s.ears)) := by rw [← mg_count]; exact DGet.k (k := Sum.inr "count") x.self.h
theorem Mine.gWord (x : Mine K i rl H q b s m) : DGet H q (.str "word") (some (.ref m.wo)) := by rw [← mg_word]; exact DGet.k (k := Sum.inr "word") x.self.h
theorem Mine.gAt (x : Mine K i rl H q b s m) : DGet H q (.str "at") (some (.ref m.ats)) := by rw [← mg_at]; exact DGet.k (k := Sum.inr "at") x.self.h
theorem Mine.gOpen (x : Mine K i rl H q b s m) : DGet H q (.str "open") (some (.ref m.op)) := by rw [← mg_open]; exact DGet.k (k := Sum.inr "open") x.self.h
theorem Mine.gOwe (x : Mine K i rl H q b s m) : DGet H q (.str "owe") (some (.ref m.ow)) := by rw [← mg_owe]; exact DGet.k (k := Sum.inr "owe") x.self.h
theorem Mine.gAway (x : Mine K i rl H q b s m) : DGet H q (.str "away") (some (.ref m.aw)) := by rw [← mg_away]; exact DGet.k (k := Sum.inr "away") x.self.h
theorem Mine.gPast (x : Mine K i rl H q b s m) : DGet H q (.str "past") (some (.ref m.pa)) := by rw [← mg_past]; exact DGet.k (k := Sum.inr "past") x.self.h
theorem Mine.gOut (x : Mine K i rl H q b s m) : DGet H q (.str "out") (some (.ref m.ou)) := by rw [← mg_out]; exact DGet.k (k := Sum.inr "out") x.self.h
end
end G
set_option Elab.async false
set_option linter.all false
set_option maxRecDepth 100000
set_option maxHeartbeats 4000000
/-! What a write does to the law's own house. -/
namespace G
open PySem PySem.Spec PyProof.Rows L2
section
variable {K : PySem.W.Frag} {i j : Nat} {rl rl' : Rl} {H H' : Hp} {q : Addr} {b c : Nat} {s : S} {m : MA}

theorem Debts.trD {kd : List (Key × V)} {d : Str → Option (List Str)} (x : Debts rl H i kd d) (f : ∀ g a o, C rl H i (.debt g) a o → C rl' H' i (.debt g) a o) : Debts rl' H' i kd d := fun g => by
  have z := x g
  cases e : d g with
  | none => rw [e] at z; exact z
  | some ds =>
    rw [e] at z
    obtain ⟨a, e1, e2⟩ := z
    exact ⟨a, e1, f _ _ _ e2⟩
theorem Mine.say (x : Mine K i rl H q b s m) {v : V} {g : Str} {l : List Str} (t : LtrV K H (g, l) v) :
    Mine K i (rl) (upd H m.ou (.lst (m.vo ++ [v]))) q (b + 1) (s.say g l) ({ m with vo := m.vo ++ [v] }) := by
  have f : ∀ r a u, (i, r) ≠ (i, .going) → C rl H i r a u → C rl (upd H m.ou (.lst (m.vo ++ [v]))) i r a u := fun r a u d z => z.upd x.ou d
  have k : TK H (upd H m.ou (.lst (m.vo ++ [v]))) := tk_upd (x.ou.tup fun z => z)
  exact {
    self := f _ _ _ (by intro e; cases e) x.self
    line := f _ _ _ (by intro e; cases e) x.line
    he := f _ _ _ (by intro e; cases e) x.he
    hy := fun g hg => let ⟨tv, e, t⟩ := x.hy g hg; ⟨tv, e, t.tk k⟩
    wo := f _ _ _ (by intro e; cases e) x.wo
    wy := x.wy
    at_ := f _ _ _ (by intro e; cases e) x.at_
    ay := x.ay
    an := x.an
    op := f _ _ _ (by intro e; cases e) x.op
    oy := x.oy
    on := x.on
    ow := f _ _ _ (by intro e; cases e) x.ow
    de := x.de.trD fun g a u z => f _ _ _ (by intro e; cases e) z
    aw := f _ _ _ (by intro e; cases e) x.aw
    pa := f _ _ _ (by intro e; cases e) x.pa
    pv := L2.Paired.mapP x.pv fun _ _ z => z.tk k
    ou := x.ou.put
    ov := paired_snoc (L2.Paired.mapP x.ov fun _ _ z => z.tk k) (t.tk k)
    few := ⟨Nat.le_succ_of_le x.few.line, Nat.le_succ_of_le x.few.away, Nat.le_succ_of_le x.few.past, by
      show (s.going ++ [(g, l)]).length ≤ _
      rw [List.length_append]; exact Nat.succ_le_succ x.few.going, fun g ds e => Nat.le_succ_of_le (x.few.debts g ds e)⟩
    khl := Nat.le_succ_of_le x.khl
    kwl := Nat.le_succ_of_le x.kwl
    kal := Nat.le_succ_of_le x.kal
    kol := Nat.le_succ_of_le x.kol
    kdl := Nat.le_succ_of_le x.kdl
  }
theorem Mine.note (x : Mine K i rl H q b s m) {v : V} {g : Str} {w n : Option Str} (t : TurnV H (g, w, n) v) :
    Mine K i (rl) (upd H m.pa (.lst (m.vp ++ [v]))) q (b + 1) (s.note g w n) ({ m with vp := m.vp ++ [v] }) := by
  have f : ∀ r a u, (i, r) ≠ (i, .past) → C rl H i r a u → C rl (upd H m.pa (.lst (m.vp ++ [v]))) i r a u := fun r a u d z => z.upd x.pa d
  have k : TK H (upd H m.pa (.lst (m.vp ++ [v]))) := tk_upd (x.pa.tup fun z => z)
  exact {
    self := f _ _ _ (by intro e; cases e) x.self
    line := f _ _ _ (by intro e; cases e) x.line
    he := f _ _ _ (by intro e; cases e) x.he
    hy := fun g hg => let ⟨tv, e, t⟩ := x.hy g hg; ⟨tv, e, t.tk k⟩
    wo := f _ _ _ (by intro e; cases e) x.wo
    wy := x.wy
    at_ := f _ _ _ (by intro e; cases e) x.at_
    ay := x.ay
    an := x.an
    op := f _ _ _ (by intro e; cases e) x.op
    oy := x.oy
    on := x.on
    ow := f _ _ _ (by intro e; cases e) x.ow
    de := x.de.trD fun g a u z => f _ _ _ (by intro e; cases e) z
    aw := f _ _ _ (by intro e; cases e) x.aw
    pa := x.pa.put
    pv := paired_snoc (L2.Paired.mapP x.pv fun _ _ z => z.tk k) (t.tk k)
    ou := f _ _ _ (by intro e; cases e) x.ou
    ov := L2.Paired.mapP x.ov fun _ _ z => z.tk k
    few := ⟨Nat.le_succ_of_le x.few.line, Nat.le_succ_of_le x.few.away, by
      show (s.past ++ [(g, w, n)]).length ≤ _
      rw [List.length_append]; exact Nat.succ_le_succ x.few.past, Nat.le_succ_of_le x.few.going, fun g ds e => Nat.le_succ_of_le (x.few.debts g ds e)⟩
    khl := Nat.le_succ_of_le x.khl
    kwl := Nat.le_succ_of_le x.kwl
    kal := Nat.le_succ_of_le x.kal
    kol := Nat.le_succ_of_le x.kol
    kdl := Nat.le_succ_of_le x.kdl
  }
theorem Mine.giveUp (x : Mine K i rl H q b s m) {g : Str} {c : Option Str} (hg : g ∈ s.line) :
    Mine K i (rl) (upd (upd H m.wo (.dK (putK m.kw (.inr g) .non))) m.op (.dK (putK m.ko (.inr g) (oV c)))) q (b + 1) (s.setPl g { (s.pl g) with mark := none, opened := true, source := c }) ({ m with kw := putK m.kw (.inr g) .non, ko := putK m.ko (.inr g) (oV c) }) := by
  have y : C rl (upd H m.wo (.dK (putK m.kw (.inr g) .non))) i .opens _ _ := x.op.upd x.wo (by intro e; cases e)
  have f : ∀ r a u, (i, r) ≠ (i, .word) → (i, r) ≠ (i, .opens) → C rl H i r a u → C rl (upd (upd H m.wo (.dK (putK m.kw (.inr g) .non))) m.op (.dK (putK m.ko (.inr g) (oV c)))) i r a u := fun r a u d d' z => (z.upd x.wo d).upd y d'
  have k : TK H (upd (upd H m.wo (.dK (putK m.kw (.inr g) .non))) m.op (.dK (putK m.ko (.inr g) (oV c)))) := (tk_upd (x.wo.tup fun z => z)).trans (tk_upd (y.tup fun z => z))
  have e1 : C rl (upd (upd H m.wo (.dK (putK m.kw (.inr g) .non))) m.op (.dK (putK m.ko (.inr g) (oV c)))) i .word _ _ := (x.wo.put (o' := (.dK (putK m.kw (.inr g) .non)))).upd y (by intro e; cases e)
  have e2 : C rl (upd (upd H m.wo (.dK (putK m.kw (.inr g) .non))) m.op (.dK (putK m.ko (.inr g) (oV c)))) i .opens _ _ := y.put
  exact {
    self := f _ _ _ (by intro e; cases e) (by intro e; cases e) x.self
    line := f _ _ _ (by intro e; cases e) (by intro e; cases e) x.line
    he := f _ _ _ (by intro e; cases e) (by intro e; cases e) x.he
    hy := fun y hy => by
      obtain ⟨tv, e, t⟩ := x.hy y hy
      refine ⟨tv, e, ?_⟩
      show Told _ tv (if y = g then ({ (s.pl g) with mark := none, opened := true, source := c } : Pl) else s.pl y).told
      by_cases h : y = g
      · rw [if_pos h]; rw [h] at t; exact t.tk k
      · rw [if_neg h]; exact t.tk k
    wo := e1
    wy := fun y hy => by
      show valV (putK m.kw (.inr g) .non) (.inr y) = some (oV (if y = g then ({ (s.pl g) with mark := none, opened := true, source := c } : Pl) else s.pl y).mark)
      rw [valV_put]
      by_cases h : y = g
      · rw [if_pos h, if_pos (congrArg Sum.inr h)]; rfl
      · rw [if_neg h, if_neg fun z => h (Sum.inr.inj z)]; exact x.wy y hy
    at_ := f _ _ _ (by intro e; cases e) (by intro e; cases e) x.at_
    ay := fun y hy => by
      show (if y = g then ({ (s.pl g) with mark := none, opened := true, source := c } : Pl) else s.pl y).mark ≠ none → valV m.ka (.inr y) = some (.int (if y = g then ({ (s.pl g) with mark := none, opened := true, source := c } : Pl) else s.pl y).since)
      by_cases h : y = g
      · rw [if_pos h]; intro z; exact absurd rfl z
      · rw [if_neg h]; exact x.ay y hy
    an := x.an
    op := e2
    oy := fun y => by
      show valV (putK m.ko (.inr g) (oV c)) (.inr y) = if y ∈ s.line ∧ (if y = g then ({ (s.pl g) with mark := none, opened := true, source := c } : Pl) else s.pl y).opened = true then some (oV (if y = g then ({ (s.pl g) with mark := none, opened := true, source := c } : Pl) else s.pl y).source) else none
      rw [valV_put]
      by_cases h : y = g
      · subst h
        rw [if_pos rfl, if_pos rfl, if_pos ⟨hg, rfl⟩]
      · rw [if_neg h, if_neg fun z => h (Sum.inr.inj z)]; exact x.oy y
    on := fun n => by rw [valV_put, if_neg fun z => by cases z]; exact x.on n
    ow := f _ _ _ (by intro e; cases e) (by intro e; cases e) x.ow
    de := x.de.trD fun g a u z => f _ _ _ (by intro e; cases e) (by intro e; cases e) z
    aw := f _ _ _ (by intro e; cases e) (by intro e; cases e) x.aw
    pa := f _ _ _ (by intro e; cases e) (by intro e; cases e) x.pa
    pv := L2.Paired.mapP x.pv fun _ _ z => z.tk k
    ou := f _ _ _ (by intro e; cases e) (by intro e; cases e) x.ou
    ov := L2.Paired.mapP x.ov fun _ _ z => z.tk k
    few := ⟨Nat.le_succ_of_le x.few.line, Nat.le_succ_of_le x.few.away, Nat.le_succ_of_le x.few.past, Nat.le_succ_of_le x.few.going, fun g ds e => Nat.le_succ_of_le (x.few.debts g ds e)⟩
    khl := Nat.le_succ_of_le x.khl
    kwl := Nat.le_trans (length_putK _ _ _) (Nat.succ_le_succ x.kwl)
    kal := Nat.le_succ_of_le x.kal
    kol := Nat.le_trans (length_putK _ _ _) (Nat.succ_le_succ x.kol)
    kdl := Nat.le_succ_of_le x.kdl
  }
theorem Mine.settle (x : Mine K i rl H q b s m) {g w : Str} (ho : (s.pl g).opened = false) :
    Mine K i (rl) (upd (upd H m.wo (.dK (putK m.kw (.inr g) (.str w)))) m.ats (.dK (putK m.ka (.inr g) (.int s.ears)))) q (b + 1) (s.setPl g { (s.pl g) with mark := some w, since := s.ears }) ({ m with kw := putK m.kw (.inr g) (.str w), ka := putK m.ka (.inr g) (.int s.ears) }) := by
  have y : C rl (upd H m.wo (.dK (putK m.kw (.inr g) (.str w)))) i .ats _ _ := x.at_.upd x.wo (by intro e; cases e)
  have f : ∀ r a u, (i, r) ≠ (i, .word) → (i, r) ≠ (i, .ats) → C rl H i r a u → C rl (upd (upd H m.wo (.dK (putK m.kw (.inr g) (.str w)))) m.ats (.dK (putK m.ka (.inr g) (.int s.ears)))) i r a u := fun r a u d d' z => (z.upd x.wo d).upd y d'
  have k : TK H (upd (upd H m.wo (.dK (putK m.kw (.inr g) (.str w)))) m.ats (.dK (putK m.ka (.inr g) (.int s.ears)))) := (tk_upd (x.wo.tup fun z => z)).trans (tk_upd (y.tup fun z => z))
  have e1 : C rl (upd (upd H m.wo (.dK (putK m.kw (.inr g) (.str w)))) m.ats (.dK (putK m.ka (.inr g) (.int s.ears)))) i .word _ _ := (x.wo.put (o' := (.dK (putK m.kw (.inr g) (.str w))))).upd y (by intro e; cases e)
  have e2 : C rl (upd (upd H m.wo (.dK (putK m.kw (.inr g) (.str w)))) m.ats (.dK (putK m.ka (.inr g) (.int s.ears)))) i .ats _ _ := y.put
  exact {
    self := f _ _ _ (by intro e; cases e) (by intro e; cases e) x.self
    line := f _ _ _ (by intro e; cases e) (by intro e; cases e) x.line
    he := f _ _ _ (by intro e; cases e) (by intro e; cases e) x.he
    hy := fun y hy => by
      obtain ⟨tv, e, t⟩ := x.hy y hy
      refine ⟨tv, e, ?_⟩
      show Told _ tv (if y = g then ({ (s.pl g) with mark := some w, since := s.ears } : Pl) else s.pl y).told
      by_cases h : y = g
      · rw [if_pos h]; rw [h] at t; exact t.tk k
      · rw [if_neg h]; exact t.tk k
    wo := e1
    wy := fun y hy => by
      show valV (putK m.kw (.inr g) (.str w)) (.inr y) = some (oV (if y = g then ({ (s.pl g) with mark := some w, since := s.ears } : Pl) else s.pl y).mark)
      rw [valV_put]
      by_cases h : y = g
      · rw [if_pos h, if_pos (congrArg Sum.inr h)]; rfl
      · rw [if_neg h, if_neg fun z => h (Sum.inr.inj z)]; exact x.wy y hy
    at_ := e2
    ay := fun y hy => by
      show (if y = g then ({ (s.pl g) with mark := some w, since := s.ears } : Pl) else s.pl y).mark ≠ none → valV (putK m.ka (.inr g) (.int s.ears)) (.inr y) = some (.int (if y = g then ({ (s.pl g) with mark := some w, since := s.ears } : Pl) else s.pl y).since)
      rw [valV_put]
      by_cases h : y = g
      · rw [if_pos h, if_pos (congrArg Sum.inr h)]; intro z; rfl
      · rw [if_neg h, if_neg fun z => h (Sum.inr.inj z)]; exact x.ay y hy
    an := fun y => by
      show valV (putK m.ka (.inr g) (.int s.ears)) (.inr y) = none ∨ ∃ n : Nat, valV (putK m.ka (.inr g) (.int s.ears)) (.inr y) = some (.int n)
      rw [valV_put]
      by_cases h : (Sum.inr y : Key) = Sum.inr g
      · rw [if_pos h]; exact .inr ⟨_, rfl⟩
      · rw [if_neg h]; exact x.an y
    op := f _ _ _ (by intro e; cases e) (by intro e; cases e) x.op
    oy := fun y => by
      show valV m.ko (.inr y) = if y ∈ s.line ∧ (if y = g then ({ (s.pl g) with mark := some w, since := s.ears } : Pl) else s.pl y).opened = true then some (oV (if y = g then ({ (s.pl g) with mark := some w, since := s.ears } : Pl) else s.pl y).source) else none
      by_cases h : y = g
      · rw [if_pos h]; rw [x.oy y, h]
      · rw [if_neg h]; exact x.oy y
    on := x.on
    ow := f _ _ _ (by intro e; cases e) (by intro e; cases e) x.ow
    de := x.de.trD fun g a u z => f _ _ _ (by intro e; cases e) (by intro e; cases e) z
    aw := f _ _ _ (by intro e; cases e) (by intro e; cases e) x.aw
    pa := f _ _ _ (by intro e; cases e) (by intro e; cases e) x.pa
    pv := L2.Paired.mapP x.pv fun _ _ z => z.tk k
    ou := f _ _ _ (by intro e; cases e) (by intro e; cases e) x.ou
    ov := L2.Paired.mapP x.ov fun _ _ z => z.tk k
    few := ⟨Nat.le_succ_of_le x.few.line, Nat.le_succ_of_le x.few.away, Nat.le_succ_of_le x.few.past, Nat.le_succ_of_le x.few.going, fun g ds e => Nat.le_succ_of_le (x.few.debts g ds e)⟩
    khl := Nat.le_succ_of_le x.khl
    kwl := Nat.le_trans (length_putK _ _ _) (Nat.succ_le_succ x.kwl)
    kal := Nat.le_trans (length_putK _ _ _) (Nat.succ_le_succ x.kal)
    kol := Nat.le_succ_of_le x.kol
    kdl := Nat.le_succ_of_le x.kdl
  }
theorem Mine.hears (x : Mine K i rl H q b s m) {g : Str} {tv : V} {t : Option (Str × Nat)} (ht : Told H tv t) :
    Mine K i (rl) (upd H m.he (.dK (putK m.kh (.inr g) tv))) q (b + 1) (s.setPl g { (s.pl g) with told := t }) ({ m with kh := putK m.kh (.inr g) tv }) := by
  have f : ∀ r a u, (i, r) ≠ (i, .heard) → C rl H i r a u → C rl (upd H m.he (.dK (putK m.kh (.inr g) tv))) i r a u := fun r a u d z => z.upd x.he d
  have k : TK H (upd H m.he (.dK (putK m.kh (.inr g) tv))) := tk_upd (x.he.tup fun z => z)
  exact {
    self := f _ _ _ (by intro e; cases e) x.self
    line := f _ _ _ (by intro e; cases e) x.line
    he := x.he.put
    hy := fun y hy => by
      show ∃ tv', valV (putK m.kh (.inr g) tv) (.inr y) = some tv' ∧ Told _ tv' (if y = g then ({ (s.pl g) with told := t } : Pl) else s.pl y).told
      rw [valV_put]
      by_cases h : y = g
      · rw [if_pos (congrArg Sum.inr h), if_pos h]; exact ⟨tv, rfl, ht.tk k⟩
      · rw [if_neg fun z => h (Sum.inr.inj z), if_neg h]
        obtain ⟨tv2, e, t2⟩ := x.hy y hy
        exact ⟨tv2, e, t2.tk k⟩
    wo := f _ _ _ (by intro e; cases e) x.wo
    wy := fun y hy => by
      show valV m.kw (.inr y) = some (oV (if y = g then ({ (s.pl g) with told := t } : Pl) else s.pl y).mark)
      by_cases h : y = g
      · rw [if_pos h, x.wy y hy, h]
      · rw [if_neg h]; exact x.wy y hy
    at_ := f _ _ _ (by intro e; cases e) x.at_
    ay := fun y hy => by
      show (if y = g then ({ (s.pl g) with told := t } : Pl) else s.pl y).mark ≠ none → valV m.ka (.inr y) = some (.int (if y = g then ({ (s.pl g) with told := t } : Pl) else s.pl y).since)
      by_cases h : y = g
      · rw [if_pos h]; intro z; rw [x.ay y hy (by rw [h]; exact z), h]
      · rw [if_neg h]; exact x.ay y hy
    an := x.an
    op := f _ _ _ (by intro e; cases e) x.op
    oy := fun y => by
      show valV m.ko (.inr y) = if y ∈ s.line ∧ (if y = g then ({ (s.pl g) with told := t } : Pl) else s.pl y).opened = true then some (oV (if y = g then ({ (s.pl g) with told := t } : Pl) else s.pl y).source) else none
      by_cases h : y = g
      · rw [if_pos h]; rw [x.oy y, h]
      · rw [if_neg h]; exact x.oy y
    on := x.on
    ow := f _ _ _ (by intro e; cases e) x.ow
    de := x.de.trD fun g a u z => f _ _ _ (by intro e; cases e) z
    aw := f _ _ _ (by intro e; cases e) x.aw
    pa := f _ _ _ (by intro e; cases e) x.pa
    pv := L2.Paired.mapP x.pv fun _ _ z => z.tk k
    ou := f _ _ _ (by intro e; cases e) x.ou
    ov := L2.Paired.mapP x.ov fun _ _ z => z.tk k
    few := ⟨Nat.le_succ_of_le x.few.line, Nat.le_succ_of_le x.few.away, Nat.le_succ_of_le x.few.past, Nat.le_succ_of_le x.few.going, fun g ds e => Nat.le_succ_of_le (x.few.debts g ds e)⟩
    khl := Nat.le_trans (length_putK _ _ _) (Nat.succ_le_succ x.khl)
    kwl := Nat.le_succ_of_le x.kwl
    kal := Nat.le_succ_of_le x.kal
    kol := Nat.le_succ_of_le x.kol
    kdl := Nat.le_succ_of_le x.kdl
  }
theorem Mine.closes (x : Mine K i rl H q b s m) {g : Str} :
    Mine K i (rl) (upd H m.op (.dK (dropK m.ko (.inr g)))) q (b) (s.setPl g { (s.pl g) with opened := false, source := none }) ({ m with ko := dropK m.ko (.inr g) }) := by
  have f : ∀ r a u, (i, r) ≠ (i, .opens) → C rl H i r a u → C rl (upd H m.op (.dK (dropK m.ko (.inr g)))) i r a u := fun r a u d z => z.upd x.op d
  have k : TK H (upd H m.op (.dK (dropK m.ko (.inr g)))) := tk_upd (x.op.tup fun z => z)
  exact {
    self := f _ _ _ (by intro e; cases e) x.self
    line := f _ _ _ (by intro e; cases e) x.line
    he := f _ _ _ (by intro e; cases e) x.he
    hy := fun y hy => by
      obtain ⟨tv, e, t⟩ := x.hy y hy
      refine ⟨tv, e, ?_⟩
      show Told _ tv (if y = g then ({ (s.pl g) with opened := false, source := none } : Pl) else s.pl y).told
      by_cases h : y = g
      · rw [if_pos h]; rw [h] at t; exact t.tk k
      · rw [if_neg h]; exact t.tk k
    wo := f _ _ _ (by intro e; cases e) x.wo
    wy := fun y hy => by
      show valV m.kw (.inr y) = some (oV (if y = g then ({ (s.pl g) with opened := false, source := none } : Pl) else s.pl y).mark)
      by_cases h : y = g
      · rw [if_pos h, x.wy y hy, h]
      · rw [if_neg h]; exact x.wy y hy
    at_ := f _ _ _ (by intro e; cases e) x.at_
    ay := fun y hy => by
      show (if y = g then ({ (s.pl g) with opened := false, source := none } : Pl) else s.pl y).mark ≠ none → valV m.ka (.inr y) = some (.int (if y = g then ({ (s.pl g) with opened := false, source := none } : Pl) else s.pl y).since)
      by_cases h : y = g
      · rw [if_pos h]; intro z; rw [x.ay y hy (by rw [h]; exact z), h]
      · rw [if_neg h]; exact x.ay y hy
    an := x.an
    op := x.op.put
    oy := fun y => by
      show valV (dropK m.ko (.inr g)) (.inr y) = if y ∈ s.line ∧ (if y = g then ({ (s.pl g) with opened := false, source := none } : Pl) else s.pl y).opened = true then some (oV (if y = g then ({ (s.pl g) with opened := false, source := none } : Pl) else s.pl y).source) else none
      rw [valV_drop]
      by_cases h : y = g
      · rw [if_pos h, if_pos (congrArg Sum.inr h), if_neg fun z => absurd z.2 (by simp)]
      · rw [if_neg h, if_neg fun z => h (Sum.inr.inj z)]; exact x.oy y
    on := fun n => by rw [valV_drop, if_neg fun z => by cases z]; exact x.on n
    ow := f _ _ _ (by intro e; cases e) x.ow
    de := x.de.trD fun g a u z => f _ _ _ (by intro e; cases e) z
    aw := f _ _ _ (by intro e; cases e) x.aw
    pa := f _ _ _ (by intro e; cases e) x.pa
    pv := L2.Paired.mapP x.pv fun _ _ z => z.tk k
    ou := f _ _ _ (by intro e; cases e) x.ou
    ov := L2.Paired.mapP x.ov fun _ _ z => z.tk k
    few := ⟨x.few.line, x.few.away, x.few.past, x.few.going, x.few.debts⟩
    khl := x.khl
    kwl := x.kwl
    kal := x.kal
    kol := Nat.le_trans (dropK_le _ _) x.kol
    kdl := x.kdl
  }
theorem Mine.setDebt (x : Mine K i rl H q b s m) {o : Str} {l : List Str} {a : Addr} (ra : ∀ q, rl a ≠ some (i, q)) (ha : H a = some (.lst (l.map .str))) (hl : l.length ≤ b) :
    Mine K i (setR rl a (some (i, .debt o))) (upd H m.ow (.dK (putK m.kd (.inr o) (.ref a)))) q (b + 1) (s.setDebt o (some l)) ({ m with kd := putK m.kd (.inr o) (.ref a) }) := by
  have f : ∀ r a' u, (i, r) ≠ (i, .debts) → C rl H i r a' u → C (setR rl a (some (i, .debt o))) (upd H m.ow (.dK (putK m.kd (.inr o) (.ref a)))) i r a' u := fun r a' u d z => (z.upd x.ow d).give ra
  have k : TK H (upd H m.ow (.dK (putK m.kd (.inr o) (.ref a)))) := tk_upd (x.ow.tup fun z => z)
  exact {
    self := f _ _ _ (by intro e; cases e) x.self
    line := f _ _ _ (by intro e; cases e) x.line
    he := f _ _ _ (by intro e; cases e) x.he
    hy := fun g hg => let ⟨tv, e, t⟩ := x.hy g hg; ⟨tv, e, t.tk k⟩
    wo := f _ _ _ (by intro e; cases e) x.wo
    wy := x.wy
    at_ := f _ _ _ (by intro e; cases e) x.at_
    ay := x.ay
    an := x.an
    op := f _ _ _ (by intro e; cases e) x.op
    oy := x.oy
    on := x.on
    ow := x.ow.put.give ra
    de := fun g => by
      show DebtV _ _ _ _ (valV (putK m.kd (.inr o) (.ref a)) (.inr g)) (if g = o then some l else s.debts g)
      rw [valV_put]
      by_cases e : g = o
      · subst e
        rw [if_pos rfl, if_pos rfl]
        exact ⟨a, rfl, setR_same, by rw [upd_ne fun e => ra _ (by rw [e]; exact x.ow.r)]; exact ha⟩
      · rw [if_neg e, if_neg fun z => e (Sum.inr.inj z)]
        have z := x.de g
        cases eg : s.debts g with
        | none => rw [eg] at z; exact z
        | some ds =>
          rw [eg] at z
          obtain ⟨a', e1, e2⟩ := z
          exact ⟨a', e1, f _ _ _ (by intro e; cases e) e2⟩
    aw := f _ _ _ (by intro e; cases e) x.aw
    pa := f _ _ _ (by intro e; cases e) x.pa
    pv := L2.Paired.mapP x.pv fun _ _ z => z.tk k
    ou := f _ _ _ (by intro e; cases e) x.ou
    ov := L2.Paired.mapP x.ov fun _ _ z => z.tk k
    few := ⟨Nat.le_succ_of_le x.few.line, Nat.le_succ_of_le x.few.away, Nat.le_succ_of_le x.few.past, Nat.le_succ_of_le x.few.going, fun g ds e => by
      have e' : (if g = o then some l else s.debts g) = some ds := e
      by_cases w : g = o
      · rw [if_pos w] at e'
        cases e'; omega
      · rw [if_neg w] at e'
        exact Nat.le_succ_of_le (x.few.debts g ds e')⟩
    khl := Nat.le_succ_of_le x.khl
    kwl := Nat.le_succ_of_le x.kwl
    kal := Nat.le_succ_of_le x.kal
    kol := Nat.le_succ_of_le x.kol
    kdl := Nat.le_trans (length_putK _ _ _) (Nat.succ_le_succ x.kdl)
  }
theorem Mine.delDebt (x : Mine K i rl H q b s m) {o : Str} :
    Mine K i (rl) (upd H m.ow (.dK (dropK m.kd (.inr o)))) q (b) (s.setDebt o none) ({ m with kd := dropK m.kd (.inr o) }) := by
  have f : ∀ r a u, (i, r) ≠ (i, .debts) → C rl H i r a u → C rl (upd H m.ow (.dK (dropK m.kd (.inr o)))) i r a u := fun r a u d z => z.upd x.ow d
  have k : TK H (upd H m.ow (.dK (dropK m.kd (.inr o)))) := tk_upd (x.ow.tup fun z => z)
  exact {
    self := f _ _ _ (by intro e; cases e) x.self
    line := f _ _ _ (by intro e; cases e) x.line
    he := f _ _ _ (by intro e; cases e) x.he
    hy := fun g hg => let ⟨tv, e, t⟩ := x.hy g hg; ⟨tv, e, t.tk k⟩
    wo := f _ _ _ (by intro e; cases e) x.wo
    wy := x.wy
    at_ := f _ _ _ (by intro e; cases e) x.at_
    ay := x.ay
    an := x.an
    op := f _ _ _ (by intro e; cases e) x.op
    oy := x.oy
    on := x.on
    ow := x.ow.put
    de := fun g => by
      show DebtV _ _ _ _ (valV (dropK m.kd (.inr o)) (.inr g)) (if g = o then none else s.debts g)
      rw [valV_drop]
      by_cases e : g = o
      · rw [if_pos e, if_pos (congrArg Sum.inr e)]; rfl
      · rw [if_neg e, if_neg fun z => e (Sum.inr.inj z)]
        have z := x.de g
        cases eg : s.debts g with
        | none => rw [eg] at z; exact z
        | some ds =>
          rw [eg] at z
          obtain ⟨a', e1, e2⟩ := z
          exact ⟨a', e1, f _ _ _ (by intro e; cases e) e2⟩
    aw := f _ _ _ (by intro e; cases e) x.aw
    pa := f _ _ _ (by intro e; cases e) x.pa
    pv := L2.Paired.mapP x.pv fun _ _ z => z.tk k
    ou := f _ _ _ (by intro e; cases e) x.ou
    ov := L2.Paired.mapP x.ov fun _ _ z => z.tk k
    few := ⟨x.few.line, x.few.away, x.few.past, x.few.going, fun g ds e => by
      have e' : (if g = o then none else s.debts g) = some ds := e
      by_cases w : g = o
      · rw [if_pos w] at e'; cases e'
      · rw [if_neg w] at e'
        exact x.few.debts g ds e'⟩
    khl := x.khl
    kwl := x.kwl
    kal := x.kal
    kol := x.kol
    kdl := Nat.le_trans (dropK_le _ _) x.kdl
  }
theorem Mine.setRoom (x : Mine K i rl H q b s m) {n : Nat} :
    Mine K i (rl) (upd H q (.dK (mkv s.own n m.l m.he s.ears m.wo m.ats m.op m.ow m.aw m.pa m.ou))) q (b) ({ s with size := n }) (m) := by
  have f : ∀ r a u, (i, r) ≠ (i, .self) → C rl H i r a u → C rl (upd H q (.dK (mkv s.own n m.l m.he s.ears m.wo m.ats m.op m.ow m.aw m.pa m.ou))) i r a u := fun r a u d z => z.upd x.self d
  have k : TK H (upd H q (.dK (mkv s.own n m.l m.he s.ears m.wo m.ats m.op m.ow m.aw m.pa m.ou))) := tk_upd (x.self.tup fun z => z)
  exact {
    self := x.self.put
    line := f _ _ _ (by intro e; cases e) x.line
    he := f _ _ _ (by intro e; cases e) x.he
    hy := fun g hg => let ⟨tv, e, t⟩ := x.hy g hg; ⟨tv, e, t.tk k⟩
    wo := f _ _ _ (by intro e; cases e) x.wo
    wy := x.wy
    at_ := f _ _ _ (by intro e; cases e) x.at_
    ay := x.ay
    an := x.an
    op := f _ _ _ (by intro e; cases e) x.op
    oy := x.oy
    on := x.on
    ow := f _ _ _ (by intro e; cases e) x.ow
    de := x.de.trD fun g a u z => f _ _ _ (by intro e; cases e) z
    aw := f _ _ _ (by intro e; cases e) x.aw
    pa := f _ _ _ (by intro e; cases e) x.pa
    pv := L2.Paired.mapP x.pv fun _ _ z => z.tk k
    ou := f _ _ _ (by intro e; cases e) x.ou
    ov := L2.Paired.mapP x.ov fun _ _ z => z.tk k
    few := ⟨x.few.line, x.few.away, x.few.past, x.few.going, x.few.debts⟩
    khl := x.khl
    kwl := x.kwl
    kal := x.kal
    kol := x.kol
    kdl := x.kdl
  }
theorem Mine.setCount (x : Mine K i rl H q b s m) {n : Nat} :
    Mine K i (rl) (upd H q (.dK (mkv s.own s.size m.l m.he n m.wo m.ats m.op m.ow m.aw m.pa m.ou))) q (b) ({ s with ears := n }) (m) := by
  have f : ∀ r a u, (i, r) ≠ (i, .self) → C rl H i r a u → C rl (upd H q (.dK (mkv s.own s.size m.l m.he n m.wo m.ats m.op m.ow m.aw m.pa m.ou))) i r a u := fun r a u d z => z.upd x.self d
  have k : TK H (upd H q (.dK (mkv s.own s.size m.l m.he n m.wo m.ats m.op m.ow m.aw m.pa m.ou))) := tk_upd (x.self.tup fun z => z)
  exact {
    self := x.self.put
    line := f _ _ _ (by intro e; cases e) x.line
    he := f _ _ _ (by intro e; cases e) x.he
    hy := fun g hg => let ⟨tv, e, t⟩ := x.hy g hg; ⟨tv, e, t.tk k⟩
    wo := f _ _ _ (by intro e; cases e) x.wo
    wy := x.wy
    at_ := f _ _ _ (by intro e; cases e) x.at_
    ay := x.ay
    an := x.an
    op := f _ _ _ (by intro e; cases e) x.op
    oy := x.oy
    on := x.on
    ow := f _ _ _ (by intro e; cases e) x.ow
    de := x.de.trD fun g a u z => f _ _ _ (by intro e; cases e) z
    aw := f _ _ _ (by intro e; cases e) x.aw
    pa := f _ _ _ (by intro e; cases e) x.pa
    pv := L2.Paired.mapP x.pv fun _ _ z => z.tk k
    ou := f _ _ _ (by intro e; cases e) x.ou
    ov := L2.Paired.mapP x.ov fun _ _ z => z.tk k
    few := ⟨x.few.line, x.few.away, x.few.past, x.few.going, x.few.debts⟩
    khl := x.khl
    kwl := x.kwl
    kal := x.kal
    kol := x.kol
    kdl := x.kdl
  }
theorem Mine.clear (x : Mine K i rl H q b s m) {a : Addr} (ha : H a = none) :
    Mine K i (setR (setR rl m.ou none) a (some (i, .going))) (upd (upd H a (.lst [])) q (.dK (mkv s.own s.size m.l m.he s.ears m.wo m.ats m.op m.ow m.aw m.pa a))) q (b) ({ s with going := [] }) ({ m with ou := a, vo := [] }) := by
  have f : ∀ r a' u, (i, r) ≠ (i, .self) → (i, r) ≠ (i, .going) → C rl H i r a' u → C (setR (setR rl m.ou none) a (some (i, .going))) (upd (upd H a (.lst [])) q (.dK (mkv s.own s.size m.l m.he s.ears m.wo m.ats m.op m.ow m.aw m.pa a))) i r a' u := fun r a' u d d2 z => by
    have z1 := ((z.drop x.ou d2 (v := none)).role ha (v := some (i, R.going))).fresh ha (o' := .lst [])
    exact ⟨z1.r, by rw [upd_ne (z.ne x.self d)]; exact z1.h⟩
  have hq : q ≠ a := ne_of_none x.self.h ha
  have k : TK H (upd (upd H a (.lst [])) q (.dK (mkv s.own s.size m.l m.he s.ears m.wo m.ats m.op m.ow m.aw m.pa a))) := (sameTk (same_upd ha)).trans (tk_upd fun xs e => by rw [upd_ne hq, x.self.h] at e; cases e)
  exact {
    self := ⟨by rw [setR_ne hq, setR_ne (x.self.ne x.ou (by intro e; cases e))]; exact x.self.r, upd_same⟩
    line := f _ _ _ (by intro e; cases e) (by intro e; cases e) x.line
    he := f _ _ _ (by intro e; cases e) (by intro e; cases e) x.he
    hy := fun g hg => let ⟨tv, e, t⟩ := x.hy g hg; ⟨tv, e, t.tk k⟩
    wo := f _ _ _ (by intro e; cases e) (by intro e; cases e) x.wo
    wy := x.wy
    at_ := f _ _ _ (by intro e; cases e) (by intro e; cases e) x.at_
    ay := x.ay
    an := x.an
    op := f _ _ _ (by intro e; cases e) (by intro e; cases e) x.op
    oy := x.oy
    on := x.on
    ow := f _ _ _ (by intro e; cases e) (by intro e; cases e) x.ow
    de := x.de.trD fun g a u z => f _ _ _ (by intro e; cases e) (by intro e; cases e) z
    aw := f _ _ _ (by intro e; cases e) (by intro e; cases e) x.aw
    pa := f _ _ _ (by intro e; cases e) (by intro e; cases e) x.pa
    pv := L2.Paired.mapP x.pv fun _ _ z => z.tk k
    ou := ⟨setR_same, by rw [upd_ne hq.symm]; exact upd_same⟩
    ov := .nil
    few := ⟨x.few.line, x.few.away, x.few.past, Nat.zero_le _, x.few.debts⟩
    khl := x.khl
    kwl := x.kwl
    kal := x.kal
    kol := x.kol
    kdl := x.kdl
  }
theorem Mine.setAway (x : Mine K i rl H q b s m) {l : List Str} (hl : l.length ≤ b + 1) :
    Mine K i (rl) (upd H m.aw (.lst (l.map .str))) q (b + 1) ({ s with away := l }) (m) := by
  have f : ∀ r a u, (i, r) ≠ (i, .away) → C rl H i r a u → C rl (upd H m.aw (.lst (l.map .str))) i r a u := fun r a u d z => z.upd x.aw d
  have k : TK H (upd H m.aw (.lst (l.map .str))) := tk_upd (x.aw.tup fun z => z)
  exact {
    self := f _ _ _ (by intro e; cases e) x.self
    line := f _ _ _ (by intro e; cases e) x.line
    he := f _ _ _ (by intro e; cases e) x.he
    hy := fun g hg => let ⟨tv, e, t⟩ := x.hy g hg; ⟨tv, e, t.tk k⟩
    wo := f _ _ _ (by intro e; cases e) x.wo
    wy := x.wy
    at_ := f _ _ _ (by intro e; cases e) x.at_
    ay := x.ay
    an := x.an
    op := f _ _ _ (by intro e; cases e) x.op
    oy := x.oy
    on := x.on
    ow := f _ _ _ (by intro e; cases e) x.ow
    de := x.de.trD fun g a u z => f _ _ _ (by intro e; cases e) z
    aw := x.aw.put
    pa := f _ _ _ (by intro e; cases e) x.pa
    pv := L2.Paired.mapP x.pv fun _ _ z => z.tk k
    ou := f _ _ _ (by intro e; cases e) x.ou
    ov := L2.Paired.mapP x.ov fun _ _ z => z.tk k
    few := ⟨Nat.le_succ_of_le x.few.line, hl, Nat.le_succ_of_le x.few.past, Nat.le_succ_of_le x.few.going, fun g ds e => Nat.le_succ_of_le (x.few.debts g ds e)⟩
    khl := Nat.le_succ_of_le x.khl
    kwl := Nat.le_succ_of_le x.kwl
    kal := Nat.le_succ_of_le x.kal
    kol := Nat.le_succ_of_le x.kol
    kdl := Nat.le_succ_of_le x.kdl
  }
theorem Mine.newAway (x : Mine K i rl H q b s m) {l : List Str} {a : Addr} (ra : ∀ r, rl a ≠ some (i, r)) (ha : H a = some (.lst (l.map .str))) (hl : l.length ≤ b) :
    Mine K i (setR (setR rl m.aw none) a (some (i, .away))) (upd H q (.dK (mkv s.own s.size m.l m.he s.ears m.wo m.ats m.op m.ow a m.pa m.ou))) q (b) ({ s with away := l }) ({ m with aw := a }) := by
  have hq : q ≠ a := fun e => ra .self (by rw [← e]; exact x.self.r)
  have f : ∀ r a' u, (i, r) ≠ (i, .self) → (i, r) ≠ (i, .away) → C rl H i r a' u → C (setR (setR rl m.aw none) a (some (i, .away))) (upd H q (.dK (mkv s.own s.size m.l m.he s.ears m.wo m.ats m.op m.ow a m.pa m.ou))) i r a' u := fun r a' u d d2 z => by
    have z1 := (z.drop x.aw d2 (v := none))
    have n : a' ≠ a := fun e => ra r (by rw [← e]; exact z.r)
    exact ⟨by rw [setR_ne n]; exact z1.r, by rw [upd_ne (z.ne x.self d)]; exact z1.h⟩
  have k : TK H (upd H q (.dK (mkv s.own s.size m.l m.he s.ears m.wo m.ats m.op m.ow a m.pa m.ou))) := tk_upd (x.self.tup fun z => z)
  exact {
    self := ⟨by rw [setR_ne hq, setR_ne (x.self.ne x.aw (by intro e; cases e))]; exact x.self.r, upd_same⟩
    line := f _ _ _ (by intro e; cases e) (by intro e; cases e) x.line
    he := f _ _ _ (by intro e; cases e) (by intro e; cases e) x.he
    hy := fun g hg => let ⟨tv, e, t⟩ := x.hy g hg; ⟨tv, e, t.tk k⟩
    wo := f _ _ _ (by intro e; cases e) (by intro e; cases e) x.wo
    wy := x.wy
    at_ := f _ _ _ (by intro e; cases e) (by intro e; cases e) x.at_
    ay := x.ay
    an := x.an
    op := f _ _ _ (by intro e; cases e) (by intro e; cases e) x.op
    oy := x.oy
    on := x.on
    ow := f _ _ _ (by intro e; cases e) (by intro e; cases e) x.ow
    de := x.de.trD fun g a u z => f _ _ _ (by intro e; cases e) (by intro e; cases e) z
    aw := ⟨setR_same, by rw [upd_ne hq.symm]; exact ha⟩
    pa := f _ _ _ (by intro e; cases e) (by intro e; cases e) x.pa
    pv := L2.Paired.mapP x.pv fun _ _ z => z.tk k
    ou := f _ _ _ (by intro e; cases e) (by intro e; cases e) x.ou
    ov := L2.Paired.mapP x.ov fun _ _ z => z.tk k
    few := ⟨x.few.line, hl, x.few.past, x.few.going, x.few.debts⟩
    khl := x.khl
    kwl := x.kwl
    kal := x.kal
    kol := x.kol
    kdl := x.kdl
  }
theorem mem_ins {g y : Str} {l : List Str} {n : Nat} : y ∈ l.take n ++ [g] ++ l.drop n ↔ y = g ∨ y ∈ l := by
  have e : l = l.take n ++ l.drop n := (List.take_append_drop n l).symm
  rw [List.mem_append, List.mem_append, List.mem_singleton]
  constructor
  · rintro ((h | h) | h)
    · exact .inr (List.mem_of_mem_take h)
    · exact .inl h
    · exact .inr (List.mem_of_mem_drop h)
  · rintro (h | h)
    · exact .inl (.inr h)
    · rw [e, List.mem_append] at h
      rcases h with h | h
      · exact .inl (.inl h)
      · exact .inr h
theorem len_ins {g : Str} {l : List Str} {n : Nat} : (l.take n ++ [g] ++ l.drop n).length = l.length + 1 := by
  have e : (l.take n ++ l.drop n).length = l.length := by rw [List.take_append_drop]
  rw [List.length_append] at e
  rw [List.length_append, List.length_append, List.length_singleton]
  omega
theorem Mine.putIn (x : Mine K i rl H q b s m) {g : Str} {n : Nat} (hn : g ∉ s.line) :
    Mine K i (rl) (upd (upd (upd (H) m.l (.lst ((s.line.take n ++ [g] ++ s.line.drop n).map .str))) m.he (.dK (putK m.kh (.inr g) .non))) m.wo (.dK (putK m.kw (.inr g) .non))) q (b + 1) (G.putIn s g n) ({ m with kh := putK m.kh (.inr g) .non, kw := putK m.kw (.inr g) .non }) := by
  have y0 : C rl (H) i .line _ _ := x.line
  have y1 : C rl (upd (H) m.l (.lst ((s.line.take n ++ [g] ++ s.line.drop n).map .str))) i .heard _ _ := ((x.he).upd y0 (by intro e; cases e) (o' := .lst ((s.line.take n ++ [g] ++ s.line.drop n).map .str)))
  have y2 : C rl (upd (upd (H) m.l (.lst ((s.line.take n ++ [g] ++ s.line.drop n).map .str))) m.he (.dK (putK m.kh (.inr g) .non))) i .word _ _ := ((((x.wo).upd y0 (by intro e; cases e) (o' := .lst ((s.line.take n ++ [g] ++ s.line.drop n).map .str)))).upd y1 (by intro e; cases e) (o' := .dK (putK m.kh (.inr g) .non)))
  have e0 : C rl (upd (upd (upd (H) m.l (.lst ((s.line.take n ++ [g] ++ s.line.drop n).map .str))) m.he (.dK (putK m.kh (.inr g) .non))) m.wo (.dK (putK m.kw (.inr g) .non))) i .line _ _ := (((((y0.put (o' := .lst ((s.line.take n ++ [g] ++ s.line.drop n).map .str)))).upd y1 (by intro e; cases e) (o' := .dK (putK m.kh (.inr g) .non)))).upd y2 (by intro e; cases e) (o' := .dK (putK m.kw (.inr g) .non)))
  have e1 : C rl (upd (upd (upd (H) m.l (.lst ((s.line.take n ++ [g] ++ s.line.drop n).map .str))) m.he (.dK (putK m.kh (.inr g) .non))) m.wo (.dK (putK m.kw (.inr g) .non))) i .heard _ _ := (((y1.put (o' := .dK (putK m.kh (.inr g) .non)))).upd y2 (by intro e; cases e) (o' := .dK (putK m.kw (.inr g) .non)))
  have e2 : C rl (upd (upd (upd (H) m.l (.lst ((s.line.take n ++ [g] ++ s.line.drop n).map .str))) m.he (.dK (putK m.kh (.inr g) .non))) m.wo (.dK (putK m.kw (.inr g) .non))) i .word _ _ := (y2.put (o' := .dK (putK m.kw (.inr g) .non)))
  have f : ∀ r a u, (i, r) ≠ (i, .line) → (i, r) ≠ (i, .heard) → (i, r) ≠ (i, .word) → C rl H i r a u → C rl (upd (upd (upd (H) m.l (.lst ((s.line.take n ++ [g] ++ s.line.drop n).map .str))) m.he (.dK (putK m.kh (.inr g) .non))) m.wo (.dK (putK m.kw (.inr g) .non))) i r a u := fun r a u d0 d1 d2 z => ((((((z).upd y0 d0)).upd y1 d1)).upd y2 d2)
  have k : TK H (upd (upd (upd (H) m.l (.lst ((s.line.take n ++ [g] ++ s.line.drop n).map .str))) m.he (.dK (putK m.kh (.inr g) .non))) m.wo (.dK (putK m.kw (.inr g) .non))) := (((((tk_upd (y0.tup fun z => z))).trans (tk_upd (y1.tup fun z => z)))).trans (tk_upd (y2.tup fun z => z)))
  exact {
    self := f _ _ _ (by intro e; cases e) (by intro e; cases e) (by intro e; cases e) x.self
    line := e0
    he := e1
    hy := fun y hy => by
      show ∃ tv, valV (putK m.kh (.inr g) .non) (.inr y) = some tv ∧ Told _ tv (if y = g then Pl.new else s.pl y).told
      rw [valV_put]
      by_cases h : y = g
      · rw [if_pos (congrArg Sum.inr h), if_pos h]; exact ⟨.non, rfl, rfl⟩
      · rw [if_neg fun z => h (Sum.inr.inj z), if_neg h]
        obtain ⟨tv, e, t⟩ := x.hy y ((mem_ins.mp hy).resolve_left h)
        exact ⟨tv, e, t.tk k⟩
    wo := e2
    wy := fun y hy => by
      show valV (putK m.kw (.inr g) .non) (.inr y) = some (oV (if y = g then Pl.new else s.pl y).mark)
      rw [valV_put]
      by_cases h : y = g
      · rw [if_pos (congrArg Sum.inr h), if_pos h]; rfl
      · rw [if_neg fun z => h (Sum.inr.inj z), if_neg h]; exact x.wy y ((mem_ins.mp hy).resolve_left h)
    at_ := f _ _ _ (by intro e; cases e) (by intro e; cases e) (by intro e; cases e) x.at_
    ay := fun y hy => by
      show (if y = g then Pl.new else s.pl y).mark ≠ none → valV m.ka (.inr y) = some (.int (if y = g then Pl.new else s.pl y).since)
      by_cases h : y = g
      · rw [if_pos h]; intro z; exact absurd rfl z
      · rw [if_neg h]; exact x.ay y ((mem_ins.mp hy).resolve_left h)
    an := x.an
    op := f _ _ _ (by intro e; cases e) (by intro e; cases e) (by intro e; cases e) x.op
    oy := fun y => by
      show valV m.ko (.inr y) = if y ∈ s.line.take n ++ [g] ++ s.line.drop n ∧ (if y = g then Pl.new else s.pl y).opened = true then some (oV (if y = g then Pl.new else s.pl y).source) else none
      by_cases h : y = g
      · rw [if_pos h, if_neg (fun z => by cases z.2), x.oy y, if_neg fun z => hn (by rw [← h]; exact z.1)]
      · rw [if_neg h, x.oy y]
        by_cases c : y ∈ s.line ∧ (s.pl y).opened = true
        · rw [if_pos c, if_pos ⟨mem_ins.mpr (.inr c.1), c.2⟩]
        · rw [if_neg c, if_neg fun z => c ⟨(mem_ins.mp z.1).resolve_left h, z.2⟩]
    on := x.on
    ow := f _ _ _ (by intro e; cases e) (by intro e; cases e) (by intro e; cases e) x.ow
    de := x.de.trD fun g a u z => f _ _ _ (by intro e; cases e) (by intro e; cases e) (by intro e; cases e) z
    aw := f _ _ _ (by intro e; cases e) (by intro e; cases e) (by intro e; cases e) x.aw
    pa := f _ _ _ (by intro e; cases e) (by intro e; cases e) (by intro e; cases e) x.pa
    pv := L2.Paired.mapP x.pv fun _ _ z => z.tk k
    ou := f _ _ _ (by intro e; cases e) (by intro e; cases e) (by intro e; cases e) x.ou
    ov := L2.Paired.mapP x.ov fun _ _ z => z.tk k
    few := ⟨by
      show (s.line.take n ++ [g] ++ s.line.drop n).length ≤ b + 1
      rw [len_ins]; exact Nat.succ_le_succ x.few.line, Nat.le_succ_of_le x.few.away, Nat.le_succ_of_le x.few.past, Nat.le_succ_of_le x.few.going, fun g ds e => Nat.le_succ_of_le (x.few.debts g ds e)⟩
    khl := Nat.le_trans (length_putK _ _ _) (Nat.succ_le_succ x.khl)
    kwl := Nat.le_trans (length_putK _ _ _) (Nat.succ_le_succ x.kwl)
    kal := Nat.le_succ_of_le x.kal
    kol := Nat.le_succ_of_le x.kol
    kdl := Nat.le_succ_of_le x.kdl
  }
theorem Mine.outAll (x : Mine K i rl H q b s m) {g : Str} (hg : g ∈ s.line) (nd : s.line.Nodup) :
    Mine K i (rl) (upd (upd (upd (upd (upd (H) m.l (.lst ((s.line.erase g).map .str))) m.he (.dK (dropK m.kh (.inr g)))) m.wo (.dK (dropK m.kw (.inr g)))) m.op (.dK (dropK m.ko (.inr g)))) m.ow (.dK (dropK m.kd (.inr g)))) q (b) ({ s with line := s.line.erase g, debts := fun x => if x = g then none else s.debts x }) ({ m with kh := dropK m.kh (.inr g), kw := dropK m.kw (.inr g), ko := dropK m.ko (.inr g), kd := dropK m.kd (.inr g) }) := by
  have y0 : C rl (H) i .line _ _ := x.line
  have y1 : C rl (upd (H) m.l (.lst ((s.line.erase g).map .str))) i .heard _ _ := ((x.he).upd y0 (by intro e; cases e) (o' := .lst ((s.line.erase g).map .str)))
  have y2 : C rl (upd (upd (H) m.l (.lst ((s.line.erase g).map .str))) m.he (.dK (dropK m.kh (.inr g)))) i .word _ _ := ((((x.wo).upd y0 (by intro e; cases e) (o' := .lst ((s.line.erase g).map .str)))).upd y1 (by intro e; cases e) (o' := .dK (dropK m.kh (.inr g))))
  have y3 : C rl (upd (upd (upd (H) m.l (.lst ((s.line.erase g).map .str))) m.he (.dK (dropK m.kh (.inr g)))) m.wo (.dK (dropK m.kw (.inr g)))) i .opens _ _ := ((((((x.op).upd y0 (by intro e; cases e) (o' := .lst ((s.line.erase g).map .str)))).upd y1 (by intro e; cases e) (o' := .dK (dropK m.kh (.inr g))))).upd y2 (by intro e; cases e) (o' := .dK (dropK m.kw (.inr g))))
  have y4 : C rl (upd (upd (upd (upd (H) m.l (.lst ((s.line.erase g).map .str))) m.he (.dK (dropK m.kh (.inr g)))) m.wo (.dK (dropK m.kw (.inr g)))) m.op (.dK (dropK m.ko (.inr g)))) i .debts _ _ := ((((((((x.ow).upd y0 (by intro e; cases e) (o' := .lst ((s.line.erase g).map .str)))).upd y1 (by intro e; cases e) (o' := .dK (dropK m.kh (.inr g))))).upd y2 (by intro e; cases e) (o' := .dK (dropK m.kw (.inr g))))).upd y3 (by intro e; cases e) (o' := .dK (dropK m.ko (.inr g))))
  have e0 : C rl (upd (upd (upd (upd (upd (H) m.l (.lst ((s.line.erase g).map .str))) m.he (.dK (dropK m.kh (.inr g)))) m.wo (.dK (dropK m.kw (.inr g)))) m.op (.dK (dropK m.ko (.inr g)))) m.ow (.dK (dropK m.kd (.inr g)))) i .line _ _ := (((((((((y0.put (o' := .lst ((s.line.erase g).map .str)))).upd y1 (by intro e; cases e) (o' := .dK (dropK m.kh (.inr g))))).upd y2 (by intro e; cases e) (o' := .dK (dropK m.kw (.inr g))))).upd y3 (by intro e; cases e) (o' := .dK (dropK m.ko (.inr g))))).upd y4 (by intro e; cases e) (o' := .dK (dropK m.kd (.inr g))))
  have e1 : C rl (upd (upd (upd (upd (upd (H) m.l (.lst ((s.line.erase g).map .str))) m.he (.dK (dropK m.kh (.inr g)))) m.wo (.dK (dropK m.kw (.inr g)))) m.op (.dK (dropK m.ko (.inr g)))) m.ow (.dK (dropK m.kd (.inr g)))) i .heard _ _ := (((((((y1.put (o' := .dK (dropK m.kh (.inr g))))).upd y2 (by intro e; cases e) (o' := .dK (dropK m.kw (.inr g))))).upd y3 (by intro e; cases e) (o' := .dK (dropK m.ko (.inr g))))).upd y4 (by intro e; cases e) (o' := .dK (dropK m.kd (.inr g))))
  have e2 : C rl (upd (upd (upd (upd (upd (H) m.l (.lst ((s.line.erase g).map .str))) m.he (.dK (dropK m.kh (.inr g)))) m.wo (.dK (dropK m.kw (.inr g)))) m.op (.dK (dropK m.ko (.inr g)))) m.ow (.dK (dropK m.kd (.inr g)))) i .word _ _ := (((((y2.put (o' := .dK (dropK m.kw (.inr g))))).upd y3 (by intro e; cases e) (o' := .dK (dropK m.ko (.inr g))))).upd y4 (by intro e; cases e) (o' := .dK (dropK m.kd (.inr g))))
  have e3 : C rl (upd (upd (upd (upd (upd (H) m.l (.lst ((s.line.erase g).map .str))) m.he (.dK (dropK m.kh (.inr g)))) m.wo (.dK (dropK m.kw (.inr g)))) m.op (.dK (dropK m.ko (.inr g)))) m.ow (.dK (dropK m.kd (.inr g)))) i .opens _ _ := (((y3.put (o' := .dK (dropK m.ko (.inr g))))).upd y4 (by intro e; cases e) (o' := .dK (dropK m.kd (.inr g))))
  have e4 : C rl (upd (upd (upd (upd (upd (H) m.l (.lst ((s.line.erase g).map .str))) m.he (.dK (dropK m.kh (.inr g)))) m.wo (.dK (dropK m.kw (.inr g)))) m.op (.dK (dropK m.ko (.inr g)))) m.ow (.dK (dropK m.kd (.inr g)))) i .debts _ _ := (y4.put (o' := .dK (dropK m.kd (.inr g))))
  have f : ∀ r a u, (i, r) ≠ (i, .line) → (i, r) ≠ (i, .heard) → (i, r) ≠ (i, .word) → (i, r) ≠ (i, .opens) → (i, r) ≠ (i, .debts) → C rl H i r a u → C rl (upd (upd (upd (upd (upd (H) m.l (.lst ((s.line.erase g).map .str))) m.he (.dK (dropK m.kh (.inr g)))) m.wo (.dK (dropK m.kw (.inr g)))) m.op (.dK (dropK m.ko (.inr g)))) m.ow (.dK (dropK m.kd (.inr g)))) i r a u := fun r a u d0 d1 d2 d3 d4 z => ((((((((((z).upd y0 d0)).upd y1 d1)).upd y2 d2)).upd y3 d3)).upd y4 d4)
  have k : TK H (upd (upd (upd (upd (upd (H) m.l (.lst ((s.line.erase g).map .str))) m.he (.dK (dropK m.kh (.inr g)))) m.wo (.dK (dropK m.kw (.inr g)))) m.op (.dK (dropK m.ko (.inr g)))) m.ow (.dK (dropK m.kd (.inr g)))) := (((((((((tk_upd (y0.tup fun z => z))).trans (tk_upd (y1.tup fun z => z)))).trans (tk_upd (y2.tup fun z => z)))).trans (tk_upd (y3.tup fun z => z)))).trans (tk_upd (y4.tup fun z => z)))
  exact {
    self := f _ _ _ (by intro e; cases e) (by intro e; cases e) (by intro e; cases e) (by intro e; cases e) (by intro e; cases e) x.self
    line := e0
    he := e1
    hy := fun y hy => by
      have hy2 := (nd.mem_erase_iff).mp hy
      obtain ⟨tv, e, t⟩ := x.hy y hy2.2
      refine ⟨tv, ?_, t.tk k⟩
      show valV (dropK m.kh (.inr g)) (.inr y) = some tv
      rw [valV_drop, if_neg fun z => hy2.1 (Sum.inr.inj z)]; exact e
    wo := e2
    wy := fun y hy => by
      have hy2 := (nd.mem_erase_iff).mp hy
      show valV (dropK m.kw (.inr g)) (.inr y) = some (oV (s.pl y).mark)
      rw [valV_drop, if_neg fun z => hy2.1 (Sum.inr.inj z)]; exact x.wy y hy2.2
    at_ := f _ _ _ (by intro e; cases e) (by intro e; cases e) (by intro e; cases e) (by intro e; cases e) (by intro e; cases e) x.at_
    ay := fun y hy => x.ay y ((nd.mem_erase_iff).mp hy).2
    an := x.an
    op := e3
    oy := fun y => by
      show valV (dropK m.ko (.inr g)) (.inr y) = if y ∈ s.line.erase g ∧ (s.pl y).opened = true then some (oV (s.pl y).source) else none
      rw [valV_drop]
      by_cases h : y = g
      · rw [if_pos (congrArg Sum.inr h), if_neg fun z => ((nd.mem_erase_iff).mp z.1).1 h]
      · rw [if_neg fun z => h (Sum.inr.inj z), x.oy y]
        by_cases c : y ∈ s.line ∧ (s.pl y).opened = true
        · rw [if_pos c, if_pos ⟨(nd.mem_erase_iff).mpr ⟨h, c.1⟩, c.2⟩]
        · rw [if_neg c, if_neg fun z => c ⟨((nd.mem_erase_iff).mp z.1).2, z.2⟩]
    on := fun n => by rw [valV_drop, if_neg fun z => by cases z]; exact x.on n
    ow := e4
    de := fun y => by
      show DebtV _ _ _ _ (valV (dropK m.kd (.inr g)) (.inr y)) (if y = g then none else s.debts y)
      rw [valV_drop]
      by_cases e : y = g
      · rw [if_pos e, if_pos (congrArg Sum.inr e)]; rfl
      · rw [if_neg e, if_neg fun z => e (Sum.inr.inj z)]
        exact (x.de.trD fun g a u z => f _ _ _ (by intro e; cases e) (by intro e; cases e) (by intro e; cases e) (by intro e; cases e) (by intro e; cases e) z) y
    aw := f _ _ _ (by intro e; cases e) (by intro e; cases e) (by intro e; cases e) (by intro e; cases e) (by intro e; cases e) x.aw
    pa := f _ _ _ (by intro e; cases e) (by intro e; cases e) (by intro e; cases e) (by intro e; cases e) (by intro e; cases e) x.pa
    pv := L2.Paired.mapP x.pv fun _ _ z => z.tk k
    ou := f _ _ _ (by intro e; cases e) (by intro e; cases e) (by intro e; cases e) (by intro e; cases e) (by intro e; cases e) x.ou
    ov := L2.Paired.mapP x.ov fun _ _ z => z.tk k
    few := ⟨Nat.le_trans (List.length_erase_le ..) x.few.line, x.few.away, x.few.past, x.few.going, fun y ds e => by
      have e' : (if y = g then none else s.debts y) = some ds := e
      by_cases w : y = g
      · rw [if_pos w] at e'; cases e'
      · rw [if_neg w] at e'
        exact x.few.debts y ds e'⟩
    khl := Nat.le_trans (dropK_le _ _) x.khl
    kwl := Nat.le_trans (dropK_le _ _) x.kwl
    kal := x.kal
    kol := Nat.le_trans (dropK_le _ _) x.kol
    kdl := Nat.le_trans (dropK_le _ _) x.kdl
  }
theorem putK_old {k : Key} {v : V} {kvs : List (Key × V)} (h : (valV kvs k).isSome = true) : (putK kvs k v).length = kvs.length := by
  unfold putK
  rw [if_pos (by rw [valV_any]; exact h), List.length_map]
theorem Mine.uncause (x : Mine K i rl H q b s m) {o : Str} (ho : o ∈ s.line ∧ (s.pl o).opened = true) :
    Mine K i (rl) (upd H m.op (.dK (putK m.ko (.inr o) .non))) q (b) (s.setPl o { (s.pl o) with source := none }) ({ m with ko := putK m.ko (.inr o) .non }) := by
  have f : ∀ r a u, (i, r) ≠ (i, .opens) → C rl H i r a u → C rl (upd H m.op (.dK (putK m.ko (.inr o) .non))) i r a u := fun r a u d z => z.upd x.op d
  have k : TK H (upd H m.op (.dK (putK m.ko (.inr o) .non))) := tk_upd (x.op.tup fun z => z)
  exact {
    self := f _ _ _ (by intro e; cases e) x.self
    line := f _ _ _ (by intro e; cases e) x.line
    he := f _ _ _ (by intro e; cases e) x.he
    hy := fun y hy => by
      obtain ⟨tv, e, t⟩ := x.hy y hy
      refine ⟨tv, e, ?_⟩
      show Told _ tv (if y = o then ({ (s.pl o) with source := none } : Pl) else s.pl y).told
      by_cases h : y = o
      · rw [if_pos h]; rw [h] at t; exact t.tk k
      · rw [if_neg h]; exact t.tk k
    wo := f _ _ _ (by intro e; cases e) x.wo
    wy := fun y hy => by
      show valV m.kw (.inr y) = some (oV (if y = o then ({ (s.pl o) with source := none } : Pl) else s.pl y).mark)
      by_cases h : y = o
      · rw [if_pos h, x.wy y hy, h]
      · rw [if_neg h]; exact x.wy y hy
    at_ := f _ _ _ (by intro e; cases e) x.at_
    ay := fun y hy => by
      show (if y = o then ({ (s.pl o) with source := none } : Pl) else s.pl y).mark ≠ none → valV m.ka (.inr y) = some (.int (if y = o then ({ (s.pl o) with source := none } : Pl) else s.pl y).since)
      by_cases h : y = o
      · rw [if_pos h]; intro z; rw [x.ay y hy (by rw [h]; exact z), h]
      · rw [if_neg h]; exact x.ay y hy
    an := x.an
    op := x.op.put
    oy := fun y => by
      show valV (putK m.ko (.inr o) .non) (.inr y) = if y ∈ s.line ∧ (if y = o then ({ (s.pl o) with source := none } : Pl) else s.pl y).opened = true then some (oV (if y = o then ({ (s.pl o) with source := none } : Pl) else s.pl y).source) else none
      rw [valV_put]
      by_cases h : y = o
      · subst h
        rw [if_pos rfl, if_pos rfl, if_pos ⟨ho.1, ho.2⟩]; rfl
      · rw [if_neg h, if_neg fun z => h (Sum.inr.inj z)]; exact x.oy y
    on := fun n => by rw [valV_put, if_neg fun z => by cases z]; exact x.on n
    ow := f _ _ _ (by intro e; cases e) x.ow
    de := x.de.trD fun g a u z => f _ _ _ (by intro e; cases e) z
    aw := f _ _ _ (by intro e; cases e) x.aw
    pa := f _ _ _ (by intro e; cases e) x.pa
    pv := L2.Paired.mapP x.pv fun _ _ z => z.tk k
    ou := f _ _ _ (by intro e; cases e) x.ou
    ov := L2.Paired.mapP x.ov fun _ _ z => z.tk k
    few := ⟨x.few.line, x.few.away, x.few.past, x.few.going, x.few.debts⟩
    khl := x.khl
    kwl := x.kwl
    kal := x.kal
    kol := by rw [putK_old (by rw [x.oy o, if_pos ho]; rfl)]; exact x.kol
    kdl := x.kdl
  }
end
end G
set_option Elab.async false
set_option linter.all false
set_option maxRecDepth 100000
set_option maxHeartbeats 4000000
namespace G
open PySem PySem.Spec PyProof.Rows L2
/-- as lc_pure, any target -/
theorem lc_pureG {α : Type} {J : It} {G : Hp → Prop} {Y : Nat → Hp → V → Hp → Prop} {g : TG} {tt : TT} {te : TE} {vs : List Nat} {σ : L2.St} {H1 : Hp} {D : Addr} {Qd : Hp → Prop}
    (l : List α) (mk : α → V) (p : α → Bool) (f : α → V) (w : Walk J l.length G Y) (hY : ∀ i H v H', Y i H v H' → H' = H ∧ ∃ x, l[i]? = some x ∧ v = mk x) (hD : H1 D = none) (hz : l.length < sizeLine) (hG : ∀ H, Same H1 H → G H)
    (ht : ∀ x H (kf : Hp → Prop) (kt : VK), x ∈ l → Same H1 H → (p x = false → ∀ H', Same H H' → kf H') → (p x = true → ∀ H', Same H H' → kt (f x) H') →
      g (mk x) (wipe σ vs) H fun σ2 H2 => wipe σ2 vs = wipe σ vs ∧ tt σ2 H2 fun b H3 => if b = true then te σ2 H3 kt else kf H3)
    (hd : ∀ H, Same H1 H → H D = some (.lst ((l.filter p).map f)) → Qd H) :
    ∃ W : Nat → Nat → Hp → Prop, (∃ m, W 0 m (upd H1 D (.lst []))) ∧ ∀ i m H, W i m H →
      (J.stop i H ∧ Qd H) ∨ (J.go i H ∧ ∃ Nx : Hp → Prop, (∀ H', Nx H' → ∃ m', m' < m ∧ W (i + 1) m' H') ∧ ∀ x H', J.yld i H x H' → g x (wipe σ vs) H' fun σ2 H2 => wipe σ2 vs = wipe σ vs ∧ tt σ2 H2 fun b H3 =>
        if b = true then te σ2 H3 fun y H4 => ∃ acc, H4 D = some (.lst acc) ∧ acc.length < sizeLine ∧ Nx (upd H4 D (.lst (acc ++ [y]))) else Nx H3) := by
  refine lc_it w (fun i H => Same H1 H ∧ H D = some (.lst (((l.take i).filter p).map f))) ⟨same_upd hD, upd_same⟩ (fun i H _ h => hG H h.1) ?_ (fun H h => hd H h.1 ?_)
  · rintro i v H H' hi ⟨s1, h1⟩ y
    obtain ⟨rfl, x, hx, rfl⟩ := hY _ _ _ _ y
    have hm : x ∈ l := List.mem_of_getElem? hx
    have t1 := take_succ_at hx
    refine ht x _ _ _ hm s1 (fun e H2 s2 => ?_) fun e H3 s3 => ?_
    · refine ⟨s1.trans s2, ?_⟩
      rw [t1, List.filter_append, List.filter_cons, if_neg (by rw [e]; exact Bool.false_ne_true), List.filter_nil, List.append_nil]
      exact s2 _ _ h1
    · refine ⟨_, s3 _ _ h1, ?_, fun b o hb => ?_, ?_⟩
      · rw [List.length_map]
        have a1 := List.length_filter_le p (l.take i)
        have a2 := List.length_take_le i l
        omega
      · have hbD : b ≠ D := ne_of_none hb hD
        rw [upd_ne hbD]
        exact s3 _ _ (s1 _ _ hb)
      · rw [upd_same, t1, List.filter_append, List.filter_cons, if_pos e, List.filter_nil, List.map_append]
        rfl
  · rw [← List.take_length (l := l)]; exact h.2
theorem walk_map {K : PySem.W.Frag} {a : Addr} {α : Type} (mk : α → V) (l : List α) : Walk (Itl K a) l.length (fun H => SqL K H a (l.map mk)) (YAt (l.map mk)) := by
  have w := walk_list (K := K) (a := a) (xs := l.map mk)
  rw [List.length_map] at w
  exact w
theorem yat_map {α : Type} (mk : α → V) (l : List α) : ∀ i H v H', YAt (l.map mk) i H v H' → H' = H ∧ ∃ x, l[i]? = some x ∧ v = mk x := fun i H v H' ⟨e, h⟩ => by
  rw [List.getElem?_map] at h
  obtain ⟨x, hx, e2⟩ := Option.map_eq_some_iff.mp h
  exact ⟨e, x, hx, e2.symm⟩

/-! ### given, the mathematics: the law's words -/
/-- the word that a place was heard with -/
def wOf (p : Pl) : Str := match p.told with
  | none => ""
  | some (x, _) => x
def byN (p : Pl) (n : Nat) : Bool := match p.told with
  | none => false
  | some (_, k) => decide (k ≤ n)
def lawWords (s : S) (g : Str) (n : Nat) : List Str := (((front s g).filter fun o => (s.pl o).told.isSome).filter fun o => byN (s.pl o) n).map fun o => wOf (s.pl o)
theorem lawWords_count (s : S) (g w : Str) (n : Nat) : (lawWords s g n).count w = (heardAs s g w (some n)).length := by
  unfold lawWords heardAs
  induction front s g with
  | nil => rfl
  | cons o l ih =>
    rw [List.filter_cons, List.filter_cons (p := fun o => hit w (some n) (s.pl o).told)]
    unfold hit
    cases e : (s.pl o).told with
    | none =>
      rw [if_neg (by simp), if_neg (by simp)]
      unfold hit at ih
      exact ih
    | some xn =>
      obtain ⟨x, k⟩ := xn
      rw [if_pos (by simp), List.filter_cons]
      have e1 : byN (s.pl o) n = decide (k ≤ n) := by unfold byN; rw [e]
      have e2 : wOf (s.pl o) = x := by unfold wOf; rw [e]
      dsimp only
      unfold hit at ih
      by_cases c : k ≤ n
      · rw [e1, if_pos (decide_eq_true c), List.map_cons, List.count_cons, ih, e2]
        by_cases d : x = w
        · subst d
          rw [if_pos (by simp), if_pos (by simp [c])]; rfl
        · rw [if_neg (by simpa using d), if_neg (by simp [d])]; rfl
      · rw [e1, if_neg (by simpa using c), if_neg (by simp [c])]
        exact ih
theorem lawWords_len (s : S) (g : Str) (n : Nat) : (lawWords s g n).length ≤ s.line.length := by
  unfold lawWords front
  rw [List.length_map]
  exact Nat.le_trans (List.length_filter_le _ _) (Nat.le_trans (List.length_filter_le _ _) (by rw [List.length_take]; omega))
section
variable {P : Program} {w : World} {K : PySem.W.Frag} {mg : Str → Option Value} {base : Heap}

/-! ### _law_given -/
def spLGiven (K : PySem.W.Frag) : Sp := fun vs H Q _ => ∃ (i : Nat) (rl : Rl) (q : Addr) (b : Nat) (s : S) (m : MA) (g : Str) (n : Nat), vs = [.ref q, .str g, .int n] ∧ Mine K i rl H q b s m ∧ b ≤ Lim ∧ g ∈ s.line ∧ ∀ H', Same H H' → Q (oV (givenBy s g (some n))) H'
theorem sc_Lgiven : FnScope ["_law_mine", "_law_guest", "_law_upto", "_law_front", "_law_rows", "_law_words", "_law_other", "_law_word", "_law_number"] ["_law_mine", "_law_guest", "_law_upto"] (defScope s_L_given) := ⟨rfl, rfl, rfl, by decide +kernel, rfl, by decide +kernel, by decide +kernel⟩
theorem ok_Lgiven (T : Txt K mg) : Ok P w K mg base CX0 1 (He.fAd K ("_law_given", none)) ["_law_mine", "_law_guest", "_law_upto"] (spLGiven K) := by
  refine Ok.of T.f_L_given sc_Lgiven (fun _ _ _ _ _ _ us hl => match us, hl with | [_, _, _], _ => rfl) (fun vs H Q E h => by obtain ⟨_, _, _, _, _, _, _, _, rfl, _⟩ := h; rfl) (fun cdv A outer s H vs Q E hr h => ?_)
  obtain ⟨i, rl, q, b, s, m, g, n, rfl, x, hb, hg, k⟩ := h
  have hu := hu_of hr
  have nd := sc_Lgiven.nd
  refine ⟨_, (pss_cons (ps_set (i := 3) nd rfl (Or.inl rfl) (pe_slice sl_list (pe_dget hu (pv 0) pe_str (fun _ _ => rfl)) po_none (po_some (pe_bm PySem.F.plainAttrs_list PySem.F.slot_list_index PySem.F.type_list_index mt_indexS (pe_dget hu (pv 0) pe_str (fun _ _ => rfl)) (pa_cons (pv 1) pa_nil)))))
      (pss_cons (ps_setLc (i := 4) (own := [("_law_other", 6)]) (g := gName 6) rfl nd rfl rfl (sw_true rfl rfl rfl (by decide +kernel)) (pi_list (pv 3)) (blkOk_by (N := ["_law_mine", "_law_guest", "_law_upto", "_law_front", "_law_rows", "_law_words", "_law_other", "_law_word", "_law_number"]) (sc := defScope s_L_given) (by decide +kernel))
        (fun _ _ _ _ _ => pg_name (i := 6) nd rfl (Or.inl rfl)) (fun _ _ _ _ _ => pts_one (pt_cmpR op_notN (pe_dget hu (pe_dget hu (pv 0) pe_str (fun _ _ => rfl)) (pv 6) (fun _ _ => rfl)) pe_non (nomark _))) (fun _ _ _ _ _ => pe_dget hu (pe_dget hu (pv 0) pe_str (fun _ _ => rfl)) (pv 6) (fun _ _ => rfl)))
      (pss_cons (ps_setLc (i := 5) (own := [("_law_word", 7), ("_law_number", 8)]) (g := gTup K 2 (gCons (gName 7) (gCons (gName 8) gNil))) rfl nd rfl rfl (sw_true rfl rfl rfl (by decide +kernel)) (pi_list (pv 4)) (blkOk_by (N := ["_law_mine", "_law_guest", "_law_upto", "_law_front", "_law_rows", "_law_words", "_law_other", "_law_word", "_law_number"]) (sc := defScope s_L_given) (by decide +kernel))
        (fun _ _ _ _ _ => pg_tup rfl (pgs_cons (pg_name (i := 7) nd rfl (Or.inl rfl)) (pgs_cons (pg_name (i := 8) nd rfl (Or.inl rfl)) pgs_nil))) (fun _ _ _ _ _ => pts_one (pt_cmpR op_le (pv 8) (pv 2) (nomark _))) (fun _ _ _ _ _ => pv 7))
      (pss_cons (ps_if (pt_cmpR op_ge (pe_bm PySem.F.plainAttrs_list PySem.F.slot_list_count PySem.F.type_list_count mt_countS (pv 5) (pa_cons (pe_str) pa_nil)) (pe_dget hu (pv 0) pe_str (fun _ _ => rfl)) (nomark _)) (pss_one (ps_ret pe_str)) pss_nil)
      (pss_one (ps_ret (pe_ifExp (pt_cmpR op_lt (pe_op op_sub (pe_callB call_len_seq (by rfl) T.n_len PySem.boot_len (pa_cons (pv 3) pa_nil)) (pe_bm PySem.F.plainAttrs_list PySem.F.slot_list_count PySem.F.type_list_count mt_countS (pv 5) (pa_cons (pe_str) pa_nil))) (pe_dget hu (pv 0) pe_str (fun _ _ => rfl)) (nomark _)) pe_str pe_non))))))), ?_⟩
  refine ⟨_, rfl, q, _, rfl, x.gLine, _, rfl, q, _, rfl, x.gLine, .inl ⟨rfl, _, SqL.of x.line.h⟩, _, rfl, m.l, s.line, g, rfl, rfl, SqL.of x.line.h, hg, _, rfl, m.l, _, rfl, SqL.of x.line.h, fun sl hsl => ?_⟩
  rw [cut_to, ← List.map_take]
  have s1 := same_upd (o := HO.lst ((front s g).map V.str)) hsl
  have fin : ∀ o, o ∈ front s g → o ∈ s.line := fun o ho => List.mem_of_mem_take ho
  have flen : (front s g).length = s.line.idxOf g := by
    have := List.idxOf_lt_length_of_mem hg
    unfold front
    rw [List.length_take]; omega
  have fle : (front s g).length ≤ s.line.length := by rw [flen]; have := List.idxOf_lt_length_of_mem hg; omega
  have hx1 : upd H sl (.lst ((front s g).map V.str)) sl = some (.lst ((front s g).map V.str)) := upd_same
  rw [show s.line.take (s.line.idxOf g) = front s g from rfl]
  generalize hH1 : upd H sl (.lst ((front s g).map V.str)) = H1 at s1 hx1
  have x1 := x.same s1
  -- rows
  refine ⟨_, rfl, sl, rfl, ⟨_, SqL.of hx1⟩, fun D hD => ?_⟩
  refine lc_pureG (front s g) V.str (fun o => (s.pl o).told.isSome) (fun o => (valV m.kh (.inr o)).getD .non) (walk_strs (front s g)) (yat_str (front s g)) hD (lim_lt (Nat.le_trans fle x.few.line) hb) (fun H2 s2 => SqL.of (s2 _ _ hx1)) ?_ ?_
  · intro o H2 kf kt ho s2 hf ht
    have x2 := x1.same s2
    obtain ⟨tv, e, t⟩ := x2.hy o (fin o ho)
    have gd : DGet H2 m.he (.str o) (some tv) := by rw [← e]; exact DGet.k (k := Sum.inr o) x2.he.h
    refine ⟨rfl, _, rfl, q, _, rfl, x2.gHeard, _, rfl, m.he, tv, rfl, gd, rfl, _, rfl, ?_⟩
    cases et : (s.pl o).told with
    | none =>
      rw [et] at t
      have t' : tv = .non := t
      subst t'
      exact iteF (hf (by rw [et]; rfl) H2 (Same.refl H2))
    | some xn =>
      obtain ⟨y, kn⟩ := xn
      rw [et] at t
      obtain ⟨ta, rfl, hta⟩ := t
      refine iteT ⟨_, rfl, q, _, rfl, x2.gHeard, _, rfl, m.he, _, rfl, gd, ?_⟩
      have := ht (by rw [et]; rfl) H2 (Same.refl H2)
      rw [e] at this
      exact this
  intro H2 s2 h2
  have x2 := x1.same s2
  refine ⟨_, rfl, D, rfl, ⟨_, SqL.of h2⟩, fun D2 hD2 => ?_⟩
  have rows_le : ((front s g).filter fun o => (s.pl o).told.isSome).length ≤ b := Nat.le_trans (List.length_filter_le _ _) (Nat.le_trans fle x.few.line)
  refine lc_pureG ((front s g).filter fun o => (s.pl o).told.isSome) (fun o => (valV m.kh (.inr o)).getD .non) (fun o => byN (s.pl o) n) (fun o => .str (wOf (s.pl o))) (walk_map _ _) (yat_map _ _) hD2 (lim_lt rows_le hb) (fun H3 s3 => SqL.of (s3 _ _ h2)) ?_ ?_
  · intro o H3 kf kt ho s3 hf ht
    have x3 := x2.same s3
    obtain ⟨ho1, ho2⟩ := List.mem_filter.mp ho
    obtain ⟨tv, e, t⟩ := x3.hy o (fin o ho1)
    obtain ⟨⟨y, kn⟩, et⟩ := Option.isSome_iff_exists.mp ho2
    rw [et] at t
    obtain ⟨ta, rfl, hta⟩ := t
    refine ⟨ta, [.str y, .int kn], by rw [e]; rfl, SqT.of hta, rfl, _, _, rfl, _, _, rfl, rfl, rfl, _, rfl, _, rfl, _, _, rfl, rfl, _, rfl, ?_⟩
    have e1 : byN (s.pl o) n = decide (kn ≤ n) := by unfold byN; rw [et]
    have e2 : wOf (s.pl o) = y := by unfold wOf; rw [et]
    by_cases c : kn ≤ n
    · rw [decide_eq_true (show ((kn : Nat) : Int) ≤ (n : Int) by omega)]
      refine iteT ⟨_, rfl, ?_⟩
      have := ht (by rw [e1]; exact decide_eq_true c) H3 (Same.refl H3)
      rw [e2] at this
      exact this
    · rw [decide_eq_false (show ¬ ((kn : Nat) : Int) ≤ (n : Int) by omega)]
      exact iteF (hf (by rw [e1]; exact decide_eq_false c) H3 (Same.refl H3))
  intro H3 s3 h3
  have x3 := x2.same s3
  have h3' : H3 D2 = some (.lst ((lawWords s g n).map V.str)) := by rw [h3]; unfold lawWords; rw [List.map_map]; rfl
  have hsl3 := s3 _ _ (s2 _ _ hx1)
  refine ⟨_, rfl, .inl ⟨rfl, _, SqL.of h3'⟩, D2, lawWords s g n, "in", rfl, rfl, SqL.of h3', _, rfl, q, _, rfl, x3.gRoom, _, _, rfl, rfl, _, rfl, ?_⟩
  rw [lawWords_count]
  have hall := ((s1.trans s2).trans s3)
  unfold givenBy at k
  by_cases c : s.size ≤ (heardAs s g "in" (some n)).length
  · rw [if_pos c] at k
    rw [decide_eq_true (show ((s.size : Nat) : Int) ≤ ((heardAs s g "in" (some n)).length : Int) by omega)]
    exact iteT (k H3 hall)
  · rw [if_neg c] at k
    rw [decide_eq_false (show ¬ ((s.size : Nat) : Int) ≤ ((heardAs s g "in" (some n)).length : Int) by omega)]
    refine iteF ⟨_, rfl, sl, _, rfl, .inl (SqL.of hsl3), _, rfl, .inl ⟨rfl, _, SqL.of h3'⟩, D2, lawWords s g n, "out", rfl, rfl, SqL.of h3', _, _, rfl, rfl, _, rfl, q, _, rfl, x3.gRoom, _, _, rfl, rfl, _, rfl, ?_⟩
    rw [lawWords_count, List.length_map, flen]
    by_cases d : (s.line.idxOf g : Int) - (heardAs s g "out" (some n)).length < s.size
    · rw [if_pos d] at k
      rw [decide_eq_true d]
      exact iteT (k H3 hall)
    · rw [if_neg d] at k
      rw [decide_eq_false d]
      exact iteF (k H3 hall)
end
end G
set_option Elab.async false
set_option linter.all false
set_option maxRecDepth 100000
set_option maxHeartbeats 4000000
namespace G
open PySem PySem.Spec PyProof.Rows L2
/-- no word was heard with a number to come -/
def Old (s : S) : Prop := ∀ o, o ∈ s.line → ∀ x n, (s.pl o).told = some (x, n) → n ≤ s.ears
theorem Old.heard {s : S} (h : Old s) (g w : Str) : heardAs s g w (some s.ears) = heardAs s g w none := by
  unfold heardAs
  refine List.filter_congr fun o ho => ?_
  have hl : o ∈ s.line := List.mem_of_mem_take ho
  unfold hit
  cases e : (s.pl o).told with
  | none => rfl
  | some xn =>
    obtain ⟨x, n⟩ := xn
    dsimp only
    rw [decide_eq_true (h o hl x n e)]
theorem Old.given {s : S} (h : Old s) (g : Str) : givenBy s g (some s.ears) = given s g false := by
  show givenBy s g (some s.ears) = givenBy s g none
  unfold givenBy
  rw [h.heard, h.heard]
theorem given_ahead (s : S) (g : Str) : givenBy s g (some (s.pl g).since) = given s g true := rfl
theorem look_old {s : S} (h : Old s) (g : Str) (c : Option Str) : Old (look s g c).1 := by
  rcases look_cases s g c with e | e | ⟨m, e⟩
  · rw [e]; exact h
  · rw [e]
    intro o ho x n
    show (if o = g then _ else s.pl o).told = some (x, n) → n ≤ s.ears
    by_cases z : o = g
    · rw [if_pos z]; rw [z] at ho; exact h g ho x n
    · rw [if_neg z]; exact h o ho x n
  · rw [e]
    intro o ho x n
    show (if o = g then _ else s.pl o).told = some (x, n) → n ≤ s.ears
    by_cases z : o = g
    · rw [if_pos z]; rw [z] at ho; exact h g ho x n
    · rw [if_neg z]; exact h o ho x n
theorem lookF_old (c : Option Str) (l : List Str) : ∀ a : S × List Str, Old a.1 → Old (l.foldl (lookStep c) a).1 := by
  induction l with
  | nil => intro a h; exact h
  | cons g l ih => intro a h; rw [List.foldl_cons]; exact ih _ (look_old h g c)
theorem lookN_old {s : S} (h : Old s) (c : Option Str) (l : List Str) : Old (lookN s c l).1 := lookF_old c l _ h
section
variable {P : Program} {w : World} {K : PySem.W.Frag} {mg : Str → Option Value} {base : Heap}

theorem paired_length {α β : Type} {F : α → β → Prop} : ∀ {l : List α} {m : List β}, Paired F l m → m.length = l.length
  | _, _, .nil => rfl
  | _, _, .cons _ t => by rw [List.length_cons, List.length_cons, paired_length t]
theorem len_vpM {i : Nat} {rl : Rl} {H : Hp} {q : Addr} {b : Nat} {s : S} {m : MA} (x : Mine K i rl H q b s m) (h : b ≤ Lim) : m.vp.length < sizeLine := lim_lt (by rw [paired_length x.pv]; exact x.few.past) h
theorem len_vo {i : Nat} {rl : Rl} {H : Hp} {q : Addr} {b : Nat} {s : S} {m : MA} (x : Mine K i rl H q b s m) (h : b ≤ Lim) : m.vo.length < sizeLine := lim_lt (by rw [paired_length x.ov]; exact x.few.going) h

/-! ### _law_look -/
def spLLook (K : PySem.W.Frag) : Sp := fun vs H Q _ => ∃ (i : Nat) (rl : Rl) (q : Addr) (b : Nat) (s : S) (m : MA) (g : Str) (c : Option Str), vs = [.ref q, .str g, oV c] ∧ Mine K i rl H q b s m ∧ b + 3 ≤ Lim ∧ g ∈ s.line ∧ Old s ∧
  ∀ H' m', Step i rl H rl H' → Mine K i rl H' q (b + 3) (look s g c).1 m' → Q (.bl (look s g c).2) H'
theorem sc_Llook : FnScope ["_law_mine", "_law_guest", "_law_cause", "_law_word"] ["_law_mine", "_law_guest", "_law_cause"] (defScope s_L_look) := ⟨rfl, rfl, rfl, by decide +kernel, rfl, by decide +kernel, by decide +kernel⟩
theorem ok_Llook (T : Txt K mg) : Ok P w K mg base CX0 2 (He.fAd K ("_law_look", none)) ["_law_mine", "_law_guest", "_law_cause"] (spLLook K) := by
  obtain ⟨fd1, G1, b1, k1⟩ := (ok_Lgiven (P := P) (w := w) (base := base) T).ex
  refine Ok.of T.f_L_look sc_Llook (fun _ _ _ _ _ _ us hl => match us, hl with | [_, _, _], _ => rfl) (fun vs H Q E h => by obtain ⟨_, _, _, _, _, _, _, _, rfl, _⟩ := h; rfl) (fun cdv A outer s H vs Q E hr h => ?_)
  obtain ⟨i, rl, q, b, s, m, g, c, rfl, x, hb, hg, old, k⟩ := h
  have hu := hu_of hr
  have nd := sc_Llook.nd
  refine ⟨_, (pss_cons (ps_if (pt_cmp (pc_din hu (pv 1) (pe_dget hu (pv 0) pe_str (fun _ _ => rfl)))) (pss_one (ps_ret pe_bl)) pss_nil)
      (pss_cons (ps_if (pt_cmpR op_notN (pe_dget hu (pe_dget hu (pv 0) pe_str (fun _ _ => rfl)) (pv 1) (fun _ _ => rfl)) pe_non (nomark _)) (pss_cons (ps_if (pt_cmpR op_eq (pe_call G1 hr (by rfl) T.g_L_given k1 b1 .nil pass0 (pa_cons (pv 0) (pa_cons (pv 1) (pa_cons (pe_dget hu (pe_dget hu (pv 0) pe_str (fun _ _ => rfl)) (pv 1) (fun _ _ => rfl)) pa_nil)))) (pe_dget hu (pe_dget hu (pv 0) pe_str (fun _ _ => rfl)) (pv 1) (fun _ _ => rfl)) (nomark _)) (pss_one (ps_ret pe_bl)) pss_nil)
      (pss_cons (ps_asg (pe_tup (pa_cons (pe_non) (pa_cons (pv 2) pa_nil))) (pg_tup rfl (pgs_cons (pg_sub (pe_dget hu (pv 0) pe_str (fun _ _ => rfl)) (pv 1) (set_dict hu)) (pgs_cons (pg_sub (pe_dget hu (pv 0) pe_str (fun _ _ => rfl)) (pv 1) (set_dict hu)) pgs_nil))))
      (pss_cons (ps_expr (pe_bm PySem.F.plainAttrs_list PySem.F.slot_list_append PySem.F.type_list_append mt_append (pe_dget hu (pv 0) pe_str (fun _ _ => rfl)) (pa_cons (pe_tup (pa_cons (pv 1) (pa_cons (pe_non) (pa_cons (pv 2) pa_nil)))) pa_nil)))
      (pss_cons (ps_expr (pe_bm PySem.F.plainAttrs_list PySem.F.slot_list_append PySem.F.type_list_append mt_append (pe_dget hu (pv 0) pe_str (fun _ _ => rfl)) (pa_cons (pe_tup (pa_cons (pv 1) (pa_cons (pe_tup (pa_cons (pe_str) pa_nil)) pa_nil))) pa_nil)))
      (pss_one (ps_ret pe_bl)))))) pss_nil)
      (pss_cons (ps_set (i := 3) nd rfl (Or.inl rfl) (pe_call G1 hr (by rfl) T.g_L_given k1 b1 .nil pass0 (pa_cons (pv 0) (pa_cons (pv 1) (pa_cons (pe_dget hu (pv 0) pe_str (fun _ _ => rfl)) pa_nil)))))
      (pss_cons (ps_if (pt_cmpR op_notN (pv 3) pe_non (nomark _)) (pss_cons (ps_asg (pe_tup (pa_cons (pv 3) (pa_cons (pe_dget hu (pv 0) pe_str (fun _ _ => rfl)) pa_nil))) (pg_tup rfl (pgs_cons (pg_sub (pe_dget hu (pv 0) pe_str (fun _ _ => rfl)) (pv 1) (set_dict hu)) (pgs_cons (pg_sub (pe_dget hu (pv 0) pe_str (fun _ _ => rfl)) (pv 1) (set_dict hu)) pgs_nil))))
      (pss_cons (ps_expr (pe_bm PySem.F.plainAttrs_list PySem.F.slot_list_append PySem.F.type_list_append mt_append (pe_dget hu (pv 0) pe_str (fun _ _ => rfl)) (pa_cons (pe_tup (pa_cons (pv 1) (pa_cons (pv 3) (pa_cons (pe_non) pa_nil)))) pa_nil)))
      (pss_one (ps_expr (pe_bm PySem.F.plainAttrs_list PySem.F.slot_list_append PySem.F.type_list_append mt_append (pe_dget hu (pv 0) pe_str (fun _ _ => rfl)) (pa_cons (pe_tup (pa_cons (pv 1) (pa_cons (pe_tup (pa_cons (pe_str) (pa_cons (pv 3) pa_nil))) pa_nil))) pa_nil)))))) pss_nil)
      (pss_one (ps_ret pe_bl)))))), ?_⟩
  refine ⟨_, rfl, _, rfl, q, _, rfl, x.gOpen, m.op, _, rfl, DGet.k (k := Sum.inr g) x.op.h, _, rfl, ?_⟩
  unfold look at k
  by_cases eo : (s.pl g).opened = true
  · have e1 : valV m.ko (.inr g) = some (oV (s.pl g).source) := by rw [x.oy g, if_pos ⟨hg, eo⟩]
    rw [e1]
    rw [if_pos eo] at k
    exact iteT (k H m Step.refl (x.mono (by omega)))
  · have e1 : valV m.ko (.inr g) = none := by rw [x.oy g, if_neg fun z => eo z.2]
    rw [e1]
    rw [if_neg eo] at k
    have gw : DGet H m.wo (.str g) (some (oV (s.pl g).mark)) := by rw [← x.wy g hg]; exact DGet.k (k := Sum.inr g) x.wo.h
    refine iteF ⟨_, rfl, q, _, rfl, x.gWord, _, rfl, m.wo, _, rfl, gw, rfl, _, rfl, ?_⟩
    cases em : (s.pl g).mark with
    | some mk =>
      rw [em] at k gw
      dsimp only at k
      have ga : DGet H m.ats (.str g) (some (.int (s.pl g).since)) := by rw [← x.ay g hg (by rw [em]; simp)]; exact DGet.k (k := Sum.inr g) x.at_.h
      refine iteT ⟨_, rfl, _, rfl, _, rfl, q, _, rfl, x.gAt, _, rfl, m.ats, _, rfl, ga, i, rl, q, b, s, m, g, (s.pl g).since, rfl, x, by omega, hg, fun H1 s1 => ?_⟩
      have x1 := x.same s1
      have gw1 : DGet H1 m.wo (.str g) (some (.str mk)) := by
        have := x1.wy g hg
        rw [em] at this
        rw [show (V.str mk) = oV (some mk) from rfl, ← this]; exact DGet.k (k := Sum.inr g) x1.wo.h
      rw [given_ahead]
      refine ⟨_, rfl, q, _, rfl, x1.gWord, _, rfl, m.wo, _, rfl, gw1, oV_scal _ (some mk), _, rfl, ?_⟩
      rw [show (V.str mk) = oV (some mk) from rfl, oV_dec]
      by_cases cg : given s g true = some mk
      · rw [decide_eq_true cg]
        rw [if_pos cg] at k
        exact iteT (k H1 m (Step.same s1) (x1.mono (by omega)))
      · rw [decide_eq_false cg]
        rw [if_neg cg] at k
        refine iteF ⟨_, rfl, (by show 2 ≤ sizeLine; decide), fun t ht => ?_⟩
        have s2 := same_upd (o := HO.tup [V.non, oV c]) ht
        have x2 := x1.same s2
        refine ⟨t, [.non, oV c], rfl, SqT.of upd_same, rfl, _, _, rfl, ?_⟩
        generalize upd H1 t (.tup [.non, oV c]) = H2 at s2 x2
        refine ⟨_, rfl, q, _, rfl, x2.gWord, _, rfl, m.wo, _, rfl, DPut.k (k := Sum.inr g) x2.wo.h (lim_lt x2.kwl (by omega)), ?_⟩
        have y := x2.op.upd x2.wo (by intro e; cases e) (o' := .dK (putK m.kw (.inr g) .non))
        have z := x2.self.upd x2.wo (by intro e; cases e) (o' := .dK (putK m.kw (.inr g) .non))
        have gz : DGet (upd H2 m.wo (.dK (putK m.kw (.inr g) .non))) q (.str "open") (some (.ref m.op)) := by rw [← mg_open]; exact DGet.k (k := Sum.inr "open") z.h
        refine ⟨_, _, rfl, _, rfl, q, _, rfl, gz, _, rfl, m.op, _, rfl, DPut.k (k := Sum.inr g) y.h (lim_lt x2.kol (by omega)), rfl, ?_⟩
        have x3 := x2.giveUp (c := c) hg
        have t3 : Step i rl H2 rl _ := (Step.write x2.wo (fun z => z) (o' := .dK (putK m.kw (.inr g) .non))).trans (Step.write y (fun z => z) (o' := .dK (putK m.ko (.inr g) (oV c))))
        have t13 := (Step.same s1).trans ((Step.same s2).trans t3)
        generalize hH3 : upd (upd H2 m.wo (.dK (putK m.kw (.inr g) .non))) m.op (.dK (putK m.ko (.inr g) (oV c))) = H3 at x3 t13
        generalize hm3 : ({ m with kw := putK m.kw (.inr g) .non, ko := putK m.ko (.inr g) (oV c) } : MA) = m3 at x3
        refine ⟨_, rfl, q, _, rfl, x3.gPast, .inl ⟨rfl, _, SqL.of x3.pa.h⟩, _, rfl, _, rfl, (by show 3 ≤ sizeLine; decide), fun t4 ht4 => ?_⟩
        have s4 := same_upd (o := HO.tup [V.str g, V.non, oV c]) ht4
        have x4 := x3.same s4
        refine ⟨m3.pa, _, _, rfl, rfl, x4.pa.h, len_vpM x4 (by omega), ?_⟩
        have x5 := x4.note (g := g) (w := none) (n := c) ⟨t4, rfl, upd_same⟩
        have t5 := Step.write x4.pa (fun z => z) (o' := .lst (m3.vp ++ [V.ref t4]))
        have t15 := t13.trans ((Step.same s4).trans t5)
        generalize upd (upd H3 t4 (.tup [V.str g, V.non, oV c])) m3.pa (.lst (m3.vp ++ [V.ref t4])) = H5 at x5 t15
        generalize ({ m3 with vp := m3.vp ++ [V.ref t4] } : MA) = m5 at x5
        refine ⟨_, rfl, q, _, rfl, x5.gOut, .inl ⟨rfl, _, SqL.of x5.ou.h⟩, _, rfl, (by show 1 ≤ sizeLine; decide), fun u6 hu6 => ⟨(by show 2 ≤ sizeLine; decide), fun t6 ht6 => ?_⟩⟩
        have s6 := (same_upd (o := HO.tup [V.str "open"]) hu6).trans (same_upd (o := HO.tup [V.str g, V.ref u6]) ht6)
        have nut : u6 ≠ t6 := ne_of_none upd_same ht6
        have hu7 : upd (upd H5 u6 (.tup [V.str "open"])) t6 (.tup [V.str g, V.ref u6]) u6 = some (.tup (lOpen.map V.str)) := by rw [upd_ne nut]; exact upd_same
        have x6 := x5.same s6
        refine ⟨m5.ou, _, _, rfl, rfl, x6.ou.h, len_vo x6 (by omega), ?_⟩
        have x7 := x6.say (g := g) (l := lOpen) ⟨t6, u6, rfl, upd_same, .inl hu7⟩
        have t7 := Step.write x6.ou (fun z => z) (o' := .lst (m5.vo ++ [V.ref t6]))
        exact k _ _ (t15.trans ((Step.same s6).trans t7)) x7
    | none =>
      rw [em] at k
      dsimp only at k
      refine iteF ⟨_, rfl, _, rfl, _, rfl, q, _, rfl, x.gCount, i, rl, q, b, s, m, g, s.ears, rfl, x, by omega, hg, fun H1 s1 => ?_⟩
      rw [old.given]
      have x1 := x.same s1
      cases egv : given s g false with
      | none =>
        rw [egv] at k
        exact ⟨_, rfl, rfl, _, rfl, iteF (k H1 m (Step.same s1) (x1.mono (by omega)))⟩
      | some wd =>
        rw [egv] at k
        dsimp only at k
        rw [show oV (some wd) = V.str wd from rfl]
        refine ⟨_, rfl, rfl, _, rfl, iteT ⟨_, rfl, _, rfl, q, _, rfl, x1.gCount, (by show 2 ≤ sizeLine; decide), fun t ht => ?_⟩⟩
        have s2 := same_upd (o := HO.tup [V.str wd, V.int s.ears]) ht
        have x2 := x1.same s2
        refine ⟨t, [.str wd, .int s.ears], rfl, SqT.of upd_same, rfl, _, _, rfl, ?_⟩
        generalize upd H1 t (.tup [V.str wd, V.int s.ears]) = H2 at s2 x2
        refine ⟨_, rfl, q, _, rfl, x2.gWord, _, rfl, m.wo, _, rfl, DPut.k (k := Sum.inr g) x2.wo.h (lim_lt x2.kwl (by omega)), ?_⟩
        have y := x2.at_.upd x2.wo (by intro e; cases e) (o' := .dK (putK m.kw (.inr g) (.str wd)))
        have z := x2.self.upd x2.wo (by intro e; cases e) (o' := .dK (putK m.kw (.inr g) (.str wd)))
        have gz : DGet (upd H2 m.wo (.dK (putK m.kw (.inr g) (.str wd)))) q (.str "at") (some (.ref m.ats)) := by rw [← mg_at]; exact DGet.k (k := Sum.inr "at") z.h
        refine ⟨_, _, rfl, _, rfl, q, _, rfl, gz, _, rfl, m.ats, _, rfl, DPut.k (k := Sum.inr g) y.h (lim_lt x2.kal (by omega)), rfl, ?_⟩
        have x3 := x2.settle (g := g) (w := wd) (Bool.eq_false_iff.mpr eo)
        have t3 : Step i rl H2 rl _ := (Step.write x2.wo (fun z => z) (o' := .dK (putK m.kw (.inr g) (.str wd)))).trans (Step.write y (fun z => z) (o' := .dK (putK m.ka (.inr g) (.int s.ears))))
        have t13 := (Step.same s1).trans ((Step.same s2).trans t3)
        generalize hH3 : upd (upd H2 m.wo (.dK (putK m.kw (.inr g) (.str wd)))) m.ats (.dK (putK m.ka (.inr g) (.int s.ears))) = H3 at x3 t13
        generalize hm3 : ({ m with kw := putK m.kw (.inr g) (.str wd), ka := putK m.ka (.inr g) (.int s.ears) } : MA) = m3 at x3
        refine ⟨_, rfl, q, _, rfl, x3.gPast, .inl ⟨rfl, _, SqL.of x3.pa.h⟩, _, rfl, _, rfl, (by show 3 ≤ sizeLine; decide), fun t4 ht4 => ?_⟩
        have s4 := same_upd (o := HO.tup [V.str g, V.str wd, V.non]) ht4
        have x4 := x3.same s4
        refine ⟨m3.pa, _, _, rfl, rfl, x4.pa.h, len_vpM x4 (by omega), ?_⟩
        have x5 := x4.note (g := g) (w := some wd) (n := none) (v := .ref t4) ⟨t4, rfl, upd_same⟩
        have t5 := Step.write x4.pa (fun z => z) (o' := .lst (m3.vp ++ [V.ref t4]))
        have t15 := t13.trans ((Step.same s4).trans t5)
        generalize upd (upd H3 t4 (.tup [V.str g, V.str wd, V.non])) m3.pa (.lst (m3.vp ++ [V.ref t4])) = H5 at x5 t15
        generalize ({ m3 with vp := m3.vp ++ [V.ref t4] } : MA) = m5 at x5
        refine ⟨_, rfl, q, _, rfl, x5.gOut, .inl ⟨rfl, _, SqL.of x5.ou.h⟩, _, rfl, _, rfl, (by show 2 ≤ sizeLine; decide), fun u6 hu6 => ⟨(by show 2 ≤ sizeLine; decide), fun t6 ht6 => ?_⟩⟩
        have s6 := (same_upd (o := HO.tup [V.str "word", V.str wd]) hu6).trans (same_upd (o := HO.tup [V.str g, V.ref u6]) ht6)
        have nut : u6 ≠ t6 := ne_of_none upd_same ht6
        have hu7 : upd (upd H5 u6 (.tup [V.str "word", V.str wd])) t6 (.tup [V.str g, V.ref u6]) u6 = some (.tup ((lWord wd).map V.str)) := by rw [upd_ne nut]; exact upd_same
        have x6 := x5.same s6
        refine ⟨m5.ou, _, _, rfl, rfl, x6.ou.h, len_vo x6 (by omega), ?_⟩
        have x7 := x6.say (g := g) (l := lWord wd) ⟨t6, u6, rfl, upd_same, .inl hu7⟩
        have t7 := Step.write x6.ou (fun z => z) (o' := .lst (m5.vo ++ [V.ref t6]))
        exact k _ _ (t15.trans ((Step.same s6).trans t7)) x7
end
end G
set_option Elab.async false
set_option linter.all false
set_option maxRecDepth 100000
set_option maxHeartbeats 4000000
namespace G
open PySem PySem.Spec PyProof.Rows L2
section
variable {P : Program} {w : World} {K : PySem.W.Frag} {mg : Str → Option Value} {base : Heap}

/-! ### _law_look_all -/
def spLAll (K : PySem.W.Frag) : Sp := fun vs H Q _ => ∃ (i : Nat) (rl : Rl) (q : Addr) (b : Nat) (s : S) (m : MA), vs = [.ref q] ∧ Mine K i rl H q b s m ∧ b + 3 * s.line.length ≤ Lim ∧ Old s ∧
  ∀ rl' H' m', Step i rl H rl' H' → Mine K i rl' H' q (b + 3 * s.line.length) (lookAll s) m' → Q .non H'
theorem sc_Lall : FnScope ["_law_mine", "_law_guest"] ["_law_mine"] (defScope s_L_look_all) := ⟨rfl, rfl, rfl, by decide +kernel, rfl, by decide +kernel, by decide +kernel⟩
theorem ok_Lall (T : Txt K mg) : Ok P w K mg base CX0 3 (He.fAd K ("_law_look_all", none)) ["_law_mine"] (spLAll K) := by
  obtain ⟨fd1, G1, b1, k1⟩ := (ok_Llook (P := P) (w := w) (base := base) T).ex
  refine Ok.of T.f_L_look_all sc_Lall (fun _ _ _ _ _ _ us hl => match us, hl with | [_], _ => rfl) (fun vs H Q E h => by obtain ⟨_, _, _, _, _, _, rfl, _⟩ := h; rfl) (fun cdv A outer s H vs Q E hr h => ?_)
  obtain ⟨i, rl, q, b, s, m, rfl, x, hb, old, k⟩ := h
  have hu := hu_of hr
  refine ⟨_, (pss_one (ps_for PassesOwn.never rfl (pi_list (pe_callTy call_list_of (by rfl) T.n_list (by decide +kernel) (pa_cons (pe_dget hu (pv 0) pe_str (fun _ _ => rfl)) pa_nil))) (pg_name (i := 1) sc_Lall.nd rfl (Or.inl rfl)) (pss_one (ps_expr (pe_call G1 hr (by rfl) T.g_L_look k1 b1 .nil pass0 (pa_cons (pv 0) (pa_cons (pv 1) (pa_cons (pe_non) pa_nil)))))))), ?_⟩
  refine ⟨_, rfl, q, _, rfl, x.gLine, m.l, _, rfl, .inl (SqL.of x.line.h), fun D hD => ⟨D, rfl, ⟨_, SqL.of upd_same⟩, ?_⟩⟩
  have s1 := same_upd (o := HO.lst (s.line.map V.str)) hD
  have x1 : Mine K i (setR rl D none) (upd H D (.lst (s.line.map V.str))) q b s m := x.tr (fun _ _ _ z => (z.role hD).same s1) (sameTk s1)
  have t1 : Step i rl H (setR rl D none) (upd H D (.lst (s.line.map V.str))) := Step.own hD
  have rD : setR rl D none D = none := setR_same
  have hx : upd H D (.lst (s.line.map V.str)) D = some (.lst (s.line.map V.str)) := upd_same
  generalize setR rl D none = rl1 at x1 t1 rD
  generalize upd H D (.lst (s.line.map V.str)) = H1 at x1 t1 hx
  refine for_list (K := K) (a := D) (xs := s.line.map V.str) (fun k σ H2 => ∃ (m2 : MA) (v1 : Option V), σ = [some (.ref q), v1] ∧ Step i rl1 H1 rl1 H2 ∧ Mine K i rl1 H2 q (b + 3 * k) (lookN s none (s.line.take k)).1 m2) ⟨m, none, rfl, Step.refl, x1⟩
    (fun k σ H2 _ ⟨_, _, _, t2, _⟩ => SqL.of (t2.keep _ _ hx (.inl fun r e => by rw [rD] at e; cases e))) ?_ ?_
  · rintro j v σ H2 hj ⟨m2, v1, rfl, t2, x2⟩
    rw [List.getElem?_map] at hj
    obtain ⟨g, hg, rfl⟩ := Option.map_eq_some_iff.mp hj
    have hjl : j < s.line.length := (List.getElem?_eq_some_iff.mp hg).1
    refine ⟨_, rfl, _, rfl, i, rl1, q, _, _, m2, g, none, rfl, x2, by omega, by rw [lookN_line]; exact List.mem_of_getElem? hg, lookN_old old _ _, fun H3 m3 t3 x3 => ?_⟩
    refine ⟨m3, _, rfl, t2.trans t3, ?_⟩
    rw [take_succ_at hg, lookN_snoc]
    exact x3
  · rintro σ H2 ⟨m2, v1, rfl, t2, x2⟩
    rw [List.length_map, List.take_length] at x2
    exact k rl1 H2 m2 (t1.trans t2) x2

/-! ### _law_behind -/
def spLBehind (K : PySem.W.Frag) : Sp := fun vs H Q _ => ∃ (i : Nat) (rl : Rl) (q : Addr) (b : Nat) (s : S) (m : MA) (g : Str), vs = [.ref q, .str g] ∧ Mine K i rl H q b s m ∧ b + 3 * s.line.length ≤ Lim ∧ g ∈ s.line ∧ Old s ∧
  ∀ rl' H' m' D, Step i rl H rl' H' → Mine K i rl' H' q (b + 3 * s.line.length) (lookN s (some g) (behind s g)).1 m' → rl' D = none → H D = none → H' D = some (.lst ((lookN s (some g) (behind s g)).2.map .str)) → Q (.ref D) H'
theorem sc_Lbehind : FnScope ["_law_mine", "_law_guest", "_law_behind_here", "_law_other"] ["_law_mine", "_law_guest"] (defScope s_L_behind) := ⟨rfl, rfl, rfl, by decide +kernel, rfl, by decide +kernel, by decide +kernel⟩
theorem ok_Lbehind (T : Txt K mg) : Ok P w K mg base CX0 3 (He.fAd K ("_law_behind", none)) ["_law_mine", "_law_guest"] (spLBehind K) := by
  obtain ⟨fd1, G1, b1, k1⟩ := (ok_Llook (P := P) (w := w) (base := base) T).ex
  refine Ok.of T.f_L_behind sc_Lbehind (fun _ _ _ _ _ _ us hl => match us, hl with | [_, _], _ => rfl) (fun vs H Q E h => by obtain ⟨_, _, _, _, _, _, _, rfl, _⟩ := h; rfl) (fun cdv A outer s H vs Q E hr h => ?_)
  obtain ⟨i, rl, q, b, s, m, g, rfl, x, hb, hg, old, k⟩ := h
  have hu := hu_of hr
  refine ⟨_, (pss_cons (ps_set (i := 2) sc_Lbehind.nd rfl (Or.inl rfl) (pe_slice sl_list (pe_dget hu (pv 0) pe_str (fun _ _ => rfl)) (po_some (pe_op op_add (pe_bm PySem.F.plainAttrs_list PySem.F.slot_list_index PySem.F.type_list_index mt_indexS (pe_dget hu (pv 0) pe_str (fun _ _ => rfl)) (pa_cons (pv 1) pa_nil)) pe_int)) po_none))
      (pss_one (ps_ret (pe_lc (own := [("_law_other", 3)]) (g := gName 3) (tt := tB (tCall (spLLook K) [] E0 (tCons (tVar 0) (tCons (tVar 3) (tCons (tVar 1) tNil))))) (te := tVar 3) rfl sc_Lbehind.nd (pi_list (pv 2)) (blkOk_by (N := ["_law_mine", "_law_guest", "_law_behind_here", "_law_other"]) (sc := defScope s_L_behind) (by decide +kernel))
        (fun _ _ _ _ _ => pg_name (i := 3) sc_Lbehind.nd rfl (Or.inl rfl)) (fun _ _ _ _ _ => pts_one (pt_val (pe_call G1 hr (by rfl) T.g_L_look k1 b1 .nil pass0 (pa_cons (pv 0) (pa_cons (pv 3) (pa_cons (pv 1) pa_nil)))))) (fun _ _ _ _ _ => pv 3))))), ?_⟩
  refine ⟨_, rfl, q, _, rfl, x.gLine, _, rfl, q, _, rfl, x.gLine, .inl ⟨rfl, _, SqL.of x.line.h⟩, _, rfl, m.l, s.line, g, rfl, rfl, SqL.of x.line.h, hg, _, _, rfl, rfl, _, rfl, m.l, _, rfl, SqL.of x.line.h, fun sl hsl => ?_⟩
  rw [show ((s.line.idxOf g : Nat) : Int) + 1 = ((s.line.idxOf g + 1 : Nat) : Int) from by push_cast; rfl, cut_from, ← List.map_drop]
  have s1 := same_upd (o := HO.lst ((behind s g).map V.str)) hsl
  refine ⟨_, rfl, sl, rfl, ⟨_, SqL.of upd_same⟩, fun D hD => ?_⟩
  have x1 : Mine K i (setR rl sl none) (upd H sl (.lst ((behind s g).map V.str))) q b s m := x.tr (fun _ _ _ z => (z.role hsl).fresh hsl) (sameTk s1)
  have x2 : Mine K i (setR (setR rl sl none) D none) (upd (upd H sl (.lst ((behind s g).map V.str))) D (.lst [])) q b s m := x1.tr (fun _ _ _ z => (z.role hD).fresh hD) (sameTk (same_upd hD))
  have nsD : sl ≠ D := ne_of_none upd_same hD
  have t1 : Step i rl H (setR rl sl none) (upd H sl (.lst ((behind s g).map V.str))) := Step.own hsl
  have t2 : Step i (setR rl sl none) (upd H sl (.lst ((behind s g).map V.str))) (setR (setR rl sl none) D none) (upd (upd H sl (.lst ((behind s g).map V.str))) D (.lst [])) := Step.own hD
  have rD : setR (setR rl sl none) D none D = none := setR_same
  have rs : setR (setR rl sl none) D none sl = none := by rw [setR_ne nsD, setR_same]
  have hDn : H D = none := s1.free hD
  generalize setR (setR rl sl none) D none = rl2 at x2 t2 rD rs
  refine lc_list (K := K) (a := sl) (xs := (behind s g).map V.str) (fun j H2 => ∃ m2, Step i rl H rl2 H2 ∧ Mine K i rl2 H2 q (b + 3 * j) (lookN s (some g) ((behind s g).take j)).1 m2 ∧ H2 sl = some (.lst ((behind s g).map V.str)) ∧ H2 D = some (.lst ((lookN s (some g) ((behind s g).take j)).2.map V.str)))
    ⟨m, t1.trans t2, x2, by rw [upd_ne nsD]; exact upd_same, upd_same⟩ (fun j H2 _ ⟨_, _, _, e, _⟩ => SqL.of e) ?_ ?_
  · rintro j v H2 hj ⟨m2, t3, x3, es, eD⟩
    rw [List.getElem?_map] at hj
    obtain ⟨o, ho, rfl⟩ := Option.map_eq_some_iff.mp hj
    have hjl : j < (behind s g).length := (List.getElem?_eq_some_iff.mp ho).1
    have hle := behind_le s g
    have hol : o ∈ s.line := List.mem_of_mem_drop (List.mem_of_getElem? ho)
    have e1 : lookN s (some g) ((behind s g).take (j + 1)) = lookStep (some g) (lookN s (some g) ((behind s g).take j)) o := by rw [take_succ_at ho, lookN_snoc]
    have hln := lookN_len s (some g) ((behind s g).take j)
    have hlt := List.length_take_le j (behind s g)
    have hll : (lookN s (some g) ((behind s g).take j)).1.line = s.line := lookN_line _ _ _
    have old2 := lookN_old old (some g) ((behind s g).take j)
    refine ⟨rfl, _, rfl, _, rfl, _, rfl, i, rl2, q, _, _, m2, o, some g, rfl, x3, by omega, by rw [hll]; exact hol, old2, fun H4 m4 t4 x4 => ?_⟩
    have es4 : H4 sl = _ := t4.keep _ _ es (.inl fun r e => by rw [rs] at e; cases e)
    have eD4 : H4 D = _ := t4.keep _ _ eD (.inl fun r e => by rw [rD] at e; cases e)
    rw [e1]
    refine ⟨_, rfl, ?_⟩
    unfold lookStep
    generalize lookN s (some g) ((behind s g).take j) = sk at x4 eD4 hln
    cases eb : (look sk.1 o (some g)).2 with
    | false => exact iteF ⟨m4, t3.trans t4, x4, es4, eD4⟩
    | true =>
      refine iteT ⟨_, rfl, _, eD4, by rw [List.length_map]; exact lim_lt (Nat.le_trans hln (Nat.le_trans hlt (Nat.le_trans (show j ≤ b + 3 * s.line.length by omega) (Nat.le_refl _)))) hb, m4, ?_, ?_, ?_, ?_⟩
      · exact (t3.trans t4).side hDn
      · exact x4.tr (fun _ _ _ z => z.side rD) (tk_upd fun xs e => by rw [eD4] at e; cases e)
      · rw [upd_ne nsD]; exact es4
      · rw [upd_same, if_pos rfl, List.map_append]; rfl
  · rintro H2 ⟨m2, t3, x3, es, eD⟩
    rw [List.length_map, List.take_length] at x3 eD
    exact k rl2 H2 m2 D t3 (x3.mono (by have := behind_le s g; omega)) rD hDn eD

/-! ### _law_paid -/
theorem payF_debts_none (g : Str) (l : List Str) (x : Str) : ∀ s : S, s.debts x = none → (l.foldl (pay g) s).debts x = none := by
  induction l with
  | nil => intro s h; exact h
  | cons o l ih =>
    intro s h
    refine ih _ ?_
    by_cases e : x = o
    · subst e
      have e2 : pay g s x = s := by unfold pay; rw [h]
      rw [e2]; exact h
    · rw [pay_other g s o x e]; exact h
def spLPaid (K : PySem.W.Frag) : Sp := fun vs H Q _ => ∃ (i : Nat) (rl : Rl) (q : Addr) (b : Nat) (s : S) (m : MA) (g : Str), vs = [.ref q, .str g] ∧ Mine K i rl H q b s m ∧ b + 2 * s.line.length ≤ Lim ∧
  ∀ rl' H' m', Step i rl H rl' H' → Mine K i rl' H' q (b + 2 * s.line.length) (noMore s g) m' → Q .non H'
theorem sc_Lpaid : FnScope ["_law_mine", "_law_guest", "_law_other", "_law_one"] ["_law_mine", "_law_guest"] (defScope s_L_paid) := ⟨rfl, rfl, rfl, by decide +kernel, rfl, by decide +kernel, by decide +kernel⟩
theorem ok_Lpaid (T : Txt K mg) : Ok P w K mg base CX0 1 (He.fAd K ("_law_paid", none)) ["_law_mine", "_law_guest"] (spLPaid K) := by
  refine Ok.of T.f_L_paid sc_Lpaid (fun _ _ _ _ _ _ us hl => match us, hl with | [_, _], _ => rfl) (fun vs H Q E h => by obtain ⟨_, _, _, _, _, _, _, rfl, _⟩ := h; rfl) (fun cdv A outer s H vs Q E hr h => ?_)
  obtain ⟨i, rl, q, b, s, m, g, rfl, x, hb, k⟩ := h
  have hu := hu_of hr
  have hu2 := hr.units
  have nd := sc_Lpaid.nd
  refine ⟨_, (pss_one (ps_for PassesOwn.never rfl (pi_list (pe_callTy call_list_of (by rfl) T.n_list (by decide +kernel) (pa_cons (pe_dget hu (pv 0) pe_str (fun _ _ => rfl)) pa_nil))) (pg_name (i := 2) nd rfl (Or.inl rfl)) (pss_one (ps_if (pt_cmpR op_inS (pv 1) (pe_dget2 hu (pe_dget hu (pv 0) pe_str (fun _ _ => rfl)) (pv 2) (pe_lst pa_nil) ⟨rfl, rfl, rfl, rfl⟩) (by rfl)) (pss_cons (ps_dput hu (pe_dget hu (pv 0) pe_str (fun _ _ => rfl)) (pv 2) (pe_lc (own := [("_law_one", 3)]) (g := gName 3) (tt := tB (tOp rNe (tVar 3) (tVar 1))) (te := tVar 3) rfl nd (pi_list (pe_dget hu (pe_dget hu (pv 0) pe_str (fun _ _ => rfl)) (pv 2) (fun _ _ => rfl))) (blkOk_by (N := ["_law_mine", "_law_guest", "_law_other", "_law_one"]) (sc := defScope s_L_paid) (by decide +kernel))
          (fun _ _ _ _ _ => pg_name (i := 3) nd rfl (Or.inl rfl)) (fun _ _ _ _ _ => pts_one (pt_cmpR op_ne (pv 3) (pv 1) (nomark _))) (fun _ _ _ _ _ => pv 3)) rfl)
      (pss_one (ps_if (pt_cmpR (op_eqP hu2) (pe_dget hu (pe_dget hu (pv 0) pe_str (fun _ _ => rfl)) (pv 2) (fun _ _ => rfl)) (pe_lst pa_nil) (nomark _)) (pss_cons (ps_expr (pe_dpop1 (pe_dget hu (pv 0) pe_str (fun _ _ => rfl)) (pv 2) ⟨rfl, rfl, rfl, rfl⟩))
      (pss_one (ps_expr (pe_bm PySem.F.plainAttrs_list PySem.F.slot_list_append PySem.F.type_list_append mt_append (pe_dget hu (pv 0) pe_str (fun _ _ => rfl)) (pa_cons (pe_tup (pa_cons (pv 2) (pa_cons (pe_tup (pa_cons (pe_str) pa_nil)) pa_nil))) pa_nil))))) pss_nil))) pss_nil)))), ?_⟩
  refine ⟨_, rfl, q, _, rfl, x.gLine, m.l, _, rfl, .inl (SqL.of x.line.h), fun D hD => ⟨D, rfl, ⟨_, SqL.of upd_same⟩, ?_⟩⟩
  have s1 := same_upd (o := HO.lst (s.line.map V.str)) hD
  have x1 : Mine K i (setR rl D none) (upd H D (.lst (s.line.map V.str))) q b s m := x.tr (fun _ _ _ z => (z.role hD).same s1) (sameTk s1)
  have t1 : Step i rl H (setR rl D none) (upd H D (.lst (s.line.map V.str))) := Step.own hD
  have rD : setR rl D none D = none := setR_same
  have hx : upd H D (.lst (s.line.map V.str)) D = some (.lst (s.line.map V.str)) := upd_same
  generalize setR rl D none = rl1 at x1 t1 rD
  generalize upd H D (.lst (s.line.map V.str)) = H1 at x1 t1 hx
  refine for_list (K := K) (a := D) (xs := s.line.map V.str) (fun k σ H2 => ∃ (rl2 : Rl) (m2 : MA) (v1 : Option V), σ = [some (.ref q), some (.str g), v1, none] ∧ Step i rl H rl2 H2 ∧ Mine K i rl2 H2 q (b + 2 * k) ((s.line.take k).foldl (pay g) s) m2 ∧ rl2 D = none ∧ H2 D = some (.lst (s.line.map V.str)))
    ⟨rl1, m, none, rfl, t1, x1, rD, hx⟩ (fun k σ H2 _ ⟨_, _, _, _, _, _, _, e⟩ => SqL.of e) ?_ ?_
  · rintro j v σ H2 hj ⟨rl2, m2, v1, rfl, t2, x2, rD2, eD2⟩
    rw [List.getElem?_map] at hj
    obtain ⟨o, ho, rfl⟩ := Option.map_eq_some_iff.mp hj
    have hjl : j < s.line.length := (List.getElem?_eq_some_iff.mp ho).1
    have e1 : (s.line.take (j + 1)).foldl (pay g) s = pay g ((s.line.take j).foldl (pay g) s) o := by rw [take_succ_at ho, List.foldl_append]; rfl
    rw [e1]
    generalize (s.line.take j).foldl (pay g) s = sk at x2
    have hde := x2.de o
    refine ⟨_, rfl, _, rfl, q, _, rfl, x2.gOwe, m2.ow, rfl, .inl ⟨_, .inl x2.ow.h⟩, _, rfl, (by show 0 ≤ sizeLine; decide), fun nl hnl => ?_⟩
    have s3 := same_upd (o := HO.lst []) hnl
    have nDn : D ≠ nl := ne_of_none eD2 hnl
    have x3 : Mine K i (setR rl2 nl none) (upd H2 nl (.lst [])) q (b + 2 * j) sk m2 := x2.tr (fun _ _ _ z => (z.role hnl).same s3) (sameTk s3)
    have t3 : Step i rl H (setR rl2 nl none) (upd H2 nl (.lst [])) := t2.trans (Step.own hnl)
    have rD3 : setR rl2 nl none D = none := by rw [setR_ne nDn]; exact rD2
    have eD3 : upd H2 nl (.lst []) D = _ := s3 _ _ eD2
    have hx3 : upd H2 nl (.lst []) nl = some (.lst (([] : List Str).map V.str)) := upd_same
    generalize setR rl2 nl none = rl3 at x3 t3 rD3
    generalize upd H2 nl (.lst []) = H3 at x3 t3 eD3 hx3
    refine ⟨_, DGet.k (k := Sum.inr o) x3.ow.h, ?_⟩
    cases ed : sk.debts o with
    | none =>
      rw [ed] at hde
      have hde' : valV m2.kd (.inr o) = none := hde
      rw [hde']
      refine ⟨nl, [], g, rfl, rfl, .inl (SqL.of hx3), _, rfl, ?_⟩
      rw [if_neg Bool.false_ne_true, decide_eq_false (by simp)]
      have e2 : pay g sk o = sk := by unfold pay; rw [ed]
      rw [e2]
      exact iteF ⟨rl3, m2, _, rfl, t3, x3.mono (by omega), rD3, eD3⟩
    | some ds =>
      have hde3 := x3.de o
      rw [ed] at hde3
      obtain ⟨da, hda, cda⟩ := hde3
      rw [hda]
      have hdsl : ds.length ≤ b + 2 * j := x3.few.debts o ds ed
      refine ⟨da, ds, g, rfl, rfl, .inl (SqL.of cda.h), _, rfl, ?_⟩
      rw [if_neg Bool.false_ne_true]
      unfold pay
      rw [ed]
      dsimp only
      by_cases hg : g ∈ ds
      case neg =>
        rw [decide_eq_false hg, if_neg hg]
        exact iteF ⟨rl3, m2, _, rfl, t3, x3.mono (by omega), rD3, eD3⟩
      rw [decide_eq_true hg, if_pos hg]
      refine iteT ⟨_, rfl, q, _, rfl, x3.gOwe, _, rfl, m2.ow, .ref da, rfl, by rw [← hda]; exact DGet.k (k := Sum.inr o) x3.ow.h, da, rfl, ⟨_, SqL.of cda.h⟩, fun lf hlf => ?_⟩
      refine lc_pure 3 ds V.str (fun y => decide (y ≠ g)) V.str (walk_strs ds) (yat_str ds) hlf (lim_lt hdsl (by omega)) (fun H4 s4 => SqL.of (s4 _ _ cda.h)) (fun _ => rfl) ?_ ?_ ?_
      · intro y H4 kk hy s4 hkk
        refine ⟨_, rfl, _, rfl, rfl, _, rfl, ?_⟩
        have e : (!decide (V.str y = V.str g)) = decide (y ≠ g) := by
          by_cases z : y = g
          · subst z; simp
          · rw [decide_eq_false (fun q => z (by cases q; rfl)), decide_eq_true z]; rfl
        rw [e]
        exact hkk H4 (Same.refl H4)
      · intro y H4 kk hy _ s4 hkk
        exact ⟨_, rfl, hkk H4 (Same.refl H4)⟩
      intro H4 s4 e4
      have hlfH : H lf = none := t3.was_free hlf
      have x4 : Mine K i (setR rl3 lf none) H4 q (b + 2 * j) sk m2 := x3.tr (fun _ _ _ z => (z.role hlf).same s4) (sameTk s4)
      have t4 : Step i rl H (setR rl3 lf none) H4 := t3.trans ((Step.claim hlf).thenSame s4)
      have nDl : D ≠ lf := ne_of_none eD3 hlf
      have rl4 : setR rl3 lf none lf = none := setR_same
      have rD4 : setR rl3 lf none D = none := by rw [setR_ne nDl]; exact rD3
      have eD4 := s4 _ _ eD3
      generalize setR rl3 lf none = rl4' at x4 t4 rl4 rD4
      have hfl : (ds.filter fun y => decide (y ≠ g)).length ≤ b + 2 * j := Nat.le_trans (List.length_filter_le _ _) hdsl
      refine ⟨_, rfl, q, _, rfl, x4.gOwe, _, rfl, m2.ow, _, rfl, DPut.k (k := Sum.inr o) x4.ow.h (lim_lt x4.kdl (by omega)), ?_⟩
      have ra : ∀ r, rl4' lf ≠ some (i, r) := fun r e => by rw [rl4] at e; cases e
      have x5 := x4.setDebt (o := o) ra e4 hfl
      have t5 := (t4.trans (Step.write x4.ow (fun z => z) (o' := .dK (putK m2.kd (.inr o) (.ref lf))))).give (b := lf) hlfH (v := some (i, .debt o))
      have rD5 : setR rl4' lf (some (i, R.debt o)) D = none := by rw [setR_ne nDl]; exact rD4
      have eD5 : (upd H4 m2.ow (.dK (putK m2.kd (.inr o) (.ref lf)))) D = some (.lst (s.line.map V.str)) := by
        rw [upd_ne fun e => by have z := x4.ow.r; rw [← e, rD4] at z; cases z]; exact eD4
      have e5 : (upd H4 m2.ow (.dK (putK m2.kd (.inr o) (.ref lf)))) lf = some (.lst ((ds.filter fun y => decide (y ≠ g)).map V.str)) := by
        rw [upd_ne fun e => by have z := x4.ow.r; rw [← e, rl4] at z; cases z]; exact e4
      have g5 : valV (putK m2.kd (.inr o) (.ref lf)) (.inr o) = some (.ref lf) := by rw [valV_put, if_pos rfl]
      generalize setR rl4' lf (some (i, R.debt o)) = rl5 at x5 t5 rD5
      generalize upd H4 m2.ow (.dK (putK m2.kd (.inr o) (.ref lf))) = H5 at x5 t5 eD5 e5
      generalize putK m2.kd (.inr o) (.ref lf) = kd5 at x5 g5
      refine ⟨_, rfl, q, _, rfl, x5.gOwe, _, rfl, m2.ow, .ref lf, rfl, by rw [← g5]; exact DGet.k (k := Sum.inr o) x5.ow.h, (by show 0 ≤ sizeLine; decide), fun el0 hel => ?_⟩
      have s6 := same_upd (o := HO.lst []) hel
      refine ⟨lS (ds.filter fun y => decide (y ≠ g)), lS [], dp_lst (SqL.of (s6 _ _ e5)), dp_lst (SqL.of upd_same), plain_lS _, plain_lS _, by rw [depth_lS]; decide, _, rfl, ?_⟩
      rw [eqv_lS]
      have x6 := x5.same s6
      have t6 := t5.thenSame s6
      have eD6 := s6 _ _ eD5
      generalize upd H5 el0 (.lst []) = H6 at x6 t6 eD6
      by_cases hem : (ds.filter fun y => decide (y ≠ g)) = []
      · rw [decide_eq_true hem, if_pos hem]
        refine iteT ⟨_, rfl, q, _, rfl, x6.gOwe, m2.ow, rfl, .inl ⟨_, .inl x6.ow.h⟩, _, rfl, kd5, Sum.inr o, _, x6.ow.h, rfl, g5, ?_⟩
        have x7 := x6.delDebt (o := o)
        have t7 := t6.trans (Step.write x6.ow (fun z => z) (o' := .dK (dropK kd5 (.inr o))))
        have e7 : (sk.setDebt o (some (ds.filter fun y => decide (y ≠ g)))).setDebt o none = sk.setDebt o none := by
          unfold S.setDebt
          congr 1
          funext y
          by_cases z : y = o
          · rw [if_pos z, if_pos z]
          · rw [if_neg z, if_neg z]
            exact if_neg z
        rw [e7] at x7
        have eD7 : upd H6 m2.ow (.dK (dropK kd5 (.inr o))) D = some (.lst (s.line.map V.str)) := by
          rw [upd_ne fun e => by have z := x6.ow.r; rw [← e, rD5] at z; cases z]; exact eD6
        generalize upd H6 m2.ow (.dK (dropK kd5 (.inr o))) = H7 at x7 t7 eD7
        generalize hm7 : ({ ({ m2 with kd := kd5 } : MA) with kd := dropK kd5 (.inr o) } : MA) = m7 at x7
        have hou : m7.ou = m2.ou := by rw [← hm7]
        refine ⟨_, rfl, q, _, rfl, x7.gOut, .inl ⟨rfl, _, SqL.of x7.ou.h⟩, _, rfl, (by show 1 ≤ sizeLine; decide), fun u8 hu8 => ⟨(by show 2 ≤ sizeLine; decide), fun t8 ht8 => ?_⟩⟩
        have s8 := (same_upd (o := HO.tup [V.str "heard"]) hu8).trans (same_upd (o := HO.tup [V.str o, V.ref u8]) ht8)
        have nut : u8 ≠ t8 := ne_of_none upd_same ht8
        have hu9 : upd (upd H7 u8 (.tup [V.str "heard"])) t8 (.tup [V.str o, V.ref u8]) u8 = some (.tup (lHeard.map V.str)) := by rw [upd_ne nut]; exact upd_same
        have x8 := x7.same s8
        refine ⟨m7.ou, _, _, rfl, rfl, x8.ou.h, len_vo x8 (by omega), ?_⟩
        have x9 := x8.say (g := o) (l := lHeard) ⟨t8, u8, rfl, upd_same, .inl hu9⟩
        have t9 := Step.write x8.ou (fun z => z) (o' := .lst (m7.vo ++ [V.ref t8]))
        refine ⟨rl5, _, _, rfl, t7.trans ((Step.same s8).trans t9), x9.mono (by omega), rD5, ?_⟩
        rw [upd_ne fun e => by have z := x8.ou.r; rw [← e, rD5] at z; cases z]
        exact s8 _ _ eD7
      · rw [decide_eq_false hem, if_neg hem]
        exact iteF ⟨rl5, _, _, rfl, t6, x6.mono (by omega), rD5, eD6⟩
  · rintro σ H2 ⟨rl2, m2, v1, rfl, t2, x2, _, _⟩
    rw [List.length_map, List.take_length] at x2
    exact k rl2 H2 m2 t2 x2
end
end G
set_option Elab.async false
set_option linter.all false
set_option maxRecDepth 100000
set_option maxHeartbeats 4000000
namespace G
open PySem PySem.Spec PyProof.Rows L2
/-- what the law's own house asks of a deed: false, or true and the state -/
structure MDue (K : PySem.W.Frag) (i : Nat) (rl : Rl) (H : Hp) (q : Addr) (b : Nat) (a : Option S) (Q : VK) : Prop where
  no : a = none → ∀ H', Same H H' → Q (.bl false) H'
  yes : ∀ s', a = some s' → ∀ rl' H' m', Step i rl H rl' H' → Mine K i rl' H' q b s' m' → Q (.bl true) H'
theorem old_putIn {s : S} (h : Old s) (g : Str) (n : Nat) : Old (putIn s g n) := fun o ho x k => by
  show (if o = g then Pl.new else s.pl o).told = some (x, k) → k ≤ s.ears
  by_cases z : o = g
  · rw [if_pos z]; intro e; cases e
  · rw [if_neg z]; exact h o ((mem_ins.mp ho).resolve_left z) x k
theorem upd_swap {H : Hp} {a b : Addr} {o u : HO} (h : a ≠ b) : upd (upd H a o) b u = upd (upd H b u) a o := by
  funext c
  by_cases ha : c = a
  · subst ha
    rw [upd_ne h, upd_same, upd_same]
  · rw [upd_ne ha]
    by_cases hb : c = b
    · subst hb
      rw [upd_same, upd_same]
    · rw [upd_ne hb, upd_ne hb, upd_ne ha]
section
variable {P : Program} {w : World} {K : PySem.W.Frag} {mg : Str → Option Value} {base : Heap}

/-! ### _law_put -/
def spLPut (K : PySem.W.Frag) : Sp := fun vs H Q _ => ∃ (i : Nat) (rl : Rl) (q : Addr) (b : Nat) (s : S) (m : MA) (g : Str) (n : Nat), vs = [.ref q, .str g, .int n] ∧ Mine K i rl H q b s m ∧ b + cost s ≤ Lim ∧ n ≤ Lim ∧ Old s ∧ MDue K i rl H q (b + cost s) (act s (.put g n)) Q
theorem sc_Lput : FnScope ["_law_mine", "_law_guest", "_law_place"] ["_law_mine", "_law_guest", "_law_place"] (defScope s_L_put) := ⟨rfl, rfl, rfl, by decide +kernel, rfl, by decide +kernel, by decide +kernel⟩
theorem ok_Lput (T : Txt K mg) : Ok P w K mg base CX0 4 (He.fAd K ("_law_put", none)) ["_law_mine", "_law_guest", "_law_place"] (spLPut K) := by
  obtain ⟨fd1, G1, b1, k1⟩ := (ok_Lall (P := P) (w := w) (base := base) T).ex
  refine Ok.of T.f_L_put sc_Lput (fun _ _ _ _ _ _ us hl => match us, hl with | [_, _, _], _ => rfl) (fun vs H Q E h => by obtain ⟨_, _, _, _, _, _, _, _, rfl, _⟩ := h; rfl) (fun cdv A outer s H vs Q E hr h => ?_)
  obtain ⟨i, rl, q, b, s, m, g, n, rfl, x, hb, hn, old, k⟩ := h
  have hu := hu_of hr
  have hc : cost s = 6 * s.line.length + 20 := rfl
  refine ⟨_, (pss_cons (ps_if (PW.pt (pw_or (pt_cmpR op_eq (pv 1) (pe_dget hu (pv 0) pe_str (fun _ _ => rfl)) (nomark _)) (pw_or (pt_cmpR op_inS (pv 1) (pe_dget hu (pv 0) pe_str (fun _ _ => rfl)) (by rfl)) (pw_or1 (pt_cmpR op_gt (pv 2) (pe_callB call_len_seq (by rfl) T.n_len PySem.boot_len (pa_cons (pe_dget hu (pv 0) pe_str (fun _ _ => rfl)) pa_nil)) (nomark _)))))) (pss_one (ps_ret pe_bl)) pss_nil)
      (pss_cons (ps_expr (pe_bm PySem.F.plainAttrs_list PySem.F.slot_list_insert PySem.F.type_list_insert mt_insert (pe_dget hu (pv 0) pe_str (fun _ _ => rfl)) (pa_cons (pv 2) (pa_cons (pv 1) pa_nil))))
      (pss_cons (ps_asg (pe_tup (pa_cons (pe_non) (pa_cons (pe_non) pa_nil))) (pg_tup rfl (pgs_cons (pg_sub (pe_dget hu (pv 0) pe_str (fun _ _ => rfl)) (pv 1) (set_dict hu)) (pgs_cons (pg_sub (pe_dget hu (pv 0) pe_str (fun _ _ => rfl)) (pv 1) (set_dict hu)) pgs_nil))))
      (pss_cons (ps_expr (pe_call G1 hr (by rfl) T.g_L_look_all k1 b1 .nil pass0 (pa_cons (pv 0) pa_nil)))
      (pss_one (ps_ret pe_bl)))))), ?_⟩
  have ea : act s (.put g n) = if g = s.own ∨ g ∈ s.line then none else if s.line.length < n then none else some (lookAll (G.putIn s g n)) := rfl
  rw [ea] at k
  refine ⟨_, rfl, _, rfl, q, _, rfl, x.gName, rfl, _, rfl, ?_⟩
  have e0 : decide (V.str g = V.str s.own) = decide (g = s.own) := decide_eq_decide.mpr ⟨fun z => by cases z; rfl, fun z => by rw [z]⟩
  rw [e0]
  by_cases c0 : g = s.own
  · rw [decide_eq_true c0]
    rw [if_pos (.inl c0)] at k
    exact iteT (iteT (k.no rfl H (Same.refl H)))
  rw [decide_eq_false c0]
  refine iteF ⟨_, rfl, _, rfl, q, _, rfl, x.gLine, m.l, s.line, g, rfl, rfl, .inl (SqL.of x.line.h), _, rfl, ?_⟩
  rw [if_neg Bool.false_ne_true]
  by_cases c1 : g ∈ s.line
  · rw [decide_eq_true c1]
    rw [if_pos (.inr c1)] at k
    exact iteT (iteT (k.no rfl H (Same.refl H)))
  rw [decide_eq_false c1]
  rw [if_neg (fun z => z.elim c0 c1)] at k
  refine iteF ⟨_, rfl, _, rfl, q, _, rfl, x.gLine, m.l, _, rfl, .inl (SqL.of x.line.h), _, _, rfl, rfl, _, rfl, ?_⟩
  rw [List.length_map]
  by_cases c2 : s.line.length < n
  · rw [decide_eq_true (show ((n : Nat) : Int) > (s.line.length : Int) by omega)]
    rw [if_pos c2] at k
    exact iteT (k.no rfl H (Same.refl H))
  rw [decide_eq_false (show ¬ ((n : Nat) : Int) > (s.line.length : Int) by omega)]
  rw [if_neg c2] at k
  refine iteF ⟨_, rfl, q, _, rfl, x.gLine, .inl ⟨rfl, _, SqL.of x.line.h⟩, _, rfl, _, rfl, m.l, _, _, _, rfl, rfl, x.line.h, ?_, by omega, by unfold Lim at hn; omega, ?_⟩
  · rw [List.length_map]; exact lim_lt x.few.line (by omega)
  have hi : (s.line.map V.str).take ((n : Nat) : Int).toNat ++ [V.str g] ++ (s.line.map V.str).drop ((n : Nat) : Int).toNat = (s.line.take n ++ [g] ++ s.line.drop n).map V.str := by
    rw [Int.toNat_natCast, List.map_append, List.map_append, List.map_take, List.map_drop]; rfl
  rw [hi]
  refine ⟨(by show 2 ≤ sizeLine; decide), fun t ht => ⟨t, [.non, .non], rfl, SqT.of upd_same, rfl, _, _, rfl, ?_⟩⟩
  have nlt : m.l ≠ t := ne_of_none upd_same ht
  have htH : H t = none := by rw [upd_ne nlt.symm] at ht; exact ht
  rw [upd_swap nlt]
  have s1 := same_upd (o := HO.tup [V.non, V.non]) htH
  have x1 := x.same s1
  generalize upd H t (.tup [V.non, V.non]) = H1 at s1 x1
  have y1 := x1.he.upd x1.line (by intro e; cases e) (o' := .lst ((s.line.take n ++ [g] ++ s.line.drop n).map V.str))
  have z1 := x1.self.upd x1.line (by intro e; cases e) (o' := .lst ((s.line.take n ++ [g] ++ s.line.drop n).map V.str))
  have y2 := (x1.wo.upd x1.line (by intro e; cases e) (o' := .lst ((s.line.take n ++ [g] ++ s.line.drop n).map V.str))).upd y1 (by intro e; cases e) (o' := .dK (putK m.kh (.inr g) .non))
  have z2 := z1.upd y1 (by intro e; cases e) (o' := .dK (putK m.kh (.inr g) .non))
  refine ⟨_, rfl, q, _, rfl, by rw [← mg_heard]; exact DGet.k (k := Sum.inr "heard") z1.h, _, rfl, m.he, _, rfl, DPut.k (k := Sum.inr g) y1.h (lim_lt x1.khl (by omega)), ?_⟩
  refine ⟨_, _, rfl, _, rfl, q, _, rfl, by rw [← mg_word]; exact DGet.k (k := Sum.inr "word") z2.h, _, rfl, m.wo, _, rfl, DPut.k (k := Sum.inr g) y2.h (lim_lt x1.kwl (by omega)), rfl, ?_⟩
  have x3 := x1.putIn (n := n) c1
  have t3 : Step i rl H rl _ := (Step.same s1).trans (((Step.write x1.line (fun z => z) (o' := .lst ((s.line.take n ++ [g] ++ s.line.drop n).map V.str))).trans (Step.write y1 (fun z => z) (o' := .dK (putK m.kh (.inr g) .non)))).trans (Step.write y2 (fun z => z) (o' := .dK (putK m.kw (.inr g) .non))))
  have hl : (G.putIn s g n).line.length = s.line.length + 1 := len_ins
  refine ⟨_, rfl, i, rl, q, _, _, _, rfl, x3, by rw [hl]; omega, old_putIn old g n, fun rl4 H4 m4 t4 x4 => ?_⟩
  exact k.yes _ rfl rl4 H4 m4 (t3.trans t4) (x4.mono (by rw [hl]; omega))
end
end G
set_option Elab.async false
set_option linter.all false
set_option maxRecDepth 100000
set_option maxHeartbeats 4000000
namespace G
open PySem PySem.Spec PyProof.Rows L2
theorem upd_id {H : Hp} {a : Addr} {o : HO} (h : H a = some o) : upd H a o = H := by
  funext c
  by_cases e : c = a
  · subst e; rw [upd_same, h]
  · rw [upd_ne e]
theorem dropK_absent {k : Key} : ∀ {kvs : List (Key × V)}, valV kvs k = none → dropK kvs k = kvs
  | [], _ => rfl
  | p :: r, h => by
    have n : ¬ p.1 = k := fun e => by rw [valV_pos e] at h; cases h
    rw [valV_neg n] at h
    rw [dropK_neg n, dropK_absent h]
theorem valV_of_mem {k : Key} : ∀ {kvs : List (Key × V)}, k ∈ kvs.map (·.1) → valV kvs k ≠ none
  | [], h => by cases h
  | p :: r, h => by
    by_cases e : p.1 = k
    · rw [valV_pos e]; simp
    · rw [valV_neg e]
      exact valV_of_mem ((List.mem_cons.mp h).resolve_left fun z => e z.symm)
theorem mem_of_valV {k : Key} {kvs : List (Key × V)} {v : V} (h : valV kvs k = some v) : k ∈ kvs.map (·.1) := Classical.byContradiction fun n => by rw [valV_of_not n] at h; cases h
theorem old_without {s : S} (h : Old s) (g : Str) : Old (without s g) := fun o ho x k => by
  show (if (s.pl o).source = some g then ({ (s.pl o) with source := none } : Pl) else s.pl o).told = some (x, k) → k ≤ s.ears
  have := h o (List.mem_of_mem_erase ho) x k
  split
  · exact this
  · exact this
section
variable {K : PySem.W.Frag} {i : Nat} {rl : Rl} {H : Hp} {q : Addr} {b : Nat} {s s' : S} {m : MA}
/-- how two places are alike -/
structure PlEq (p p' : Pl) : Prop where
  told : p'.told = p.told
  mark : p'.mark = p.mark
  since : p'.since = p.since
  opened : p'.opened = p.opened
  source : p.opened = true → p'.source = p.source
theorem Mine.congr (x : Mine K i rl H q b s m) (e : s' = { s with pl := s'.pl }) (hp : ∀ g, g ∈ s.line → PlEq (s.pl g) (s'.pl g)) : Mine K i rl H q b s' m := by
  obtain ⟨o', si', li', pl', ea', de', aw', pa', go'⟩ := s'
  obtain ⟨o, si, li, pl, ea, de, aw, pa, go⟩ := s
  simp only [S.mk.injEq, true_and, and_true] at e
  obtain ⟨rfl, rfl, rfl, rfl, rfl, rfl, rfl, rfl⟩ := e
  dsimp only at hp
  exact { x with
    hy := fun g hg => by
      obtain ⟨tv, e, t⟩ := x.hy g hg
      refine ⟨tv, e, ?_⟩
      show Told H tv (pl' g).told
      rw [(hp g hg).told]; exact t
    wy := fun g hg => by
      show valV m.kw (.inr g) = some (oV (pl' g).mark)
      rw [(hp g hg).mark]; exact x.wy g hg
    ay := fun g hg => by
      show (pl' g).mark ≠ none → valV m.ka (.inr g) = some (.int (pl' g).since)
      rw [(hp g hg).mark, (hp g hg).since]; exact x.ay g hg
    oy := fun g => by
      show valV m.ko (.inr g) = if g ∈ li' ∧ (pl' g).opened = true then some (oV (pl' g).source) else none
      rw [x.oy g]
      show (if g ∈ li' ∧ (pl g).opened = true then some (oV (pl g).source) else none) = _
      by_cases c : g ∈ li' ∧ (pl g).opened = true
      · rw [if_pos c, if_pos ⟨c.1, by rw [(hp g c.1).opened]; exact c.2⟩, (hp g c.1).source c.2]
      · rw [if_neg c, if_neg fun z => c ⟨z.1, by rw [← (hp g z.1).opened]; exact z.2⟩]
    few := ⟨x.few.line, x.few.away, x.few.past, x.few.going, x.few.debts⟩ }
end
section
variable {P : Program} {w : World} {K : PySem.W.Frag} {mg : Str → Option Value} {base : Heap}

/-! ### _law_out -/
def spLOut (K : PySem.W.Frag) : Sp := fun vs H Q _ => ∃ (i : Nat) (rl : Rl) (q : Addr) (b : Nat) (s : S) (m : MA) (g : Str), vs = [.ref q, .str g] ∧ Mine K i rl H q b s m ∧ b + cost s ≤ Lim ∧ Old s ∧ s.line.Nodup ∧ MDue K i rl H q (b + cost s) (act s (.out g)) Q
theorem sc_Lout : FnScope ["_law_mine", "_law_guest", "_law_part", "_law_other", "_law_one"] ["_law_mine", "_law_guest"] (defScope s_L_out) := ⟨rfl, rfl, rfl, by decide +kernel, rfl, by decide +kernel, by decide +kernel⟩
theorem ok_Lout (T : Txt K mg) : Ok P w K mg base CX0 4 (He.fAd K ("_law_out", none)) ["_law_mine", "_law_guest"] (spLOut K) := by
  obtain ⟨fd1, G1, b1, k1⟩ := (ok_Lall (P := P) (w := w) (base := base) T).ex
  obtain ⟨fd2, G2, b2, k2⟩ := (ok_Lpaid (P := P) (w := w) (base := base) T).ex
  refine Ok.of T.f_L_out sc_Lout (fun _ _ _ _ _ _ us hl => match us, hl with | [_, _], _ => rfl) (fun vs H Q E h => by obtain ⟨_, _, _, _, _, _, _, rfl, _⟩ := h; rfl) (fun cdv A outer s H vs Q E hr h => ?_)
  obtain ⟨i, rl, q, b, s, m, g, rfl, x, hb, old, nd, k⟩ := h
  have hu := hu_of hr
  have hn := sc_Lout.nd
  have hr1 : Room 1 _ := hr.mono (by decide)
  have hc : cost s = 6 * s.line.length + 20 := rfl
  refine ⟨_, (pss_cons (ps_if (pt_cmpR op_notInS (pv 1) (pe_dget hu (pv 0) pe_str (fun _ _ => rfl)) (by rfl)) (pss_one (ps_ret pe_bl)) pss_nil)
      (pss_cons (ps_expr (pe_bm PySem.F.plainAttrs_list PySem.F.slot_list_remove PySem.F.type_list_remove mt_removeS (pe_dget hu (pv 0) pe_str (fun _ _ => rfl)) (pa_cons (pv 1) pa_nil)))
      (pss_cons (ps_for PassesOwn.never rfl (pi_list (pe_lst (pa_cons (pe_str) (pa_cons (pe_str) (pa_cons (pe_str) (pa_cons (pe_str) pa_nil)))))) (pg_name (i := 2) hn rfl (Or.inl rfl)) (pss_one (ps_expr (pe_dpop2 (pe_dget hu (pv 0) (pv 2) (fun _ _ => rfl)) (pv 1) pe_non ⟨rfl, rfl, rfl, rfl⟩))))
      (pss_cons (ps_dput hu (pv 0) pe_str (pe_lc (own := [("_law_one", 4)]) (g := gName 4) (tt := tB (tOp rNe (tVar 4) (tVar 1))) (te := tVar 4) rfl hn (pi_list (pe_dget hu (pv 0) pe_str (fun _ _ => rfl))) (blkOk_by (N := ["_law_mine", "_law_guest", "_law_part", "_law_other", "_law_one"]) (sc := defScope s_L_out) (by decide +kernel))
          (fun _ _ _ _ _ => pg_name (i := 4) hn rfl (Or.inl rfl)) (fun _ _ _ _ _ => pts_one (pt_cmpR op_ne (pv 4) (pv 1) (nomark _))) (fun _ _ _ _ _ => pv 4)) rfl)
      (pss_cons (ps_for PassesOwn.never rfl (pi_list (pe_callTy (call_listD rfl) (by rfl) T.n_list (by decide +kernel) (pa_cons (pe_dget hu (pv 0) pe_str (fun _ _ => rfl)) pa_nil))) (pg_name (i := 3) hn rfl (Or.inl rfl)) (pss_one (ps_if (pt_cmpR op_eq (pe_dget hu (pe_dget hu (pv 0) pe_str (fun _ _ => rfl)) (pv 3) (fun _ _ => rfl)) (pv 1) (nomark _)) (pss_one (ps_dput hu (pe_dget hu (pv 0) pe_str (fun _ _ => rfl)) (pv 3) pe_non rfl)) pss_nil)))
      (pss_cons (ps_expr (pe_call G1 hr (by rfl) T.g_L_look_all k1 b1 .nil pass0 (pa_cons (pv 0) pa_nil)))
      (pss_cons (ps_expr (pe_call G2 hr1 (by rfl) T.g_L_paid k2 b2 .nil pass0 (pa_cons (pv 0) (pa_cons (pv 1) pa_nil))))
      (pss_one (ps_ret pe_bl))))))))), ?_⟩
  have ea : act s (.out g) = if g ∈ s.line then some (noMore (lookAll (without s g)) g) else none := rfl
  rw [ea] at k
  refine ⟨_, rfl, _, rfl, q, _, rfl, x.gLine, m.l, s.line, g, rfl, rfl, .inl (SqL.of x.line.h), _, rfl, ?_⟩
  rw [if_pos rfl]
  by_cases hg : g ∈ s.line
  case neg =>
    rw [decide_eq_false hg]
    rw [if_neg hg] at k
    exact iteT (k.no rfl H (Same.refl H))
  rw [decide_eq_true hg]
  rw [if_pos hg] at k
  refine iteF ⟨_, rfl, q, _, rfl, x.gLine, .inl ⟨rfl, _, SqL.of x.line.h⟩, _, rfl, m.l, s.line, g, rfl, rfl, x.line.h, hg, ?_⟩
  refine ⟨(by show 4 ≤ sizeLine; decide), fun D hD => ⟨D, rfl, ⟨_, SqL.of upd_same⟩, ?_⟩⟩
  have nlD : m.l ≠ D := ne_of_none upd_same hD
  have hDH : H D = none := by rw [upd_ne nlD.symm] at hD; exact hD
  rw [upd_swap nlD]
  have s1 := same_upd (o := HO.lst [V.str "heard", V.str "word", V.str "open", V.str "owe"]) hDH
  have x1 : Mine K i (setR rl D none) (upd H D (.lst [V.str "heard", V.str "word", V.str "open", V.str "owe"])) q b s m := x.tr (fun _ _ _ z => (z.role hDH).same s1) (sameTk s1)
  have t1 : Step i rl H (setR rl D none) (upd H D (.lst [V.str "heard", V.str "word", V.str "open", V.str "owe"])) := Step.own hDH
  have rD : setR rl D none D = none := setR_same
  have hx1 : upd H D (.lst [V.str "heard", V.str "word", V.str "open", V.str "owe"]) D = some (.lst [V.str "heard", V.str "word", V.str "open", V.str "owe"]) := upd_same
  generalize setR rl D none = rl1 at x1 t1 rD
  generalize upd H D (.lst [V.str "heard", V.str "word", V.str "open", V.str "owe"]) = H1 at x1 t1 hx1
  -- the five writes
  have yl := x1.line
  have yh := x1.he.upd x1.line (by intro e; cases e) (o' := .lst ((s.line.erase g).map V.str))
  have yq := x1.self.upd x1.line (by intro e; cases e) (o' := .lst ((s.line.erase g).map V.str))
  have yw := (x1.wo.upd x1.line (by intro e; cases e) (o' := .lst ((s.line.erase g).map V.str))).upd yh (by intro e; cases e) (o' := .dK (dropK m.kh (.inr g)))
  have yq1 := yq.upd yh (by intro e; cases e) (o' := .dK (dropK m.kh (.inr g)))
  have yo := ((x1.op.upd x1.line (by intro e; cases e) (o' := .lst ((s.line.erase g).map V.str))).upd yh (by intro e; cases e) (o' := .dK (dropK m.kh (.inr g)))).upd yw (by intro e; cases e) (o' := .dK (dropK m.kw (.inr g)))
  have yq2 := yq1.upd yw (by intro e; cases e) (o' := .dK (dropK m.kw (.inr g)))
  have yd := (((x1.ow.upd x1.line (by intro e; cases e) (o' := .lst ((s.line.erase g).map V.str))).upd yh (by intro e; cases e) (o' := .dK (dropK m.kh (.inr g)))).upd yw (by intro e; cases e) (o' := .dK (dropK m.kw (.inr g)))).upd yo (by intro e; cases e) (o' := .dK (dropK m.ko (.inr g)))
  have yq3 := yq2.upd yo (by intro e; cases e) (o' := .dK (dropK m.ko (.inr g)))
  have ts := ((((Step.write yl (fun z => z) (o' := .lst ((s.line.erase g).map V.str))).trans (Step.write yh (fun z => z) (o' := .dK (dropK m.kh (.inr g))))).trans (Step.write yw (fun z => z) (o' := .dK (dropK m.kw (.inr g))))).trans (Step.write yo (fun z => z) (o' := .dK (dropK m.ko (.inr g))))).trans (Step.write yd (fun z => z) (o' := .dK (dropK m.kd (.inr g))))
  have x5 := x1.outAll hg nd
  have fD : ∀ {a : Addr} {r : R} {H' : Hp} {o : HO}, C rl1 H' i r a o → D ≠ a := fun {a r H' o} z e => by have w := z.r; rw [← e, rD] at w; cases w
  have ed : ∀ {a : Addr} {kvs : List (Key × V)} {H' : Hp}, H' a = some (.dK kvs) → valV kvs (.inr g) = none → H' = upd H' a (.dK (dropK kvs (.inr g))) := fun {a kvs H'} h e => by rw [dropK_absent e, upd_id h]
  have hD0 : upd H1 m.l (.lst ((s.line.erase g).map V.str)) D = some (.lst [V.str "heard", V.str "word", V.str "open", V.str "owe"]) := by
    rw [upd_ne (fD yl)]; exact hx1
  generalize upd H1 m.l (.lst ((s.line.erase g).map V.str)) = h0 at hD0 yh yq yw yq1 yo yq2 yd yq3 ts x5 ⊢
  generalize e1 : upd h0 m.he (.dK (dropK m.kh (.inr g))) = h1 at yw yq1 yo yq2 yd yq3 ts x5
  generalize e2 : upd h1 m.wo (.dK (dropK m.kw (.inr g))) = h2 at yo yq2 yd yq3 ts x5
  generalize e3 : upd h2 m.op (.dK (dropK m.ko (.inr g))) = h3 at yd yq3 ts x5
  generalize e4 : upd h3 m.ow (.dK (dropK m.kd (.inr g))) = h4 at ts x5
  refine for_list (K := K) (a := D) (xs := [V.str "heard", V.str "word", V.str "open", V.str "owe"]) (fun j σ H2 => ∃ v1, σ = [some (.ref q), some (.str g), v1, none, none] ∧ H2 = match j with | 0 => h0 | 1 => h1 | 2 => h2 | 3 => h3 | _ => h4)
    ⟨none, rfl, rfl⟩ ?_ ?_ ?_
  · rintro j σ H2 hj ⟨v1, rfl, rfl⟩
    have d1 : h1 D = h0 D := by rw [← e1, upd_ne (fD yh)]
    have d2 : h2 D = h1 D := by rw [← e2, upd_ne (fD yw)]
    have d3 : h3 D = h2 D := by rw [← e3, upd_ne (fD yo)]
    have d4 : h4 D = h3 D := by rw [← e4, upd_ne (fD yd)]
    refine SqL.of ?_
    match j, hj with
    | 0, _ => exact hD0
    | 1, _ => exact d1.trans hD0
    | 2, _ => exact d2.trans (d1.trans hD0)
    | 3, _ => exact d3.trans (d2.trans (d1.trans hD0))
    | 4, _ => exact d4.trans (d3.trans (d2.trans (d1.trans hD0)))
  · rintro j v σ H2 hj ⟨v1, rfl, rfl⟩
    match j, hj with
    | 0, hj =>
      cases Option.some.inj hj
      exact ⟨_, rfl, _, rfl, q, _, rfl, by rw [← mg_heard]; exact DGet.k (k := Sum.inr "heard") yq.h, m.he, rfl, .inl ⟨_, .inl yh.h⟩, _, rfl, m.kh, Sum.inr g, yh.h, rfl, fun v _ => ⟨_, rfl, e1⟩, fun e => ⟨_, rfl, (ed yh.h e).trans e1⟩⟩
    | 1, hj =>
      cases Option.some.inj hj
      exact ⟨_, rfl, _, rfl, q, _, rfl, by rw [← mg_word]; exact DGet.k (k := Sum.inr "word") yq1.h, m.wo, rfl, .inl ⟨_, .inl yw.h⟩, _, rfl, m.kw, Sum.inr g, yw.h, rfl, fun v _ => ⟨_, rfl, e2⟩, fun e => ⟨_, rfl, (ed yw.h e).trans e2⟩⟩
    | 2, hj =>
      cases Option.some.inj hj
      exact ⟨_, rfl, _, rfl, q, _, rfl, by rw [← mg_open]; exact DGet.k (k := Sum.inr "open") yq2.h, m.op, rfl, .inl ⟨_, .inl yo.h⟩, _, rfl, m.ko, Sum.inr g, yo.h, rfl, fun v _ => ⟨_, rfl, e3⟩, fun e => ⟨_, rfl, (ed yo.h e).trans e3⟩⟩
    | 3, hj =>
      cases Option.some.inj hj
      exact ⟨_, rfl, _, rfl, q, _, rfl, by rw [← mg_owe]; exact DGet.k (k := Sum.inr "owe") yq3.h, m.ow, rfl, .inl ⟨_, .inl yd.h⟩, _, rfl, m.kd, Sum.inr g, yd.h, rfl, fun v _ => ⟨_, rfl, e4⟩, fun e => ⟨_, rfl, (ed yd.h e).trans e4⟩⟩
    | n + 4, hj => cases hj
  rintro σ H2 ⟨v1, rfl, rfl⟩
  show _
  dsimp only [List.length]
  have t5 := t1.trans ts
  clear yl yh yq yw yq1 yo yq2 yd yq3 ts e1 e2 e3 e4 hD0 ed fD
  generalize hs5 : ({ s with line := s.line.erase g, debts := fun x => if x = g then none else s.debts x } : S) = s5 at x5
  generalize hm5 : ({ m with kh := dropK m.kh (.inr g), kw := dropK m.kw (.inr g), ko := dropK m.ko (.inr g), kd := dropK m.kd (.inr g) } : MA) = m5 at x5
  -- away
  have haw : s5.away = s.away := by rw [← hs5]
  have hll5 : s5.line.length ≤ s.line.length := by rw [← hs5]; exact List.length_erase_le ..
  refine ⟨_, rfl, q, _, rfl, x5.gAway, m5.aw, rfl, ⟨_, SqL.of x5.aw.h⟩, fun A1 hA1 => ?_⟩
  refine lc_pure 4 s5.away V.str (fun y => decide (y ≠ g)) V.str (walk_strs s5.away) (yat_str s5.away) hA1 (lim_lt x5.few.away (by omega)) (fun H6 s6 => SqL.of (s6 _ _ x5.aw.h)) (fun _ => rfl) ?_ ?_ ?_
  · intro y H6 kk hy s6 hkk
    refine ⟨_, rfl, _, rfl, rfl, _, rfl, ?_⟩
    have e : (!decide (V.str y = V.str g)) = decide (y ≠ g) := by
      by_cases z : y = g
      · subst z; simp
      · rw [decide_eq_false (fun q => z (by cases q; rfl)), decide_eq_true z]; rfl
    rw [e]
    exact hkk H6 (Same.refl H6)
  · intro y H6 kk hy _ s6 hkk
    exact ⟨_, rfl, hkk H6 (Same.refl H6)⟩
  intro H6 s6 e6
  have hA1H : H A1 = none := t5.was_free hA1
  have x6 : Mine K i (setR rl1 A1 none) H6 q b s5 m5 := x5.tr (fun _ _ _ z => (z.role hA1).same s6) (sameTk s6)
  have t6 : Step i rl H (setR rl1 A1 none) H6 := t5.trans ((Step.claim hA1).thenSame s6)
  have rA : setR rl1 A1 none A1 = none := setR_same
  generalize setR rl1 A1 none = rl6 at x6 t6 rA
  refine ⟨_, rfl, q, _, rfl, DPut.k (k := Sum.inr "away") x6.self.h (by exact (by decide : (12 : Nat) < sizeLine)), ?_⟩
  rw [mp_away]
  have x7 := x6.newAway (fun r e => by rw [rA] at e; cases e) e6 (Nat.le_trans (List.length_filter_le _ _) x6.few.away)
  have t7 := (t6.trans ((Step.drop x6.aw (v := none)).trans (Step.write (x6.self.drop x6.aw (by intro e; cases e) (v := none)) (fun z => z) (o' := .dK (mkv s5.own s5.size m5.l m5.he s5.ears m5.wo m5.ats m5.op m5.ow A1 m5.pa m5.ou))))).give (b := A1) hA1H (v := some (i, R.away))
  generalize hs7 : ({ s5 with away := s5.away.filter fun y => decide (y ≠ g) } : S) = s7 at x7
  have hl7 : s7.line = s5.line := by rw [← hs7]
  generalize ({ m5 with aw := A1 } : MA) = m7 at x7
  generalize upd H6 q (.dK (mkv s5.own s5.size m5.l m5.he s5.ears m5.wo m5.ats m5.op m5.ow A1 m5.pa m5.ou)) = H7 at x7 t7
  generalize setR (setR rl6 m5.aw none) A1 (some (i, R.away)) = rl7 at x7 t7
  classical
  obtain ⟨ks, hks⟩ : ∃ ks : List Key, ks = m7.ko.map fun kv => kv.1 := ⟨_, rfl⟩
  refine ⟨_, rfl, q, _, rfl, x7.gOpen, m7.op, m7.ko, rfl, .inl x7.op.h, fun L hL => ⟨L, rfl, ⟨_, SqL.of upd_same⟩, ?_⟩⟩
  have s8 := same_upd (o := HO.lst (m7.ko.map fun kv => kV kv.1)) hL
  have hLH : H L = none := t7.was_free hL
  have x8 : Mine K i (setR rl7 L none) (upd H7 L (.lst (m7.ko.map fun kv => kV kv.1))) q b s7 m7 := x7.tr (fun _ _ _ z => (z.role hL).same s8) (sameTk s8)
  have t8 : Step i rl H (setR rl7 L none) (upd H7 L (.lst (m7.ko.map fun kv => kV kv.1))) := t7.trans (Step.own hL)
  have rL : setR rl7 L none L = none := setR_same
  have eL : upd H7 L (.lst (m7.ko.map fun kv => kV kv.1)) L = some (.lst (m7.ko.map fun kv => kV kv.1)) := upd_same
  generalize setR rl7 L none = rl8 at x8 t8 rL
  generalize upd H7 L (.lst (m7.ko.map fun kv => kV kv.1)) = H8 at x8 t8 eL
  refine for_list (K := K) (a := L) (xs := m7.ko.map fun kv => kV kv.1) (fun j σ H2 => ∃ (pl : Str → Pl) (m2 : MA) (v2 : Option V), σ = [some (.ref q), some (.str g), v1, v2, none] ∧ Step i rl8 H8 rl8 H2 ∧ Mine K i rl8 H2 q b { s7 with pl := pl } m2 ∧
      (∀ y, PlEq { (s7.pl y) with source := (pl y).source } (pl y)) ∧ ∀ y, (pl y).source = if (Sum.inr y : Key) ∈ ks.take j ∧ (s7.pl y).source = some g then none else (s7.pl y).source) ⟨s7.pl, m7, none, rfl, Step.refl, x8, fun y => ⟨rfl, rfl, rfl, rfl, fun _ => rfl⟩, fun y => by rw [if_neg fun z => by rw [List.take_zero] at z; cases z.1]⟩
    (fun j σ H2 _ ⟨_, _, _, _, t9, _⟩ => SqL.of (t9.keep _ _ eL (.inl fun r e => by rw [rL] at e; cases e))) ?_ ?_
  · rintro j v σ H2 hj ⟨pl, m2, v2, rfl, t9, x9, pe, ps⟩
    rw [List.getElem?_map] at hj
    obtain ⟨kv, hkv, rfl⟩ := Option.map_eq_some_iff.mp hj
    have hk1 : ks[j]? = some kv.1 := by rw [hks, List.getElem?_map, hkv]; rfl
    have hkm : kv.1 ∈ ks := List.mem_of_getElem? hk1
    have hkn : valV m7.ko kv.1 ≠ none := valV_of_mem (by rw [← hks]; exact hkm)
    have htk := take_succ_at hk1
    generalize kv.1 = k0 at hk1 hkm hkn htk
    cases k0 with
    | inl n => exact absurd (x7.on n) hkn
    | inr o =>
      have hoo : o ∈ s7.line ∧ (s7.pl o).opened = true := Classical.byContradiction fun c => hkn (by rw [x7.oy o, if_neg c])
      have hoo2 : o ∈ s7.line ∧ (pl o).opened = true := ⟨hoo.1, by rw [(pe o).opened]; exact hoo.2⟩
      have hv2 : valV m2.ko (.inr o) = some (oV (pl o).source) := by
        have := x9.oy o
        rw [this]
        exact if_pos hoo2
      have gd : DGet H2 m2.op (.str o) (some (oV (pl o).source)) := by rw [← hv2]; exact DGet.k (k := Sum.inr o) x9.op.h
      refine ⟨_, rfl, q, _, rfl, x9.gOpen, _, rfl, m2.op, _, rfl, gd, _, rfl, oV_scal _ (some g), _, rfl, ?_⟩
      rw [show V.str g = oV (some g) from rfl, oV_dec]
      by_cases c : (pl o).source = some g
      · rw [decide_eq_true c]
        refine iteT ⟨_, rfl, q, _, rfl, x9.gOpen, _, rfl, m2.op, _, rfl, DPut.k (k := Sum.inr o) x9.op.h (lim_lt x9.kol (by omega)), ?_⟩
        have x10 := x9.uncause hoo2
        have t10 := t9.trans (Step.write x9.op (fun z => z) (o' := .dK (putK m2.ko (.inr o) .non)))
        refine ⟨_, _, _, rfl, t10, x10, fun y => ?_, fun y => ?_⟩
        · show PlEq { (s7.pl y) with source := (if y = o then ({ (pl o) with source := none } : Pl) else pl y).source } (if y = o then ({ (pl o) with source := none } : Pl) else pl y)
          by_cases e : y = o
          · rw [if_pos e, e]; exact ⟨(pe o).told, (pe o).mark, (pe o).since, (pe o).opened, fun _ => rfl⟩
          · rw [if_neg e]; exact pe y
        · show (if y = o then ({ (pl o) with source := none } : Pl) else pl y).source = _
          rw [htk]
          by_cases e : y = o
          · rw [if_pos e, e]
            have hsrc : (s7.pl o).source = some g := by
              have := ps o
              rw [c] at this
              by_cases z : (Sum.inr o : Key) ∈ ks.take j ∧ (s7.pl o).source = some g
              · exact z.2
              · rw [if_neg z] at this; exact this.symm
            rw [if_pos ⟨List.mem_append_right _ (List.mem_singleton.mpr rfl), hsrc⟩]
          · rw [if_neg e, ps y]
            have : (Sum.inr y : Key) ∈ ks.take j ++ [Sum.inr o] ↔ (Sum.inr y : Key) ∈ ks.take j := by
              rw [List.mem_append, List.mem_singleton]
              exact ⟨fun z => z.resolve_right fun w => e (Sum.inr.inj w), .inl⟩
            rw [this]
      · rw [decide_eq_false c]
        refine iteF ⟨pl, m2, _, rfl, t9, x9, pe, fun y => ?_⟩
        rw [htk, ps y]
        by_cases e : y = o
        · rw [e]
          have := ps o
          by_cases z : (Sum.inr o : Key) ∈ ks.take j ∧ (s7.pl o).source = some g
          · rw [if_pos z, if_pos ⟨List.mem_append_left _ z.1, z.2⟩]
          · rw [if_neg z] at this ⊢
            rw [if_neg fun w => c (by rw [this]; exact w.2)]
        · have : (Sum.inr y : Key) ∈ ks.take j ++ [Sum.inr o] ↔ (Sum.inr y : Key) ∈ ks.take j := by
            rw [List.mem_append, List.mem_singleton]
            exact ⟨fun z => z.resolve_right fun w => e (Sum.inr.inj w), .inl⟩
          rw [this]
  rintro σ H2 ⟨pl, m2, v2, rfl, t9, x9, pe, ps⟩
  have hkl : (m7.ko.map fun kv => kV kv.1).length = ks.length := by rw [hks, List.length_map, List.length_map]
  rw [hkl, List.take_length] at ps
  have hw7 : ∀ y, (s7.pl y) = s.pl y := fun y => by rw [← hs7, ← hs5]
  have x10 : Mine K i rl8 H2 q b (without s g) m2 := by
    refine x9.congr (s' := without s g) ?_ fun y hy => ?_
    · rw [← hs7, ← hs5]; rfl
    · show PlEq (pl y) (if (s.pl y).source = some g then ({ (s.pl y) with source := none } : Pl) else s.pl y)
      have p1 := pe y
      have p2 := ps y
      rw [hw7 y] at p1 p2
      by_cases c : (s.pl y).source = some g
      · rw [if_pos c]
        refine ⟨p1.told.symm, p1.mark.symm, p1.since.symm, p1.opened.symm, fun ho => ?_⟩
        have hm : (Sum.inr y : Key) ∈ ks := by
          rw [hks]
          refine mem_of_valV (v := oV (s7.pl y).source) ?_
          rw [x7.oy y, if_pos ⟨hy, by rw [hw7 y, ← p1.opened]; exact ho⟩]
        rw [p2, if_pos ⟨hm, c⟩]
      · rw [if_neg c]
        rw [if_neg fun z => c z.2] at p2
        exact ⟨p1.told.symm, p1.mark.symm, p1.since.symm, p1.opened.symm, fun _ => p2.symm⟩
  have t10 := t8.trans t9
  have hlw : (without s g).line.length ≤ s.line.length := List.length_erase_le ..
  refine ⟨_, rfl, i, rl8, q, _, _, _, rfl, x10, by omega, old_without old g, fun rl11 H11 m11 t11 x11 => ?_⟩
  have hla : (lookAll (without s g)).line = (without s g).line := lookN_line _ _ _
  refine ⟨_, rfl, _, rfl, i, rl11, q, _, _, _, g, rfl, x11, by rw [hla]; omega, fun rl12 H12 m12 t12 x12 => ?_⟩
  exact k.yes _ rfl rl12 H12 m12 ((t10.trans t11).trans t12) (x12.mono (by rw [hla]; omega))
end
end G
set_option Elab.async false
set_option linter.all false
set_option maxRecDepth 100000
set_option maxHeartbeats 4000000
namespace G
open PySem PySem.Spec PyProof.Rows L2
theorem act_no (s : S) (g : Str) (l : List Str) (h : g ∉ s.line) : act s (.hear g l) = none := by
  show (if g ∈ s.line then _ else none : Option S) = none
  rw [if_neg h]
theorem act_word (s : S) (g w : Str) (hg : g ∈ s.line) (hw : w = "in" ∨ w = "out") : act s (.hear g (lWord w)) = if (s.pl g).told = none ∧ s.debts g = none then some (hearWord s g w) else none := by
  show (if g ∈ s.line then _ else none : Option S) = _
  rw [if_pos hg]
  have c : lWord w = lWord "in" ∨ lWord w = lWord "out" := hw.imp (fun z => by rw [z]) fun z => by rw [z]
  rw [if_pos c]
  rfl
theorem act_clear (s : S) (g : Str) (hg : g ∈ s.line) : act s (.hear g (lWord "clear")) = none := by
  show (if g ∈ s.line then _ else none : Option S) = _
  rw [if_pos hg, if_neg (by decide), if_neg (by decide), if_neg (by decide), if_neg (by decide)]
theorem act_chair (s : S) (g : Str) (hg : g ∈ s.line) : act s (.hear g lChair) = none := by
  show (if g ∈ s.line then _ else none : Option S) = _
  rw [if_pos hg, if_neg (by decide), if_neg (by decide), if_neg (by decide), if_neg (by decide)]
theorem act_open (s : S) (g : Str) (hg : g ∈ s.line) : act s (.hear g lOpen) = if (s.pl g).told = none then none else some (hearOpen s g) := by
  show (if g ∈ s.line then _ else none : Option S) = _
  rw [if_pos hg, if_neg (by decide), if_pos rfl]
theorem act_heard (s : S) (g : Str) (hg : g ∈ s.line) : act s (.hear g lHeard) = if (s.pl g).opened = true then some (close s g) else none := by
  show (if g ∈ s.line then _ else none : Option S) = _
  rw [if_pos hg, if_neg (by decide), if_neg (by decide), if_pos rfl]
theorem act_back (s : S) (g : Str) (hg : g ∈ s.line) : act s (.hear g lBack) = if g ∈ s.away then some (back s g) else none := by
  show (if g ∈ s.line then _ else none : Option S) = _
  rw [if_pos hg, if_neg (by decide), if_neg (by decide), if_neg (by decide), if_pos rfl]
/-- a word heard, ahead of the looks -/
def heardW (s : S) (g w : Str) : S := { (s.setPl g { (s.pl g) with told := some (w, s.ears + 1) }) with ears := s.ears + 1 }
theorem hearWord_eq (s : S) (g w : Str) : hearWord s g w = (lookN (heardW s g w) (some g) (behind (heardW s g w) g)).1 := rfl
/-- a word heard gives up nobody -/
def Calm (s : S) : Prop := ∀ g w : Str, g ∈ s.line → (w = "in" ∨ w = "out") → (s.pl g).told = none → (lookN (heardW s g w) (some g) (behind (heardW s g w) g)).2 = []
theorem old_setPl {s : S} (h : Old s) (g : Str) (p : Pl) (e : p.told = (s.pl g).told ∨ p.told = none) : Old (s.setPl g p) := fun o ho x k => by
  show (if o = g then p else s.pl o).told = some (x, k) → k ≤ s.ears
  by_cases z : o = g
  · rw [if_pos z]
    rcases e with e | e
    · rw [e, ← z]; exact h o ho x k
    · rw [e]; intro w; cases w
  · rw [if_neg z]; exact h o ho x k
theorem old_heardW {s : S} (h : Old s) (g w : Str) : Old (heardW s g w) := fun o ho x k => by
  show (if o = g then ({ (s.pl g) with told := some (w, s.ears + 1) } : Pl) else s.pl o).told = some (x, k) → k ≤ s.ears + 1
  by_cases z : o = g
  · rw [if_pos z]
    intro e
    have e' : some (w, s.ears + 1) = some (x, k) := e
    cases e'
    exact Nat.le_refl _
  · rw [if_neg z]; intro e; exact Nat.le_succ_of_le (h o ho x k e)
section
variable {P : Program} {w : World} {K : PySem.W.Frag} {mg : Str → Option Value} {base : Heap}

/-! ### _law_hears -/
def spLHears (K : PySem.W.Frag) : Sp := fun vs H Q _ => ∃ (i : Nat) (rl : Rl) (q : Addr) (b : Nat) (s : S) (m : MA) (g : Str) (la : Addr) (l : List Str), vs = [.ref q, .str g, .ref la] ∧ Mine K i rl H q b s m ∧ b + cost s ≤ Lim ∧ Old s ∧ s.away.Nodup ∧ Calm s ∧ H la = some (.tup (l.map .str)) ∧ l ∈ ltrs ∧ MDue K i rl H q (b + cost s) (act s (.hear g l)) Q
theorem sc_Lhears : FnScope ["_law_mine", "_law_guest", "_law_letter", "_law_told", "_law_others"] ["_law_mine", "_law_guest", "_law_letter"] (defScope s_L_hears) := ⟨rfl, rfl, rfl, by decide +kernel, rfl, by decide +kernel, by decide +kernel⟩
theorem ok_Lhears (T : Txt K mg) : Ok P w K mg base CX0 4 (He.fAd K ("_law_hears", none)) ["_law_mine", "_law_guest", "_law_letter"] (spLHears K) := by
  obtain ⟨fd1, G1, b1, k1⟩ := (ok_Lbehind (P := P) (w := w) (base := base) T).ex
  obtain ⟨fd2, G2, b2, k2⟩ := (ok_Llook (P := P) (w := w) (base := base) T).ex
  obtain ⟨fd3, G3, b3, k3⟩ := (ok_Lpaid (P := P) (w := w) (base := base) T).ex
  refine Ok.of T.f_L_hears sc_Lhears (fun _ _ _ _ _ _ us hl => match us, hl with | [_, _, _], _ => rfl) (fun vs H Q E h => by obtain ⟨_, _, _, _, _, _, _, _, _, rfl, _⟩ := h; rfl) (fun cdv A outer s H vs Q E hr h => ?_)
  obtain ⟨i, rl, q, b, s, m, g, la, l, rfl, x, hb, old, nda, calm, hla, hl, k⟩ := h
  have hu := hu_of hr
  have hu2 := hr.units
  have hn := sc_Lhears.nd
  have hr1 : Room 1 _ := hr.mono (by decide)
  have hr2 : Room 2 _ := hr.mono (by decide)
  have hc : cost s = 6 * s.line.length + 20 := rfl
  refine ⟨_, (pss_cons (ps_if (pt_cmpR op_notInS (pv 1) (pe_dget hu (pv 0) pe_str (fun _ _ => rfl)) (by rfl)) (pss_one (ps_ret pe_bl)) pss_nil)
      (pss_cons (ps_set (i := 3) hn rfl (Or.inl rfl) (pe_dget hu (pe_dget hu (pv 0) pe_str (fun _ _ => rfl)) (pv 1) (fun _ _ => rfl)))
      (pss_cons (ps_if (PW.pt (pw_and (pt_cmpR (op_inP hu2) (pv 2) (pe_lst (pa_cons (pe_tup (pa_cons (pe_str) (pa_cons (pe_str) pa_nil))) (pa_cons (pe_tup (pa_cons (pe_str) (pa_cons (pe_str) pa_nil))) pa_nil))) (by rfl)) (pw_and (pt_cmpR op_isN (pv 3) pe_non (nomark _)) (pw_and1 (pt_cmp (pc_dnotin hu (pv 1) (pe_dget hu (pv 0) pe_str (fun _ _ => rfl)))))))) (pss_cons (ps_dput hu (pv 0) pe_str (pe_op op_add (pe_dget hu (pv 0) pe_str (fun _ _ => rfl)) pe_int) rfl)
      (pss_cons (ps_dput hu (pe_dget hu (pv 0) pe_str (fun _ _ => rfl)) (pv 1) (pe_tup (pa_cons (pe_ix ix_tup (pv 2) pe_int (fun _ _ => rfl)) (pa_cons (pe_dget hu (pv 0) pe_str (fun _ _ => rfl)) pa_nil))) rfl)
      (pss_one (ps_ret (pe_cmpR (op_eqP hu2) (pe_call G1 hr (by rfl) T.g_L_behind k1 b1 .nil pass0 (pa_cons (pv 0) (pa_cons (pv 1) pa_nil))) (pe_lst pa_nil) (nomark _)))))) pss_nil)
      (pss_cons (ps_if (PW.pt (pw_and (pt_cmpR (op_eqP hu2) (pv 2) (pe_tup (pa_cons (pe_str) pa_nil)) (nomark _)) (pw_and1 (pt_cmpR op_notN (pv 3) pe_non (nomark _))))) (pss_cons (ps_dput hu (pe_dget hu (pv 0) pe_str (fun _ _ => rfl)) (pv 1) pe_non rfl)
      (pss_cons (ps_set (i := 4) hn rfl (Or.inl rfl) (pe_call G1 hr (by rfl) T.g_L_behind k1 b1 .nil pass0 (pa_cons (pv 0) (pa_cons (pv 1) pa_nil))))
      (pss_cons (ps_if (pt_cmpR (op_eqP hu2) (pv 4) (pe_lst pa_nil) (nomark _)) (pss_one (ps_expr (pe_bm PySem.F.plainAttrs_list PySem.F.slot_list_append PySem.F.type_list_append mt_append (pe_dget hu (pv 0) pe_str (fun _ _ => rfl)) (pa_cons (pe_tup (pa_cons (pv 1) (pa_cons (pe_tup (pa_cons (pe_str) pa_nil)) pa_nil))) pa_nil))))
            (pss_one (ps_dput hu (pe_dget hu (pv 0) pe_str (fun _ _ => rfl)) (pv 1) (pv 4) rfl)))
      (pss_one (ps_ret pe_bl))))) pss_nil)
      (pss_cons (ps_if (PW.pt (pw_and (pt_cmpR (op_eqP hu2) (pv 2) (pe_tup (pa_cons (pe_str) pa_nil)) (nomark _)) (pw_and1 (pt_cmp (pc_din hu (pv 1) (pe_dget hu (pv 0) pe_str (fun _ _ => rfl))))))) (pss_cons (ps_expr (pe_dpop1 (pe_dget hu (pv 0) pe_str (fun _ _ => rfl)) (pv 1) ⟨rfl, rfl, rfl, rfl⟩))
      (pss_cons (ps_expr (pe_call G2 hr2 (by rfl) T.g_L_look k2 b2 .nil pass0 (pa_cons (pv 0) (pa_cons (pv 1) (pa_cons (pe_non) pa_nil)))))
      (pss_cons (ps_expr (pe_call G3 hr1 (by rfl) T.g_L_paid k3 b3 .nil pass0 (pa_cons (pv 0) (pa_cons (pv 1) pa_nil))))
      (pss_one (ps_ret pe_bl))))) pss_nil)
      (pss_cons (ps_if (PW.pt (pw_and (pt_cmpR (op_eqP hu2) (pv 2) (pe_tup (pa_cons (pe_str) pa_nil)) (nomark _)) (pw_and1 (pt_cmpR op_inS (pv 1) (pe_dget hu (pv 0) pe_str (fun _ _ => rfl)) (by rfl))))) (pss_cons (ps_expr (pe_bm PySem.F.plainAttrs_list PySem.F.slot_list_remove PySem.F.type_list_remove mt_removeS (pe_dget hu (pv 0) pe_str (fun _ _ => rfl)) (pa_cons (pv 1) pa_nil)))
      (pss_one (ps_ret pe_bl))) pss_nil)
      (pss_one (ps_ret pe_bl)))))))), ?_⟩
  refine ⟨_, rfl, _, rfl, q, _, rfl, x.gLine, m.l, s.line, g, rfl, rfl, .inl (SqL.of x.line.h), _, rfl, ?_⟩
  rw [if_pos rfl]
  by_cases hg : g ∈ s.line
  case neg =>
    rw [decide_eq_false hg]
    rw [act_no s g l hg] at k
    exact iteT (k.no rfl H (Same.refl H))
  rw [decide_eq_true hg]
  obtain ⟨tv, etv, tt⟩ := x.hy g hg
  have gd : DGet H m.he (.str g) (some tv) := by rw [← etv]; exact DGet.k (k := Sum.inr g) x.he.h
  refine iteF ⟨_, rfl, q, _, rfl, x.gHeard, _, rfl, m.he, tv, rfl, gd, ?_⟩
  refine ⟨_, rfl, (by show 2 ≤ sizeLine; decide), fun a1 ha1 => ⟨(by show 2 ≤ sizeLine; decide), fun a2 ha2 => ⟨(by show 2 ≤ sizeLine; decide), fun L hL => ?_⟩⟩⟩
  have sa := same_upd (o := HO.tup [V.str "word", V.str "in"]) ha1
  have sb := same_upd (o := HO.tup [V.str "word", V.str "out"]) ha2
  have sc := same_upd (o := HO.lst [V.ref a1, V.ref a2]) hL
  have s1 := (sa.trans sb).trans sc
  refine ⟨tS l, [tS (lWord "in"), tS (lWord "out")], dp_tup (SqT.of (s1 _ _ hla)), .inl (.lst (SqL.of upd_same) (.cons (dp_tup (l := lWord "in") (SqT.of ((sb.trans sc) _ _ upd_same))) (.cons (dp_tup (l := lWord "out") (SqT.of (sc _ _ upd_same))) .nil))), plain_tS _, plain_tSs [lWord "in", lWord "out"], by rw [depth_tS]; decide, _, rfl, ?_⟩
  rw [show [tS (lWord "in"), tS (lWord "out")] = [lWord "in", lWord "out"].map tS from rfl, any_tS]
  have x1 := x.same s1
  have hla1 := s1 _ _ hla
  have tt1 := tt.tk (sameTk s1)
  clear sa sb sc
  generalize upd (upd (upd H a1 (.tup [V.str "word", V.str "in"])) a2 (.tup [V.str "word", V.str "out"])) L (.lst [V.ref a1, V.ref a2]) = H1 at s1 x1 hla1 tt1 ⊢
  have hL : (∃ wd : Str, l = lWord wd ∧ (wd = "in" ∨ wd = "out")) ∨ l = lOpen ∨ l = lHeard ∨ l = lBack ∨ (l ∉ [lWord "in", lWord "out"] ∧ l ≠ lOpen ∧ l ≠ lHeard ∧ l ≠ lBack ∧ act s (.hear g l) = none) := by
    simp only [ltrs, List.mem_cons, List.mem_nil_iff, or_false] at hl
    rcases hl with rfl | rfl | rfl | rfl | rfl | rfl | rfl
    · exact .inr (.inl rfl)
    · exact .inr (.inr (.inl rfl))
    · exact .inr (.inr (.inr (.inl rfl)))
    · exact .inr (.inr (.inr (.inr ⟨by decide, by decide, by decide, by decide, act_chair s g hg⟩)))
    · exact .inl ⟨_, rfl, .inl rfl⟩
    · exact .inl ⟨_, rfl, .inr rfl⟩
    · exact .inr (.inr (.inr (.inr ⟨by decide, by decide, by decide, by decide, act_clear s g hg⟩)))
  rcases hL with ⟨wd, rfl, hw⟩ | rfl | rfl | rfl | ⟨n1, n2, n3, n4, ea⟩
  · have hwm : lWord wd ∈ [lWord "in", lWord "out"] := by rcases hw with rfl | rfl <;> simp
    have w2 : lWord wd ≠ lOpen := fun z => by injection z with _ z; cases z
    have w3 : lWord wd ≠ lHeard := fun z => by injection z with _ z; cases z
    have w4 : lWord wd ≠ lBack := fun z => by injection z with _ z; cases z
    rw [decide_eq_true hwm]
    rw [act_word s g wd hg hw] at k
    refine iteT ⟨_, rfl, rfl, _, rfl, ?_⟩
    cases et : (s.pl g).told with
    | some tn =>
      obtain ⟨wt, n⟩ := tn
      rw [if_neg fun z => by rw [et] at z; cases z.1] at k
      have tt0 := tt1
      rw [et] at tt0
      obtain ⟨t0, rfl, ht0⟩ := tt0
      refine iteF (iteF ?_)
      refine ⟨_, rfl, (by show 1 ≤ sizeLine; decide), fun u2 hu2 => ?_⟩
      have sq2 := same_upd (o := HO.tup [V.str "open"]) hu2
      refine ⟨tS (lWord wd), tS lOpen, dp_tup (SqT.of (sq2 _ _ hla1)), dp_tup (l := lOpen) (SqT.of upd_same), plain_tS _, plain_tS _, by rw [depth_tS]; decide, _, rfl, ?_⟩
      rw [eqv_tS, decide_eq_false w2]
      have s2 := s1.trans sq2
      have x2 := x1.same sq2
      have hla2 := sq2 _ _ hla1
      have tt2 := tt1.tk (sameTk sq2)
      generalize upd H1 u2 (.tup [V.str "open"]) = H2 at s2 x2 hla2 tt2 ⊢
      refine iteF (iteF ?_)
      refine ⟨_, rfl, (by show 1 ≤ sizeLine; decide), fun u3 hu3 => ?_⟩
      have sq3 := same_upd (o := HO.tup [V.str "heard"]) hu3
      refine ⟨tS (lWord wd), tS lHeard, dp_tup (SqT.of (sq3 _ _ hla2)), dp_tup (l := lHeard) (SqT.of upd_same), plain_tS _, plain_tS _, by rw [depth_tS]; decide, _, rfl, ?_⟩
      rw [eqv_tS, decide_eq_false w3]
      have s3 := s2.trans sq3
      have x3 := x2.same sq3
      have hla3 := sq3 _ _ hla2
      have tt3 := tt2.tk (sameTk sq3)
      generalize upd H2 u3 (.tup [V.str "heard"]) = H3 at s3 x3 hla3 tt3 ⊢
      refine iteF (iteF ?_)
      refine ⟨_, rfl, (by show 1 ≤ sizeLine; decide), fun u4 hu4 => ?_⟩
      have sq4 := same_upd (o := HO.tup [V.str "back"]) hu4
      refine ⟨tS (lWord wd), tS lBack, dp_tup (SqT.of (sq4 _ _ hla3)), dp_tup (l := lBack) (SqT.of upd_same), plain_tS _, plain_tS _, by rw [depth_tS]; decide, _, rfl, ?_⟩
      rw [eqv_tS, decide_eq_false w4]
      have s4 := s3.trans sq4
      have x4 := x3.same sq4
      have hla4 := sq4 _ _ hla3
      have tt4 := tt3.tk (sameTk sq4)
      generalize upd H3 u4 (.tup [V.str "back"]) = H4 at s4 x4 hla4 tt4 ⊢
      refine iteF (iteF ?_)
      exact k.no rfl H4 s4
    | none =>
      have tt0 := tt1
      rw [et] at tt0
      have tt0 : tv = .non := tt0
      subst tt0
      refine iteT ⟨_, rfl, _, rfl, q, _, rfl, x1.gOwe, m.ow, _, rfl, DGet.k (k := Sum.inr g) x1.ow.h, _, rfl, ?_⟩
      rw [dbt_none x1.de]
      by_cases cd : s.debts g = none
      case neg =>
        rw [decide_eq_true cd]
        rw [if_neg fun z => cd z.2] at k
        refine iteF ?_
        refine ⟨_, rfl, (by show 1 ≤ sizeLine; decide), fun u2 hu2 => ?_⟩
        have sq2 := same_upd (o := HO.tup [V.str "open"]) hu2
        refine ⟨tS (lWord wd), tS lOpen, dp_tup (SqT.of (sq2 _ _ hla1)), dp_tup (l := lOpen) (SqT.of upd_same), plain_tS _, plain_tS _, by rw [depth_tS]; decide, _, rfl, ?_⟩
        rw [eqv_tS, decide_eq_false w2]
        have s2 := s1.trans sq2
        have x2 := x1.same sq2
        have hla2 := sq2 _ _ hla1
        have tt2 := tt1.tk (sameTk sq2)
        generalize upd H1 u2 (.tup [V.str "open"]) = H2 at s2 x2 hla2 tt2 ⊢
        refine iteF (iteF ?_)
        refine ⟨_, rfl, (by show 1 ≤ sizeLine; decide), fun u3 hu3 => ?_⟩
        have sq3 := same_upd (o := HO.tup [V.str "heard"]) hu3
        refine ⟨tS (lWord wd), tS lHeard, dp_tup (SqT.of (sq3 _ _ hla2)), dp_tup (l := lHeard) (SqT.of upd_same), plain_tS _, plain_tS _, by rw [depth_tS]; decide, _, rfl, ?_⟩
        rw [eqv_tS, decide_eq_false w3]
        have s3 := s2.trans sq3
        have x3 := x2.same sq3
        have hla3 := sq3 _ _ hla2
        have tt3 := tt2.tk (sameTk sq3)
        generalize upd H2 u3 (.tup [V.str "heard"]) = H3 at s3 x3 hla3 tt3 ⊢
        refine iteF (iteF ?_)
        refine ⟨_, rfl, (by show 1 ≤ sizeLine; decide), fun u4 hu4 => ?_⟩
        have sq4 := same_upd (o := HO.tup [V.str "back"]) hu4
        refine ⟨tS (lWord wd), tS lBack, dp_tup (SqT.of (sq4 _ _ hla3)), dp_tup (l := lBack) (SqT.of upd_same), plain_tS _, plain_tS _, by rw [depth_tS]; decide, _, rfl, ?_⟩
        rw [eqv_tS, decide_eq_false w4]
        have s4 := s3.trans sq4
        have x4 := x3.same sq4
        have hla4 := sq4 _ _ hla3
        have tt4 := tt3.tk (sameTk sq4)
        generalize upd H3 u4 (.tup [V.str "back"]) = H4 at s4 x4 hla4 tt4 ⊢
        refine iteF (iteF ?_)
        exact k.no rfl H4 s4
      rw [decide_eq_false fun z => z cd]
      rw [if_pos ⟨et, cd⟩] at k
      refine iteT ?_
      refine ⟨_, rfl, q, _, rfl, x1.gCount, _, _, rfl, rfl, _, rfl, q, upd H1 q (.dK (mkv s.own s.size m.l m.he (s.ears + 1) m.wo m.ats m.op m.ow m.aw m.pa m.ou)), rfl, DPut.k (k := Sum.inr "count") (v := .int ((s.ears + 1 : Nat) : Int)) x1.self.h (by exact (by decide : (12 : Nat) < sizeLine)), ?_⟩
      have x2 := x1.setCount (n := s.ears + 1)
      have t2 := (Step.same s1 : Step i rl H rl H1).trans (Step.write x1.self (fun z => z) (o' := .dK (mkv s.own s.size m.l m.he (s.ears + 1) m.wo m.ats m.op m.ow m.aw m.pa m.ou)))
      have hla2 := t2.tk _ _ hla
      generalize upd H1 q (.dK (mkv s.own s.size m.l m.he (s.ears + 1) m.wo m.ats m.op m.ow m.aw m.pa m.ou)) = H2 at x2 t2 hla2 ⊢
      have gc : DGet H2 q (.str "count") (some (.int ((s.ears + 1 : Nat) : Int))) := x2.gCount
      refine ⟨_, rfl, la, _, _, _, rfl, rfl, SqT.of hla2, rfl, _, rfl, q, _, rfl, gc, (by show 2 ≤ sizeLine; decide), fun t ht => ?_⟩
      have s3 := same_upd (o := HO.tup [V.str wd, V.int ((s.ears + 1 : Nat) : Int)]) ht
      have x3 := x2.same s3
      have ht3 : upd H2 t (.tup [V.str wd, V.int ((s.ears + 1 : Nat) : Int)]) t = some (.tup [V.str wd, V.int ((s.ears + 1 : Nat) : Int)]) := upd_same
      generalize upd H2 t (.tup [V.str wd, V.int ((s.ears + 1 : Nat) : Int)]) = H3 at s3 x3 ht3 ⊢
      refine ⟨_, rfl, q, _, rfl, x3.gHeard, _, rfl, m.he, _, rfl, DPut.k (k := Sum.inr g) x3.he.h (lim_lt x3.khl (by omega)), ?_⟩
      have x4 := x3.hears (g := g) (tv := .ref t) (t := some (wd, s.ears + 1)) ⟨t, rfl, ht3⟩
      have t4 := t2.trans ((Step.same s3 : Step i rl H2 rl H3).trans (Step.write x3.he (fun z => z) (o' := .dK (putK m.kh (.inr g) (.ref t)))))
      generalize upd H3 m.he (.dK (putK m.kh (.inr g) (.ref t))) = H4 at x4 t4 ⊢
      have x4' : Mine K i rl H4 q (b + 1) (heardW s g wd) { m with kh := putK m.kh (.inr g) (.ref t) } := x4
      have ell : (heardW s g wd).line = s.line := rfl
      have hcalm := calm g wd hg hw et
      refine ⟨_, rfl, _, rfl, i, rl, q, _, _, _, g, rfl, x4', by rw [ell]; omega, hg, old_heardW old g wd, fun rl5 H5 m5 D t5 x5 rD hDn eD => ?_⟩
      rw [hcalm] at eD
      refine ⟨(by show 0 ≤ sizeLine; decide), fun el hel => ?_⟩
      have s6 := same_upd (o := HO.lst []) hel
      refine ⟨lS [], lS [], dp_lst (SqL.of (s6 _ _ eD)), dp_lst (SqL.of upd_same), plain_lS _, plain_lS _, by rw [depth_lS]; decide, ?_⟩
      rw [eqv_lS, decide_eq_true rfl]
      exact k.yes _ rfl rl5 _ m5 ((t4.trans t5).thenSame s6) ((x5.same s6).mono (by rw [ell]; omega))
  · rw [decide_eq_false (by decide), act_open s g hg] at *
    refine iteF (iteF ?_)
    refine ⟨_, rfl, (by show 1 ≤ sizeLine; decide), fun u2 hu2 => ?_⟩
    have sq2 := same_upd (o := HO.tup [V.str "open"]) hu2
    refine ⟨tS lOpen, tS lOpen, dp_tup (SqT.of (sq2 _ _ hla1)), dp_tup (l := lOpen) (SqT.of upd_same), plain_tS _, plain_tS _, by rw [depth_tS]; decide, _, rfl, ?_⟩
    rw [eqv_tS, decide_eq_true rfl]
    have s2 := s1.trans sq2
    have x2 := x1.same sq2
    have hla2 := sq2 _ _ hla1
    have tt2 := tt1.tk (sameTk sq2)
    generalize upd H1 u2 (.tup [V.str "open"]) = H2 at s2 x2 hla2 tt2 ⊢
    refine iteT ⟨_, rfl, rfl, _, rfl, ?_⟩
    cases et : (s.pl g).told with
    | none =>
      rw [if_pos et] at k
      have tt0 := tt2
      rw [et] at tt0
      have tt0 : tv = .non := tt0
      subst tt0
      refine iteF ?_
      refine ⟨_, rfl, (by show 1 ≤ sizeLine; decide), fun u3 hu3 => ?_⟩
      have sq3 := same_upd (o := HO.tup [V.str "heard"]) hu3
      refine ⟨tS lOpen, tS lHeard, dp_tup (SqT.of (sq3 _ _ hla2)), dp_tup (l := lHeard) (SqT.of upd_same), plain_tS _, plain_tS _, by rw [depth_tS]; decide, _, rfl, ?_⟩
      rw [eqv_tS, decide_eq_false (by decide)]
      have s3 := s2.trans sq3
      have x3 := x2.same sq3
      have hla3 := sq3 _ _ hla2
      have tt3 := tt2.tk (sameTk sq3)
      generalize upd H2 u3 (.tup [V.str "heard"]) = H3 at s3 x3 hla3 tt3 ⊢
      refine iteF (iteF ?_)
      refine ⟨_, rfl, (by show 1 ≤ sizeLine; decide), fun u4 hu4 => ?_⟩
      have sq4 := same_upd (o := HO.tup [V.str "back"]) hu4
      refine ⟨tS lOpen, tS lBack, dp_tup (SqT.of (sq4 _ _ hla3)), dp_tup (l := lBack) (SqT.of upd_same), plain_tS _, plain_tS _, by rw [depth_tS]; decide, _, rfl, ?_⟩
      rw [eqv_tS, decide_eq_false (by decide)]
      have s4 := s3.trans sq4
      have x4 := x3.same sq4
      have hla4 := sq4 _ _ hla3
      have tt4 := tt3.tk (sameTk sq4)
      generalize upd H3 u4 (.tup [V.str "back"]) = H4 at s4 x4 hla4 tt4 ⊢
      refine iteF (iteF ?_)
      exact k.no rfl H4 s4
    | some tn =>
      obtain ⟨wt, n⟩ := tn
      rw [if_neg fun z => by rw [et] at z; cases z] at k
      have tt0 := tt2
      rw [et] at tt0
      obtain ⟨t0, rfl, ht0⟩ := tt0
      refine iteT ⟨_, rfl, q, _, rfl, x2.gHeard, _, rfl, m.he, _, rfl, DPut.k (k := Sum.inr g) x2.he.h (lim_lt x2.khl (by omega)), ?_⟩
      have x4 := x2.hears (g := g) (tv := .non) (t := none) rfl
      have t4 := (Step.same s2 : Step i rl H rl H2).trans (Step.write x2.he (fun z => z) (o' := .dK (putK m.kh (.inr g) .non)))
      generalize upd H2 m.he (.dK (putK m.kh (.inr g) .non)) = H4 at x4 t4 ⊢
      have ell : (s.setPl g { (s.pl g) with told := none }).line = s.line := rfl
      refine ⟨_, rfl, _, rfl, i, rl, q, _, _, _, g, rfl, x4, by rw [ell]; omega, hg, old_setPl old g _ (.inr rfl), fun rl5 H5 m5 D t5 x5 rD hDn eD => ?_⟩
      have lb := lookN_len (s.setPl g { (s.pl g) with told := none }) (some g) (behind (s.setPl g { (s.pl g) with told := none }) g)
      have lb2 := behind_le (s.setPl g { (s.pl g) with told := none }) g
      rw [ell] at lb2 x5
      have eho : hearOpen s g = if (lookN (s.setPl g { (s.pl g) with told := none }) (some g) (behind (s.setPl g { (s.pl g) with told := none }) g)).2 = [] then (lookN (s.setPl g { (s.pl g) with told := none }) (some g) (behind (s.setPl g { (s.pl g) with told := none }) g)).1.say g lHeard else (lookN (s.setPl g { (s.pl g) with told := none }) (some g) (behind (s.setPl g { (s.pl g) with told := none }) g)).1.setDebt g (some (lookN (s.setPl g { (s.pl g) with told := none }) (some g) (behind (s.setPl g { (s.pl g) with told := none }) g)).2) := rfl
      rw [eho] at k
      generalize lookN (s.setPl g { (s.pl g) with told := none }) (some g) (behind (s.setPl g { (s.pl g) with told := none }) g) = r at x5 eD lb k
      have t45 := t4.trans t5
      have hDH : H D = none := t4.was_free hDn
      refine ⟨_, rfl, (by show 0 ≤ sizeLine; decide), fun el hel => ?_⟩
      have s6 := same_upd (o := HO.lst []) hel
      refine ⟨lS r.2, lS [], dp_lst (SqL.of (s6 _ _ eD)), dp_lst (SqL.of upd_same), plain_lS _, plain_lS _, by rw [depth_lS]; decide, _, rfl, ?_⟩
      rw [eqv_lS]
      have x6 := x5.same s6
      have eD6 := s6 _ _ eD
      have t6 := t45.thenSame s6
      generalize upd H5 el (.lst []) = H6 at x6 eD6 t6 ⊢
      by_cases ce : r.2 = []
      · rw [decide_eq_true ce]
        rw [if_pos ce] at k
        refine iteT ⟨_, rfl, q, _, rfl, x6.gOut, .inl ⟨rfl, _, SqL.of x6.ou.h⟩, _, rfl, (by show 1 ≤ sizeLine; decide), fun u8 hu8 => ⟨(by show 2 ≤ sizeLine; decide), fun t8 ht8 => ?_⟩⟩
        have s8 := (same_upd (o := HO.tup [V.str "heard"]) hu8).trans (same_upd (o := HO.tup [V.str g, V.ref u8]) ht8)
        have nut : u8 ≠ t8 := ne_of_none upd_same ht8
        have hu9 : upd (upd H6 u8 (.tup [V.str "heard"])) t8 (.tup [V.str g, V.ref u8]) u8 = some (.tup (lHeard.map V.str)) := by rw [upd_ne nut]; exact upd_same
        have x8 := x6.same s8
        refine ⟨m5.ou, _, _, rfl, rfl, x8.ou.h, len_vo x8 (by omega), ?_⟩
        have x9 := x8.say (g := g) (l := lHeard) ⟨t8, u8, rfl, upd_same, .inl hu9⟩
        have t9 := Step.write x8.ou (fun z => z) (o' := .lst (m5.vo ++ [V.ref t8]))
        exact k.yes _ rfl rl5 _ _ (t6.trans ((Step.same s8).trans t9)) (x9.mono (by omega))
      · rw [decide_eq_false ce]
        rw [if_neg ce] at k
        refine iteF ⟨_, rfl, _, rfl, q, _, rfl, x6.gOwe, _, rfl, m5.ow, _, rfl, DPut.k (k := Sum.inr g) x6.ow.h (lim_lt x6.kdl (by omega)), ?_⟩
        have x7 := x6.setDebt (o := g) (fun w e => by rw [rD] at e; cases e) eD6 (Nat.le_trans lb (by omega))
        have t7 := (t6.trans (Step.write x6.ow (fun z => z) (o' := .dK (putK m5.kd (.inr g) (.ref D))))).give (b := D) hDH (v := some (i, .debt g))
        exact k.yes _ rfl _ _ _ t7 (x7.mono (by omega))
  · rw [decide_eq_false (by decide), act_heard s g hg] at *
    refine iteF (iteF ?_)
    refine ⟨_, rfl, (by show 1 ≤ sizeLine; decide), fun u2 hu2 => ?_⟩
    have sq2 := same_upd (o := HO.tup [V.str "open"]) hu2
    refine ⟨tS lHeard, tS lOpen, dp_tup (SqT.of (sq2 _ _ hla1)), dp_tup (l := lOpen) (SqT.of upd_same), plain_tS _, plain_tS _, by rw [depth_tS]; decide, _, rfl, ?_⟩
    rw [eqv_tS, decide_eq_false (by decide)]
    have s2 := s1.trans sq2
    have x2 := x1.same sq2
    have hla2 := sq2 _ _ hla1
    have tt2 := tt1.tk (sameTk sq2)
    generalize upd H1 u2 (.tup [V.str "open"]) = H2 at s2 x2 hla2 tt2 ⊢
    refine iteF (iteF ?_)
    refine ⟨_, rfl, (by show 1 ≤ sizeLine; decide), fun u3 hu3 => ?_⟩
    have sq3 := same_upd (o := HO.tup [V.str "heard"]) hu3
    refine ⟨tS lHeard, tS lHeard, dp_tup (SqT.of (sq3 _ _ hla2)), dp_tup (l := lHeard) (SqT.of upd_same), plain_tS _, plain_tS _, by rw [depth_tS]; decide, _, rfl, ?_⟩
    rw [eqv_tS, decide_eq_true rfl]
    have s3 := s2.trans sq3
    have x3 := x2.same sq3
    have hla3 := sq3 _ _ hla2
    have tt3 := tt2.tk (sameTk sq3)
    generalize upd H2 u3 (.tup [V.str "heard"]) = H3 at s3 x3 hla3 tt3 ⊢
    refine iteT ⟨_, rfl, _, rfl, q, _, rfl, x3.gOpen, m.op, _, rfl, DGet.k (k := Sum.inr g) x3.op.h, _, rfl, ?_⟩
    by_cases co : (s.pl g).opened = true
    case neg =>
      have e1 : valV m.ko (.inr g) = none := by rw [x3.oy g, if_neg fun z => co z.2]
      rw [e1]
      rw [if_neg co] at k
      refine iteF ?_
      refine ⟨_, rfl, (by show 1 ≤ sizeLine; decide), fun u4 hu4 => ?_⟩
      have sq4 := same_upd (o := HO.tup [V.str "back"]) hu4
      refine ⟨tS lHeard, tS lBack, dp_tup (SqT.of (sq4 _ _ hla3)), dp_tup (l := lBack) (SqT.of upd_same), plain_tS _, plain_tS _, by rw [depth_tS]; decide, _, rfl, ?_⟩
      rw [eqv_tS, decide_eq_false (by decide)]
      have s4 := s3.trans sq4
      have x4 := x3.same sq4
      have hla4 := sq4 _ _ hla3
      have tt4 := tt3.tk (sameTk sq4)
      generalize upd H3 u4 (.tup [V.str "back"]) = H4 at s4 x4 hla4 tt4 ⊢
      refine iteF (iteF ?_)
      exact k.no rfl H4 s4
    have e1 : valV m.ko (.inr g) = some (oV (s.pl g).source) := by rw [x3.oy g, if_pos ⟨hg, co⟩]
    rw [e1]
    rw [if_pos co] at k
    refine iteT ⟨_, rfl, q, _, rfl, x3.gOpen, m.op, rfl, .inl ⟨_, .inl x3.op.h⟩, _, rfl, m.ko, Sum.inr g, _, x3.op.h, rfl, e1, ?_⟩
    have x4 := x3.closes (g := g)
    have t4 := (Step.same s3 : Step i rl H rl H3).trans (Step.write x3.op (fun z => z) (o' := .dK (dropK m.ko (.inr g))))
    generalize upd H3 m.op (.dK (dropK m.ko (.inr g))) = H4 at x4 t4 ⊢
    have old4 : Old (s.setPl g { (s.pl g) with opened := false, source := none }) := old_setPl old g _ (.inl rfl)
    refine ⟨_, rfl, _, rfl, i, rl, q, _, _, _, g, none, rfl, x4, by omega, hg, old4, fun H5 m5 t5 x5 => ?_⟩
    have ell : (look (s.setPl g { (s.pl g) with opened := false, source := none }) g none).1.line = s.line := look_line _ _ _
    refine ⟨_, rfl, _, rfl, i, rl, q, _, _, _, g, rfl, x5, by rw [ell]; omega, fun rl6 H6 m6 t6 x6 => ?_⟩
    exact k.yes _ rfl rl6 H6 m6 ((t4.trans t5).trans t6) (x6.mono (by rw [ell]; omega))
  · rw [decide_eq_false (by decide), act_back s g hg] at *
    refine iteF (iteF ?_)
    refine ⟨_, rfl, (by show 1 ≤ sizeLine; decide), fun u2 hu2 => ?_⟩
    have sq2 := same_upd (o := HO.tup [V.str "open"]) hu2
    refine ⟨tS lBack, tS lOpen, dp_tup (SqT.of (sq2 _ _ hla1)), dp_tup (l := lOpen) (SqT.of upd_same), plain_tS _, plain_tS _, by rw [depth_tS]; decide, _, rfl, ?_⟩
    rw [eqv_tS, decide_eq_false (by decide)]
    have s2 := s1.trans sq2
    have x2 := x1.same sq2
    have hla2 := sq2 _ _ hla1
    have tt2 := tt1.tk (sameTk sq2)
    generalize upd H1 u2 (.tup [V.str "open"]) = H2 at s2 x2 hla2 tt2 ⊢
    refine iteF (iteF ?_)
    refine ⟨_, rfl, (by show 1 ≤ sizeLine; decide), fun u3 hu3 => ?_⟩
    have sq3 := same_upd (o := HO.tup [V.str "heard"]) hu3
    refine ⟨tS lBack, tS lHeard, dp_tup (SqT.of (sq3 _ _ hla2)), dp_tup (l := lHeard) (SqT.of upd_same), plain_tS _, plain_tS _, by rw [depth_tS]; decide, _, rfl, ?_⟩
    rw [eqv_tS, decide_eq_false (by decide)]
    have s3 := s2.trans sq3
    have x3 := x2.same sq3
    have hla3 := sq3 _ _ hla2
    have tt3 := tt2.tk (sameTk sq3)
    generalize upd H2 u3 (.tup [V.str "heard"]) = H3 at s3 x3 hla3 tt3 ⊢
    refine iteF (iteF ?_)
    refine ⟨_, rfl, (by show 1 ≤ sizeLine; decide), fun u4 hu4 => ?_⟩
    have sq4 := same_upd (o := HO.tup [V.str "back"]) hu4
    refine ⟨tS lBack, tS lBack, dp_tup (SqT.of (sq4 _ _ hla3)), dp_tup (l := lBack) (SqT.of upd_same), plain_tS _, plain_tS _, by rw [depth_tS]; decide, _, rfl, ?_⟩
    rw [eqv_tS, decide_eq_true rfl]
    have s4 := s3.trans sq4
    have x4 := x3.same sq4
    have hla4 := sq4 _ _ hla3
    have tt4 := tt3.tk (sameTk sq4)
    generalize upd H3 u4 (.tup [V.str "back"]) = H4 at s4 x4 hla4 tt4 ⊢
    refine iteT ⟨_, rfl, _, rfl, q, _, rfl, x4.gAway, m.aw, s.away, g, rfl, rfl, .inl (SqL.of x4.aw.h), _, rfl, ?_⟩
    rw [if_neg Bool.false_ne_true]
    by_cases ca : g ∈ s.away
    case neg =>
      rw [decide_eq_false ca]
      rw [if_neg ca] at k
      exact iteF (k.no rfl H4 s4)
    rw [decide_eq_true ca]
    rw [if_pos ca] at k
    refine iteT ⟨_, rfl, q, _, rfl, x4.gAway, .inl ⟨rfl, _, SqL.of x4.aw.h⟩, _, rfl, m.aw, s.away, g, rfl, rfl, x4.aw.h, ca, ?_⟩
    have x5 := x4.setAway (l := s.away.erase g) (Nat.le_succ_of_le (Nat.le_trans (List.length_erase_le ..) x4.few.away))
    have eb : s.away.erase g = s.away.filter fun x => decide (x ≠ g) := by
      rw [nda.erase_eq_filter]
      refine List.filter_congr fun y _ => ?_
      by_cases z : y = g
      · subst z; simp
      · simp [z]
    have t5 := (Step.same s4 : Step i rl H rl H4).trans (Step.write x4.aw (fun z => z) (o' := .lst ((s.away.erase g).map .str)))
    generalize upd H4 m.aw (.lst ((s.away.erase g).map .str)) = H5 at x5 t5 ⊢
    rw [eb] at x5
    exact k.yes _ rfl rl H5 m t5 (x5.mono (by omega))
  · rw [decide_eq_false n1]
    refine iteF (iteF ?_)
    refine ⟨_, rfl, (by show 1 ≤ sizeLine; decide), fun u2 hu2 => ?_⟩
    have sq2 := same_upd (o := HO.tup [V.str "open"]) hu2
    refine ⟨tS l, tS lOpen, dp_tup (SqT.of (sq2 _ _ hla1)), dp_tup (l := lOpen) (SqT.of upd_same), plain_tS _, plain_tS _, by rw [depth_tS]; decide, _, rfl, ?_⟩
    rw [eqv_tS, decide_eq_false n2]
    have s2 := s1.trans sq2
    have x2 := x1.same sq2
    have hla2 := sq2 _ _ hla1
    have tt2 := tt1.tk (sameTk sq2)
    generalize upd H1 u2 (.tup [V.str "open"]) = H2 at s2 x2 hla2 tt2 ⊢
    refine iteF (iteF ?_)
    refine ⟨_, rfl, (by show 1 ≤ sizeLine; decide), fun u3 hu3 => ?_⟩
    have sq3 := same_upd (o := HO.tup [V.str "heard"]) hu3
    refine ⟨tS l, tS lHeard, dp_tup (SqT.of (sq3 _ _ hla2)), dp_tup (l := lHeard) (SqT.of upd_same), plain_tS _, plain_tS _, by rw [depth_tS]; decide, _, rfl, ?_⟩
    rw [eqv_tS, decide_eq_false n3]
    have s3 := s2.trans sq3
    have x3 := x2.same sq3
    have hla3 := sq3 _ _ hla2
    have tt3 := tt2.tk (sameTk sq3)
    generalize upd H2 u3 (.tup [V.str "heard"]) = H3 at s3 x3 hla3 tt3 ⊢
    refine iteF (iteF ?_)
    refine ⟨_, rfl, (by show 1 ≤ sizeLine; decide), fun u4 hu4 => ?_⟩
    have sq4 := same_upd (o := HO.tup [V.str "back"]) hu4
    refine ⟨tS l, tS lBack, dp_tup (SqT.of (sq4 _ _ hla3)), dp_tup (l := lBack) (SqT.of upd_same), plain_tS _, plain_tS _, by rw [depth_tS]; decide, _, rfl, ?_⟩
    rw [eqv_tS, decide_eq_false n4]
    have s4 := s3.trans sq4
    have x4 := x3.same sq4
    have hla4 := sq4 _ _ hla3
    have tt4 := tt3.tk (sameTk sq4)
    generalize upd H3 u4 (.tup [V.str "back"]) = H4 at s4 x4 hla4 tt4 ⊢
    refine iteF (iteF ?_)
    exact k.no ea H4 s4
end
end G
set_option Elab.async false
set_option linter.all false
set_option maxRecDepth 100000
set_option maxHeartbeats 4000000
namespace G
open PySem PySem.Spec PyProof.Rows L2
/-- what is to be done, as a value -/
def WhatV (H : Hp) (a : Addr) : What → Prop
  | .put g n => H a = some (.tup [.str "put", .str g, .int n]) ∧ n ≤ Lim
  | .out g => H a = some (.tup [.str "out", .str g])
  | .room n => H a = some (.tup [.str "room", .int n])
  | .hear g l => ∃ la, H a = some (.tup [.str "hear", .str g, .ref la]) ∧ H la = some (.tup (l.map .str)) ∧ l ∈ ltrs
theorem WhatV.tk {H H' : Hp} {a : Addr} {w : What} (h : WhatV H a w) (k : TK H H') : WhatV H' a w := by
  cases w with
  | put g n => exact ⟨k _ _ h.1, h.2⟩
  | out g => exact k _ _ h
  | room n => exact k _ _ h
  | hear g l => obtain ⟨la, e1, e2, e3⟩ := h; exact ⟨la, k _ _ e1, k _ _ e2, e3⟩
def costD (s : S) : Nat := 9 * s.line.length + 40
section
variable {P : Program} {w : World} {K : PySem.W.Frag} {mg : Str → Option Value} {base : Heap}

/-- the last rows of did: the chairs, the answer -/
def tailDid (K : PySem.W.Frag) : TS :=
  tSeq (tFor (iList K (tDGet (tVar 0) (tC (V.str "line")))) (gName 3)
      (tSeq (tAsg (tDGet (tDGet (tVar 0) (tC (V.str "heard"))) (tVar 3)) (gName 4))
        (tIfS (tAnd (tB (tVar 2)) (tAnd (tTest (tOp (fun x y H Q => y = V.non ∧ Q (V.bl !decide (x = V.non)) H) (tVar 4) (tC V.non)))
              (tAnd (tTest (tOp rEq (tOp (rIxT K) (tVar 4) (tC (V.int 0))) (tC (V.str "in"))))
                (tTest (tOp (rInS K true) (tVar 3) (tDGet (tVar 0) (tC (V.str "away"))))))))
          (tIfS (tTest (tOp (rI0 fun i j => V.bl (decide (i < j)))
                (tCB (fun xs H_1 Q => ∃ p ys, xs = [V.ref p] ∧ (SqL K H_1 p ys ∨ SqT K H_1 p ys) ∧ Q (V.int ys.length) H_1) (tCons (tDGet (tVar 0) (tC (V.str "away"))) tNil))
                (tDGet (tVar 0) (tC (V.str "room")))))
            (tSeq (tDrop (tBM K "list" rAppend (tDGet (tVar 0) (tC (V.str "away"))) (tCons (tVar 3) tNil)))
              (tDrop (tBM K "list" rAppend (tDGet (tVar 0) (tC (V.str "out"))) (tCons (tTup (tCons (tVar 3) (tCons (tTup (tCons (tC (V.str "chair")) tNil)) tNil))) tNil))))
            tNext)
          tNext)))
    (tRet (tIf (tB (tVar 2)) (tDGet (tVar 0) (tC (V.str "out"))) (tC V.non)))
theorem did_no {i : Nat} {rl : Rl} {H : Hp} {q wa : Addr} {b : Nat} {s : S} {m : MA} {Q : VK} (x : Mine K i rl H q b s m) (k : Q .non H) :
    tailDid K { nx := fun _ H' => Q .non H', rt := Q } [some (.ref q), some (.ref wa), some (.bl false), none, none] H := by
  refine ⟨_, rfl, q, _, rfl, x.gLine, m.l, rfl, ⟨_, SqL.of x.line.h⟩, ?_⟩
  refine for_list (K := K) (a := m.l) (xs := s.line.map V.str) (fun j σ H2 => ∃ v1 v2, σ = [some (.ref q), some (.ref wa), some (.bl false), v1, v2] ∧ H2 = H) ⟨none, none, rfl, rfl⟩ (fun j σ H2 _ ⟨_, _, _, e⟩ => by rw [e]; exact SqL.of x.line.h) ?_ ?_
  · rintro j v σ H2 hj ⟨v1, v2, rfl, rfl⟩
    rw [List.getElem?_map] at hj
    obtain ⟨g, hg, rfl⟩ := Option.map_eq_some_iff.mp hj
    obtain ⟨tv, e, t⟩ := x.hy g (List.mem_of_getElem? hg)
    have gd : DGet H2 m.he (.str g) (some tv) := by rw [← e]; exact DGet.k (k := Sum.inr g) x.he.h
    exact ⟨_, rfl, q, _, rfl, x.gHeard, _, rfl, m.he, tv, rfl, gd, _, rfl, _, rfl, iteF (iteF ⟨_, _, rfl, rfl⟩)⟩
  · rintro σ H2 ⟨v1, v2, rfl, rfl⟩
    exact ⟨_, rfl, _, rfl, iteF k⟩
theorem dealF_line (l : List Str) : ∀ s : S, (l.foldl dealOne s).line = s.line := by
  induction l with
  | nil => intro s; rfl
  | cons g l ih => intro s; rw [List.foldl_cons, ih, dealOne_line]
theorem dealF_told (l : List Str) (g : Str) : ∀ s : S, ((l.foldl dealOne s).pl g) = s.pl g := by
  induction l with
  | nil => intro s; rfl
  | cons o l ih =>
    intro s
    rw [List.foldl_cons, ih]
    unfold dealOne
    split <;> rfl
theorem hit_in (t : Option (Str × Nat)) : hit "in" none t = true ↔ ∃ n : Nat, t = some (("in" : Str), n) := by
  cases t with
  | none => exact ⟨fun z => (by cases z), fun ⟨_, z⟩ => (by cases z)⟩
  | some xn =>
    obtain ⟨x, n⟩ := xn
    show (decide (x = "in") && true) = true ↔ _
    rw [Bool.and_true, decide_eq_true_eq]
    exact ⟨fun z => ⟨n, by rw [z]⟩, fun ⟨n', z⟩ => by injection z with z; injection z with z _⟩
theorem did_yes {i : Nat} {rl : Rl} {H : Hp} {q wa : Addr} {b : Nat} {s : S} {m : MA} {Q : VK} (x : Mine K i rl H q b s m) (hb : b + 2 * s.line.length ≤ Lim)
    (k : ∀ H' m', Step i rl H rl H' → Mine K i rl H' q (b + 2 * s.line.length) (G.deal s) m' → Q (.ref m'.ou) H') :
    tailDid K { nx := fun _ H' => Q .non H', rt := Q } [some (.ref q), some (.ref wa), some (.bl true), none, none] H := by
  refine ⟨_, rfl, q, _, rfl, x.gLine, m.l, rfl, ⟨_, SqL.of x.line.h⟩, ?_⟩
  refine for_list (K := K) (a := m.l) (xs := s.line.map V.str) (fun j σ H2 => ∃ v1 v2 m2, σ = [some (.ref q), some (.ref wa), some (.bl true), v1, v2] ∧ Step i rl H rl H2 ∧ Mine K i rl H2 q (b + 2 * j) ((s.line.take j).foldl dealOne s) m2 ∧ m2.l = m.l) ⟨none, none, m, rfl, Step.refl, x, rfl⟩
    (fun j σ H2 _ ⟨_, _, m2, _, _, x2, e⟩ => by
      have z := x2.line.h
      rw [e, dealF_line] at z
      exact SqL.of z) ?_ ?_
  · rintro j v σ H2 hj ⟨v1, v2, m2, rfl, t2, x2, el⟩
    rw [List.getElem?_map] at hj
    obtain ⟨g, hg, rfl⟩ := Option.map_eq_some_iff.mp hj
    have hjl : j < s.line.length := (List.getElem?_eq_some_iff.mp hg).1
    have e1 : (s.line.take (j + 1)).foldl dealOne s = dealOne ((s.line.take j).foldl dealOne s) g := by rw [take_succ_at hg, List.foldl_append]; rfl
    rw [e1]
    have hgl : g ∈ ((s.line.take j).foldl dealOne s).line := by rw [dealF_line]; exact List.mem_of_getElem? hg
    generalize (s.line.take j).foldl dealOne s = sk at x2 hgl
    obtain ⟨tv, e, t⟩ := x2.hy g hgl
    have gd : DGet H2 m2.he (.str g) (some tv) := by rw [← e]; exact DGet.k (k := Sum.inr g) x2.he.h
    refine ⟨_, rfl, q, _, rfl, x2.gHeard, _, rfl, m2.he, tv, rfl, gd, _, rfl, _, rfl, iteT ⟨_, rfl, rfl, _, rfl, ?_⟩⟩
    have hno : ∀ (hh : ¬ (hit "in" none (sk.pl g).told = true ∧ g ∉ sk.away ∧ sk.away.length < sk.size)), dealOne sk g = sk := fun hh => by unfold dealOne; rw [if_neg hh]
    cases et : (sk.pl g).told with
    | none =>
      rw [et] at t
      have t' : tv = .non := t
      subst t'
      rw [hno fun z => by rw [et] at z; cases z.1]
      exact iteF (iteF ⟨_, _, m2, rfl, t2, x2.mono (by omega), el⟩)
    | some xn =>
      obtain ⟨wd, n⟩ := xn
      rw [et] at t
      obtain ⟨ta, rfl, hta⟩ := t
      refine iteT ⟨_, rfl, ta, _, _, _, rfl, rfl, SqT.of hta, rfl, rfl, _, rfl, ?_⟩
      have ed : decide (V.str wd = V.str "in") = decide (wd = "in") := decide_eq_decide.mpr ⟨fun z => by cases z; rfl, fun z => by rw [z]⟩
      rw [ed]
      by_cases c1 : wd = "in"
      case neg =>
        rw [decide_eq_false c1, hno fun z => by rw [hit_in, et] at z; obtain ⟨⟨n', z⟩, _⟩ := z; injection z with z; injection z with z _; exact c1 z]
        exact iteF (iteF ⟨_, _, m2, rfl, t2, x2.mono (by omega), el⟩)
      rw [decide_eq_true c1]
      refine iteT ⟨_, rfl, _, rfl, q, _, rfl, x2.gAway, m2.aw, sk.away, g, rfl, rfl, .inl (SqL.of x2.aw.h), _, rfl, ?_⟩
      rw [if_pos rfl]
      by_cases c2 : g ∈ sk.away
      · rw [decide_eq_true c2, hno fun z => z.2.1 c2]
        exact iteF ⟨_, _, m2, rfl, t2, x2.mono (by omega), el⟩
      rw [decide_eq_false c2]
      refine iteT ⟨_, rfl, q, _, rfl, x2.gAway, m2.aw, _, rfl, .inl (SqL.of x2.aw.h), _, rfl, q, _, rfl, x2.gRoom, _, _, rfl, rfl, _, rfl, ?_⟩
      rw [List.length_map]
      by_cases c3 : sk.away.length < sk.size
      case neg =>
        rw [decide_eq_false (show ¬ ((sk.away.length : Nat) : Int) < (sk.size : Int) by omega), hno fun z => c3 z.2.2]
        exact iteF ⟨_, _, m2, rfl, t2, x2.mono (by omega), el⟩
      rw [decide_eq_true (show ((sk.away.length : Nat) : Int) < (sk.size : Int) by omega)]
      refine iteT ⟨_, rfl, q, _, rfl, x2.gAway, .inl ⟨rfl, _, SqL.of x2.aw.h⟩, _, rfl, m2.aw, _, _, rfl, rfl, x2.aw.h, by rw [List.length_map]; exact lim_lt x2.few.away (by omega), ?_⟩
      rw [show sk.away.map V.str ++ [V.str g] = (sk.away ++ [g]).map V.str from by rw [List.map_append]; rfl]
      have x3 := x2.setAway (l := sk.away ++ [g]) (by rw [List.length_append]; exact Nat.succ_le_succ x2.few.away)
      have t3 := t2.trans (Step.write x2.aw (fun z => z) (o' := .lst ((sk.away ++ [g]).map .str)))
      generalize upd H2 m2.aw (.lst ((sk.away ++ [g]).map .str)) = H3 at x3 t3 ⊢
      refine ⟨_, rfl, q, _, rfl, x3.gOut, .inl ⟨rfl, _, SqL.of x3.ou.h⟩, _, rfl, (by show 1 ≤ sizeLine; decide), fun u8 hu8 => ⟨(by show 2 ≤ sizeLine; decide), fun t8 ht8 => ?_⟩⟩
      have s8 := (same_upd (o := HO.tup [V.str "chair"]) hu8).trans (same_upd (o := HO.tup [V.str g, V.ref u8]) ht8)
      have nut : u8 ≠ t8 := ne_of_none upd_same ht8
      have hu9 : upd (upd H3 u8 (.tup [V.str "chair"])) t8 (.tup [V.str g, V.ref u8]) u8 = some (.tup (lChair.map V.str)) := by rw [upd_ne nut]; exact upd_same
      have x8 := x3.same s8
      refine ⟨m2.ou, _, _, rfl, rfl, x8.ou.h, len_vo x8 (by omega), ?_⟩
      have x9 := x8.say (g := g) (l := lChair) ⟨t8, u8, rfl, upd_same, .inl hu9⟩
      have t9 := Step.write x8.ou (fun z => z) (o' := .lst (m2.vo ++ [V.ref t8]))
      have ey : dealOne sk g = { sk with away := sk.away ++ [g], going := sk.going ++ [(g, lChair)] } := by
        unfold dealOne
        rw [if_pos ⟨(hit_in _).mpr ⟨n, by rw [et, c1]⟩, c2, c3⟩]
      rw [ey]
      exact ⟨_, _, _, rfl, t3.trans ((Step.same s8).trans t9), x9.mono (by omega), el⟩
  · rintro σ H2 ⟨v1, v2, m2, rfl, t2, x2, el⟩
    rw [List.length_map, List.take_length] at x2
    exact ⟨_, rfl, _, rfl, iteT ⟨_, rfl, q, _, rfl, x2.gOut, k H2 m2 t2 x2⟩⟩

theorem act_len {s s' : S} {wh : What} (e : act s wh = some s') : s'.line.length ≤ s.line.length + 1 := by
  cases wh with
  | put g n =>
    have ea : act s (.put g n) = if g = s.own ∨ g ∈ s.line then none else if s.line.length < n then none else some (lookAll (G.putIn s g n)) := rfl
    rw [ea] at e
    split at e
    · cases e
    · split at e
      · cases e
      · cases e
        show (lookN _ _ _).1.line.length ≤ _
        rw [lookN_line]
        exact Nat.le_of_eq len_ins
  | out g =>
    have ea : act s (.out g) = if g ∈ s.line then some (noMore (lookAll (without s g)) g) else none := rfl
    rw [ea] at e
    split at e
    · cases e
      rw [noMore_line]
      show (lookN _ _ _).1.line.length ≤ _
      rw [lookN_line]
      exact Nat.le_succ_of_le (List.length_erase_le ..)
    · cases e
  | room n =>
    have ea : act s (.room n) = if n < s.away.length then none else some (lookAll { s with size := n }) := rfl
    rw [ea] at e
    split at e
    · cases e
    · cases e
      show (lookN _ _ _).1.line.length ≤ _
      rw [lookN_line]
      exact Nat.le_succ _
  | hear g l =>
    by_cases hg : g ∈ s.line
    case neg => rw [act_no s g l hg] at e; cases e
    have hall : s'.line = s.line := by
      unfold act at e
      dsimp only at e
      rw [if_pos hg] at e
      split at e
      · split at e
        · cases e; exact hearWord_line _ _ _
        · cases e
      · split at e
        · split at e
          · cases e
          · cases e; exact hearOpen_line _ _
        · split at e
          · split at e
            · cases e; exact close_line _ _
            · cases e
          · split at e
            · split at e
              · cases e; rfl
              · cases e
            · cases e
    rw [hall]
    exact Nat.le_succ _

/-! ### _law_did -/
def spLDid (K : PySem.W.Frag) : Sp := fun vs H Q _ => ∃ (i : Nat) (rl : Rl) (q : Addr) (b : Nat) (s : S) (m : MA) (gs : List Ltr) (wa : Addr) (wh : What), vs = [.ref q, .ref wa] ∧ Mine K i rl H q b { s with going := gs } m ∧ s.going = [] ∧ WhatV H wa wh ∧ b + costD s ≤ Lim ∧ Old s ∧ s.line.Nodup ∧ s.away.Nodup ∧ Calm s ∧
  (act s wh = none → ∀ rl' H' m', Step i rl H rl' H' → Mine K i rl' H' q (b + costD s) s m' → Q .non H') ∧
  ∀ s', act s wh = some s' → ∀ rl' H' m', Step i rl H rl' H' → Mine K i rl' H' q (b + costD s) (G.deal s') m' → Q (.ref m'.ou) H'
theorem sc_Ldid : FnScope ["_law_mine", "_law_what_here", "_law_good", "_law_guest", "_law_told"] ["_law_mine", "_law_what_here"] (defScope s_L_did) := ⟨rfl, rfl, rfl, by decide +kernel, rfl, by decide +kernel, by decide +kernel⟩
theorem ok_Ldid (T : Txt K mg) : Ok P w K mg base CX0 5 (He.fAd K ("_law_did", none)) ["_law_mine", "_law_what_here"] (spLDid K) := by
  obtain ⟨fd1, G1, b1, k1⟩ := (ok_Lput (P := P) (w := w) (base := base) T).ex
  obtain ⟨fd2, G2, b2, k2⟩ := (ok_Lout (P := P) (w := w) (base := base) T).ex
  obtain ⟨fd3, G3, b3, k3⟩ := (ok_Lall (P := P) (w := w) (base := base) T).ex
  obtain ⟨fd4, G4, b4, k4⟩ := (ok_Lhears (P := P) (w := w) (base := base) T).ex
  refine Ok.of T.f_L_did sc_Ldid (fun _ _ _ _ _ _ us hl => match us, hl with | [_, _], _ => rfl) (fun vs H Q E h => by obtain ⟨_, _, _, _, _, _, _, _, _, rfl, _⟩ := h; rfl) (fun cdv A outer s H vs Q E hr h => ?_)
  obtain ⟨i, rl, q, b, s, m, gs, wa, wh, rfl, x, hgo, hw, hb, old, nd, nda, calm, kno, kyes⟩ := h
  have hu := hu_of hr
  have hn := sc_Ldid.nd
  have hr3 : Room 3 _ := hr.mono (by decide)
  have hc : cost s = 6 * s.line.length + 20 := rfl
  have hcD : costD s = 9 * s.line.length + 40 := rfl
  refine ⟨_, (pss_cons (ps_dput hu (pv 0) pe_str (pe_lst pa_nil) rfl)
      (pss_cons (ps_if (pt_cmpR op_eq (pe_ix ix_tup (pv 1) pe_int (fun _ _ => rfl)) pe_str (nomark _)) (pss_one (ps_set (i := 2) hn rfl (Or.inl rfl) (pe_call G1 hr (by rfl) T.g_L_put k1 b1 .nil pass0 (pa_cons (pv 0) (pa_cons (pe_ix ix_tup (pv 1) pe_int (fun _ _ => rfl)) (pa_cons (pe_ix ix_tup (pv 1) pe_int (fun _ _ => rfl)) pa_nil))))))
        (pss_one (ps_if (pt_cmpR op_eq (pe_ix ix_tup (pv 1) pe_int (fun _ _ => rfl)) pe_str (nomark _)) (pss_one (ps_set (i := 2) hn rfl (Or.inl rfl) (pe_call G2 hr (by rfl) T.g_L_out k2 b2 .nil pass0 (pa_cons (pv 0) (pa_cons (pe_ix ix_tup (pv 1) pe_int (fun _ _ => rfl)) pa_nil)))))
          (pss_one (ps_if (pt_cmpR op_eq (pe_ix ix_tup (pv 1) pe_int (fun _ _ => rfl)) pe_str (nomark _)) (pss_cons (ps_set (i := 2) hn rfl (Or.inl rfl) (pe_cmpR op_ge (pe_ix ix_tup (pv 1) pe_int (fun _ _ => rfl)) (pe_callB call_len_seq (by rfl) T.n_len PySem.boot_len (pa_cons (pe_dget hu (pv 0) pe_str (fun _ _ => rfl)) pa_nil)) (nomark _)))
      (pss_one (ps_if (pt_val (pv 2)) (pss_cons (ps_dput hu (pv 0) pe_str (pe_ix ix_tup (pv 1) pe_int (fun _ _ => rfl)) rfl)
      (pss_one (ps_expr (pe_call G3 hr3 (by rfl) T.g_L_look_all k3 b3 .nil pass0 (pa_cons (pv 0) pa_nil))))) pss_nil)))
            (pss_one (ps_set (i := 2) hn rfl (Or.inl rfl) (pe_call G4 hr (by rfl) T.g_L_hears k4 b4 .nil pass0 (pa_cons (pv 0) (pa_cons (pe_ix ix_tup (pv 1) pe_int (fun _ _ => rfl)) (pa_cons (pe_ix ix_tup (pv 1) pe_int (fun _ _ => rfl)) pa_nil)))))))))))
      (pss_cons (ps_for PassesOwn.never rfl (pi_list (pe_dget hu (pv 0) pe_str (fun _ _ => rfl))) (pg_name (i := 3) hn rfl (Or.inl rfl)) (pss_cons (ps_set (i := 4) hn rfl (Or.inl rfl) (pe_dget hu (pe_dget hu (pv 0) pe_str (fun _ _ => rfl)) (pv 3) (fun _ _ => rfl)))
      (pss_one (ps_if (PW.pt (pw_and (pt_val (pv 2)) (pw_and (pt_cmpR op_notN (pv 4) pe_non (nomark _)) (pw_and (pt_cmpR op_eq (pe_ix ix_tup (pv 4) pe_int (fun _ _ => rfl)) pe_str (nomark _)) (pw_and1 (pt_cmpR op_notInS (pv 3) (pe_dget hu (pv 0) pe_str (fun _ _ => rfl)) (by rfl))))))) (pss_one (ps_if (pt_cmpR op_lt (pe_callB call_len_seq (by rfl) T.n_len PySem.boot_len (pa_cons (pe_dget hu (pv 0) pe_str (fun _ _ => rfl)) pa_nil)) (pe_dget hu (pv 0) pe_str (fun _ _ => rfl)) (nomark _)) (pss_cons (ps_expr (pe_bm PySem.F.plainAttrs_list PySem.F.slot_list_append PySem.F.type_list_append mt_append (pe_dget hu (pv 0) pe_str (fun _ _ => rfl)) (pa_cons (pv 3) pa_nil)))
      (pss_one (ps_expr (pe_bm PySem.F.plainAttrs_list PySem.F.slot_list_append PySem.F.type_list_append mt_append (pe_dget hu (pv 0) pe_str (fun _ _ => rfl)) (pa_cons (pe_tup (pa_cons (pv 3) (pa_cons (pe_tup (pa_cons (pe_str) pa_nil)) pa_nil))) pa_nil))))) pss_nil)) pss_nil))))
      (pss_one (ps_ret (pe_ifExp (pt_val (pv 2)) (pe_dget hu (pv 0) pe_str (fun _ _ => rfl)) pe_non)))))), ?_⟩
  refine ⟨(by show 0 ≤ sizeLine; decide), fun a ha => ?_⟩
  refine ⟨_, rfl, q, _, rfl, DPut.k (k := Sum.inr "out") (x.self.fresh ha).h (by exact (by decide : (12 : Nat) < sizeLine)), ?_⟩
  rw [mp_out]
  have x1 := x.clear ha
  have es : ({ ({ s with going := gs } : S) with going := [] } : S) = s := by
    show ({ s with going := [] } : S) = s
    rw [← hgo]
  rw [es] at x1
  have y1 := x.self.fresh ha (o' := .lst [])
  have t1 : Step i rl H (setR (setR rl m.ou none) a (some (i, .going))) (upd (upd H a (.lst [])) q (.dK (mkv s.own s.size m.l m.he s.ears m.wo m.ats m.op m.ow m.aw m.pa a))) :=
    ((Step.drop x.ou (v := none)).trans ((Step.same (same_upd ha)).trans (Step.write (y1.drop (x.ou.fresh ha (o' := .lst [])) (by intro e; cases e) (v := none)) (fun z => z)))).give (b := a) ha
  have hw1 := hw.tk t1.tk
  generalize setR (setR rl m.ou none) a (some (i, R.going)) = rl1 at x1 t1
  change _ = _ at es
  clear y1
  have eH : (upd (upd H a (.lst [])) q (.dK (mkv ({ s with going := gs } : S).own ({ s with going := gs } : S).size m.l m.he ({ s with going := gs } : S).ears m.wo m.ats m.op m.ow m.aw m.pa a))) = (upd (upd H a (.lst [])) q (.dK (mkv s.own s.size m.l m.he s.ears m.wo m.ats m.op m.ow m.aw m.pa a))) := rfl
  rw [eH]
  rw [eH] at x1
  generalize upd (upd H a (.lst [])) q (.dK (mkv s.own s.size m.l m.he s.ears m.wo m.ats m.op m.ow m.aw m.pa a)) = H1 at x1 t1 hw1 ⊢
  generalize ({ m with ou := a, vo := [] } : MA) = m1 at x1
  -- the answers
  have ano : act s wh = none → ∀ H', Same H1 H' → tailDid K { nx := fun _ H' => Q .non H', rt := Q } [some (.ref q), some (.ref wa), some (.bl false), none, none] H' := fun e H' s' =>
    did_no (x1.same s') (kno e rl1 H' m1 (t1.thenSame s') ((x1.same s').mono (by omega)))
  have ayes : ∀ s', act s wh = some s' → s'.line.length ≤ s.line.length + 1 → ∀ rl' H' m', Step i rl1 H1 rl' H' → Mine K i rl' H' q (b + cost s) s' m' → tailDid K { nx := fun _ H' => Q .non H', rt := Q } [some (.ref q), some (.ref wa), some (.bl true), none, none] H' := fun s' e hl rl' H' m' t' x' =>
    did_yes x' (by omega) fun H2 m2 t2 x2 => kyes s' e rl' H2 m2 ((t1.trans t').trans t2) (x2.mono (by omega))
  have due : (∀ s', act s wh = some s' → s'.line.length ≤ s.line.length + 1) → MDue K i rl1 H1 q (b + cost s) (act s wh) (fun v H' => ∃ k : Bool, v = .bl k ∧ tailDid K { nx := fun _ H' => Q .non H', rt := Q } [some (.ref q), some (.ref wa), some (.bl k), none, none] H') := fun hl =>
    ⟨fun e H' s' => ⟨false, rfl, ano e H' s'⟩, fun s' e rl' H' m' t' x' => ⟨true, rfl, ayes s' e (hl s' e) rl' H' m' t' x'⟩⟩
  cases wh with
  | put g n =>
    obtain ⟨hw2, hn2⟩ := hw1
    refine ⟨_, rfl, wa, _, _, _, rfl, rfl, SqT.of hw2, rfl, rfl, _, rfl, iteT ?_⟩
    refine ⟨_, rfl, _, rfl, wa, _, _, _, rfl, rfl, SqT.of hw2, rfl, _, rfl, wa, _, _, _, rfl, rfl, SqT.of hw2, rfl, i, rl1, q, b, s, m1, g, n, rfl, x1, by omega, hn2, old, ?_⟩
    have hl : ∀ s', act s (.put g n) = some s' → s'.line.length ≤ s.line.length + 1 := fun s' e => act_len e
    have D := due hl
    exact ⟨fun e H' s' => by obtain ⟨kk, ek, r⟩ := D.no e H' s'; cases ek; exact r, fun s' e rl' H' m' t' x' => ayes s' e (hl s' e) rl' H' m' t' x'⟩
  | out g =>
    have hw2 := hw1
    refine ⟨_, rfl, wa, _, _, _, rfl, rfl, SqT.of hw2, rfl, rfl, _, rfl, iteF ?_⟩
    refine ⟨_, rfl, wa, _, _, _, rfl, rfl, SqT.of hw2, rfl, rfl, _, rfl, iteT ?_⟩
    refine ⟨_, rfl, _, rfl, wa, _, _, _, rfl, rfl, SqT.of hw2, rfl, i, rl1, q, b, s, m1, g, rfl, x1, by omega, old, nd, ?_⟩
    exact ⟨fun e H' s' => ano e H' s', fun s' e rl' H' m' t' x' => ayes s' e (act_len e) rl' H' m' t' x'⟩
  | room n =>
    have hw2 := hw1
    refine ⟨_, rfl, wa, _, _, _, rfl, rfl, SqT.of hw2, rfl, rfl, _, rfl, iteF ?_⟩
    refine ⟨_, rfl, wa, _, _, _, rfl, rfl, SqT.of hw2, rfl, rfl, _, rfl, iteF ?_⟩
    refine ⟨_, rfl, wa, _, _, _, rfl, rfl, SqT.of hw2, rfl, rfl, _, rfl, iteT ?_⟩
    refine ⟨_, rfl, wa, _, _, _, rfl, rfl, SqT.of hw2, rfl, _, rfl, q, _, rfl, x1.gAway, m1.aw, _, rfl, .inl (SqL.of x1.aw.h), _, _, rfl, rfl, ?_⟩
    dsimp only [gName]
    rw [List.length_map]
    have ea : act s (.room n) = if n < s.away.length then none else some (lookAll { s with size := n }) := rfl
    by_cases c : n < s.away.length
    · rw [decide_eq_false (show ¬ ((s.away.length : Nat) : Int) ≤ (n : Int) by omega)]
      rw [if_pos c] at ea
      exact ⟨_, rfl, _, rfl, iteF (ano ea H1 (Same.refl H1))⟩
    · rw [decide_eq_true (show ((s.away.length : Nat) : Int) ≤ (n : Int) by omega)]
      rw [if_neg c] at ea
      refine ⟨_, rfl, _, rfl, iteT ⟨_, rfl, wa, _, _, _, rfl, rfl, SqT.of hw2, rfl, _, rfl, q, _, rfl, DPut.k (k := Sum.inr "room") x1.self.h (by exact (by decide : (12 : Nat) < sizeLine)), ?_⟩⟩
      rw [mp_room]
      have x2 := x1.setRoom (n := n)
      have t2 : Step i rl1 H1 rl1 _ := Step.write x1.self (fun z => z) (o' := .dK (mkv s.own n m1.l m1.he s.ears m1.wo m1.ats m1.op m1.ow m1.aw m1.pa m1.ou))
      refine ⟨_, rfl, i, rl1, q, b, { s with size := n }, m1, rfl, x2, by show b + 3 * s.line.length ≤ Lim; omega, old, fun rl3 H3 m3 t3 x3 => ?_⟩
      exact ayes _ ea (act_len ea) rl3 H3 m3 (t2.trans t3) (x3.mono (by show b + 3 * s.line.length ≤ b + cost s; omega))
  | hear g l =>
    obtain ⟨la, hw2, hla, hl⟩ := hw1
    refine ⟨_, rfl, wa, _, _, _, rfl, rfl, SqT.of hw2, rfl, rfl, _, rfl, iteF ?_⟩
    refine ⟨_, rfl, wa, _, _, _, rfl, rfl, SqT.of hw2, rfl, rfl, _, rfl, iteF ?_⟩
    refine ⟨_, rfl, wa, _, _, _, rfl, rfl, SqT.of hw2, rfl, rfl, _, rfl, iteF ?_⟩
    refine ⟨_, rfl, _, rfl, wa, _, _, _, rfl, rfl, SqT.of hw2, rfl, _, rfl, wa, _, _, _, rfl, rfl, SqT.of hw2, rfl, i, rl1, q, b, s, m1, g, la, l, rfl, x1, by omega, old, nda, calm, hla, hl, ?_⟩
    exact ⟨fun e H' s' => ano e H' s', fun s' e rl' H' m' t' x' => ayes s' e (act_len e) rl' H' m' t' x'⟩
end
end G
set_option Elab.async false
set_option linter.all false
set_option maxRecDepth 100000
set_option maxHeartbeats 4000000
namespace G
open PySem PySem.Spec PyProof.Rows L2
theorem known_filter (s : S) (n : Nat) (w : Str) (l : List Str) : (((l.filter fun o => (s.pl o).told.isSome).filter fun o => byN (s.pl o) n).filter fun o => decide (wOf (s.pl o) = w)) = l.filter fun o => hit w (some n) (s.pl o).told := by
  rw [List.filter_filter, List.filter_filter]
  refine List.filter_congr fun o _ => ?_
  unfold byN wOf hit
  cases (s.pl o).told with
  | none => simp
  | some xn =>
    obtain ⟨x, k⟩ := xn
    simp [Bool.and_comm]
section
variable {P : Program} {w : World} {K : PySem.W.Frag} {mg : Str → Option Value} {base : Heap}

/-! ### _law_reason -/
def lOV (K : PySem.W.Frag) (H : Hp) (v : V) : Option (List Str) → Prop
  | none => v = .non
  | some l => ∃ a, v = .ref a ∧ H a = some (.lst (l.map .str))
def okMark (m : Option Str) : Prop := m = none ∨ m = some ("barred" : Str) ∨ m = some ("clear" : Str)
def spLReason (K : PySem.W.Frag) : Sp := fun vs H Q _ => ∃ (i : Nat) (rl : Rl) (q : Addr) (b : Nat) (s : S) (m : MA) (g : Str), vs = [.ref q, .str g] ∧ Mine K i rl H q b s m ∧ b ≤ Lim ∧ g ∈ s.line ∧ okMark (s.pl g).mark ∧ ∀ H' v, Same H H' → lOV K H' v (reasonL s g) → Q v H'
theorem sc_Lreason : FnScope ["_law_mine", "_law_guest", "_law_word", "_law_front", "_law_known", "_law_outs", "_law_other"] ["_law_mine", "_law_guest"] (defScope s_L_reason) := ⟨rfl, rfl, rfl, by decide +kernel, rfl, by decide +kernel, by decide +kernel⟩
theorem ok_Lreason (T : Txt K mg) : Ok P w K mg base CX0 1 (He.fAd K ("_law_reason", none)) ["_law_mine", "_law_guest"] (spLReason K) := by
  refine Ok.of T.f_L_reason sc_Lreason (fun _ _ _ _ _ _ us hl => match us, hl with | [_, _], _ => rfl) (fun vs H Q E h => by obtain ⟨_, _, _, _, _, _, _, rfl, _⟩ := h; rfl) (fun cdv A outer s H vs Q E hr h => ?_)
  obtain ⟨i, rl, q, b, s, m, g, rfl, x, hb, hg, hm, k⟩ := h
  have hu := hu_of hr
  have nd := sc_Lreason.nd
  refine ⟨_, (pss_cons (ps_set (i := 2) nd rfl (Or.inl rfl) (pe_dget hu (pe_dget hu (pv 0) pe_str (fun _ _ => rfl)) (pv 1) (fun _ _ => rfl)))
      (pss_cons (ps_set (i := 3) nd rfl (Or.inl rfl) (pe_slice sl_list (pe_dget hu (pv 0) pe_str (fun _ _ => rfl)) po_none (po_some (pe_bm PySem.F.plainAttrs_list PySem.F.slot_list_index PySem.F.type_list_index mt_indexS (pe_dget hu (pv 0) pe_str (fun _ _ => rfl)) (pa_cons (pv 1) pa_nil)))))
      (pss_cons (ps_setLc (i := 4) (own := [("_law_other", 6)]) (g := gName 6) rfl nd rfl rfl (sw_true rfl rfl rfl (by decide +kernel)) (pi_list (pv 3)) (blkOk_by (N := ["_law_mine", "_law_guest", "_law_word", "_law_front", "_law_known", "_law_outs", "_law_other"]) (sc := defScope s_L_reason) (by decide +kernel))
        (fun _ _ _ _ _ => pg_name (i := 6) nd rfl (Or.inl rfl)) (fun _ _ _ _ _ => pts_one (pt_cmpR op_notN (pe_dget hu (pe_dget hu (pv 0) pe_str (fun _ _ => rfl)) (pv 6) (fun _ _ => rfl)) pe_non (nomark _))) (fun _ _ _ _ _ => pv 6))
      (pss_cons (ps_setLc (i := 4) (own := [("_law_other", 6)]) (g := gName 6) (tt := tB (tOp (rI0 fun i j => V.bl (decide (i ≤ j))) (tOp (rIxT K) (tDGet (tDGet (tVar 0) (tC (V.str "heard"))) (tVar 6)) (tC (V.int 1))) (tDGet2 (tDGet (tVar 0) (tC (V.str "at"))) (tVar 1) (tC (V.int 0))))) (te := tVar 6) rfl nd rfl rfl (sw_true rfl rfl rfl (by decide +kernel)) (pi_list (pv 4)) (blkOk_by (N := ["_law_mine", "_law_guest", "_law_word", "_law_front", "_law_known", "_law_outs", "_law_other"]) (sc := defScope s_L_reason) (by decide +kernel))
        (fun _ _ _ _ _ => pg_name (i := 6) nd rfl (Or.inl rfl)) (fun _ _ _ _ _ => pts_one (pt_cmpR op_le (pe_ix ix_tup (pe_dget hu (pe_dget hu (pv 0) pe_str (fun _ _ => rfl)) (pv 6) (fun _ _ => rfl)) pe_int (fun _ _ => rfl)) (pe_dget2 hu (pe_dget hu (pv 0) pe_str (fun _ _ => rfl)) (pv 1) pe_int ⟨rfl, rfl, rfl, rfl⟩) (nomark _))) (fun _ _ _ _ _ => pv 6))
      (pss_cons (ps_if (pt_cmpR op_eq (pv 2) pe_str (nomark _)) (pss_one (ps_ret (pe_slice sl_list (pe_lc (own := [("_law_other", 6)]) (g := gName 6) (tt := tTest (tOp rEq (tOp (rIxT K) (tDGet (tDGet (tVar 0) (tC (V.str "heard"))) (tVar 6)) (tC (V.int 0))) (tC (V.str "in")))) (te := tVar 6) rfl nd (pi_list (pv 4)) (blkOk_by (N := ["_law_mine", "_law_guest", "_law_word", "_law_front", "_law_known", "_law_outs", "_law_other"]) (sc := defScope s_L_reason) (by decide +kernel))
        (fun _ _ _ _ _ => pg_name (i := 6) nd rfl (Or.inl rfl)) (fun _ _ _ _ _ => pts_one (pt_cmpR op_eq (pe_ix ix_tup (pe_dget hu (pe_dget hu (pv 0) pe_str (fun _ _ => rfl)) (pv 6) (fun _ _ => rfl)) pe_int (fun _ _ => rfl)) pe_str (nomark _))) (fun _ _ _ _ _ => pv 6)) po_none (po_some (pe_dget hu (pv 0) pe_str (fun _ _ => rfl)))))) pss_nil)
      (pss_cons (ps_setLc (i := 5) (own := [("_law_other", 6)]) (g := gName 6) (tt := tTest (tOp rEq (tOp (rIxT K) (tDGet (tDGet (tVar 0) (tC (V.str "heard"))) (tVar 6)) (tC (V.int 0))) (tC (V.str "out")))) (te := tVar 6) rfl nd rfl rfl (sw_true rfl rfl rfl (by decide +kernel)) (pi_list (pv 4)) (blkOk_by (N := ["_law_mine", "_law_guest", "_law_word", "_law_front", "_law_known", "_law_outs", "_law_other"]) (sc := defScope s_L_reason) (by decide +kernel))
        (fun _ _ _ _ _ => pg_name (i := 6) nd rfl (Or.inl rfl)) (fun _ _ _ _ _ => pts_one (pt_cmpR op_eq (pe_ix ix_tup (pe_dget hu (pe_dget hu (pv 0) pe_str (fun _ _ => rfl)) (pv 6) (fun _ _ => rfl)) pe_int (fun _ _ => rfl)) pe_str (nomark _))) (fun _ _ _ _ _ => pv 6))
      (pss_one (ps_ret (pe_ifExp (pt_cmpR op_eq (pv 2) pe_str (nomark _)) (pe_slice sl_list (pv 5) po_none (po_some (pe_callB (call_max2 rfl) (by rfl) T.n_max (by decide +kernel) (pa_cons (pe_int) (pa_cons (pe_op op_sub (pe_op op_add (pe_callB call_len_seq (by rfl) T.n_len PySem.boot_len (pa_cons (pv 3) pa_nil)) pe_int) (pe_dget hu (pv 0) pe_str (fun _ _ => rfl))) pa_nil))))) pe_non))))))))), ?_⟩
  have gw : DGet H m.wo (.str g) (some (oV (s.pl g).mark)) := by rw [← x.wy g hg]; exact DGet.k (k := Sum.inr g) x.wo.h
  refine ⟨_, rfl, q, _, rfl, x.gWord, _, rfl, m.wo, _, rfl, gw, ?_⟩
  refine ⟨_, rfl, q, _, rfl, x.gLine, _, rfl, q, _, rfl, x.gLine, .inl ⟨rfl, _, SqL.of x.line.h⟩, _, rfl, m.l, s.line, g, rfl, rfl, SqL.of x.line.h, hg, _, rfl, m.l, _, rfl, SqL.of x.line.h, fun sl hsl => ?_⟩
  rw [cut_to, ← List.map_take]
  have s1 := same_upd (o := HO.lst ((front s g).map V.str)) hsl
  have fin : ∀ o, o ∈ front s g → o ∈ s.line := fun o ho => List.mem_of_mem_take ho
  have flen : (front s g).length = s.line.idxOf g := by
    have := List.idxOf_lt_length_of_mem hg
    unfold front
    rw [List.length_take]; omega
  have fle : (front s g).length ≤ b := by rw [flen]; have := List.idxOf_lt_length_of_mem hg; have := x.few.line; omega
  have hx1 : upd H sl (.lst ((front s g).map V.str)) sl = some (.lst ((front s g).map V.str)) := upd_same
  rw [show s.line.take (s.line.idxOf g) = front s g from rfl]
  generalize hH1 : upd H sl (.lst ((front s g).map V.str)) = H1 at s1 hx1
  have x1 := x.same s1
  obtain ⟨n0, hn0, hn1⟩ : ∃ n0 : Nat, (valV m.ka (.inr g)).getD (.int 0) = .int n0 ∧ ((s.pl g).mark ≠ none → n0 = (s.pl g).since) := by
    by_cases c : (s.pl g).mark = none
    · rcases x.an g with e | ⟨n, e⟩
      · exact ⟨0, by rw [e]; rfl, fun z => absurd c z⟩
      · exact ⟨n, by rw [e]; rfl, fun z => absurd c z⟩
    · exact ⟨_, by rw [x.ay g hg c]; rfl, fun _ => rfl⟩
  -- who is known
  refine ⟨_, rfl, sl, rfl, ⟨_, SqL.of hx1⟩, fun D hD => ?_⟩
  refine lc_pureG (front s g) V.str (fun o => (s.pl o).told.isSome) V.str (walk_strs (front s g)) (yat_str (front s g)) hD (lim_lt fle hb) (fun H2 s2 => SqL.of (s2 _ _ hx1)) ?_ ?_
  · intro o H2 kf kt ho s2 hf ht
    have x2 := x1.same s2
    obtain ⟨tv, e, t⟩ := x2.hy o (fin o ho)
    have gd : DGet H2 m.he (.str o) (some tv) := by rw [← e]; exact DGet.k (k := Sum.inr o) x2.he.h
    refine ⟨rfl, _, rfl, q, _, rfl, x2.gHeard, _, rfl, m.he, tv, rfl, gd, rfl, _, rfl, ?_⟩
    cases et : (s.pl o).told with
    | none =>
      rw [et] at t
      have t' : tv = .non := t
      subst t'
      exact iteF (hf (by rw [et]; rfl) H2 (Same.refl H2))
    | some xn =>
      obtain ⟨y, kn⟩ := xn
      rw [et] at t
      obtain ⟨ta, rfl, hta⟩ := t
      exact iteT ⟨_, rfl, ht (by rw [et]; rfl) H2 (Same.refl H2)⟩
  intro H2 s2 h2
  have x2 := x1.same s2
  -- by the settling
  obtain ⟨f1, hf1⟩ : ∃ f1, f1 = (front s g).filter fun o => (s.pl o).told.isSome := ⟨_, rfl⟩
  rw [← hf1] at h2
  have m1 : ∀ o, o ∈ f1 → o ∈ s.line ∧ (s.pl o).told.isSome = true := fun o ho => by rw [hf1] at ho; exact ⟨fin o (List.mem_filter.mp ho).1, (List.mem_filter.mp ho).2⟩
  have l1 : f1.length ≤ b := by rw [hf1]; exact Nat.le_trans (List.length_filter_le _ _) fle
  -- an item of a told one
  have item : ∀ (o : Str) (H' : Hp), o ∈ f1 → Same H1 H' → ∃ (ta : Addr) (y : Str) (kn : Nat), (s.pl o).told = some (y, kn) ∧ DGet H' m.he (.str o) (some (.ref ta)) ∧ H' ta = some (.tup [.str y, .int kn]) := by
    intro o H' ho s'
    have x' := x1.same s'
    obtain ⟨ho1, ho2⟩ := m1 o ho
    obtain ⟨tv, e, t⟩ := x'.hy o ho1
    obtain ⟨⟨y, kn⟩, et⟩ := Option.isSome_iff_exists.mp ho2
    rw [et] at t
    obtain ⟨ta, rfl, hta⟩ := t
    exact ⟨ta, y, kn, et, by rw [← e]; exact DGet.k (k := Sum.inr o) x'.he.h, hta⟩
  refine ⟨_, rfl, D, rfl, ⟨_, SqL.of h2⟩, fun D2 hD2 => ?_⟩
  refine lc_pureG f1 V.str (fun o => byN (s.pl o) n0) V.str (walk_strs f1) (yat_str f1) hD2 (lim_lt l1 hb) (fun H3 s3 => SqL.of (s3 _ _ h2)) ?_ ?_
  · intro o H3 kf kt ho s3 hf ht
    have x3 := x2.same s3
    obtain ⟨ta, y, kn, et, gd, hta⟩ := item o H3 ho (s2.trans s3)
    refine ⟨rfl, _, rfl, q, _, rfl, x3.gHeard, _, rfl, m.he, _, rfl, gd, ta, _, _, _, rfl, rfl, SqT.of hta, rfl, _, rfl, q, _, rfl, x3.gAt, m.ats, rfl, .inl ⟨_, .inl x3.at_.h⟩, _, rfl, _, DGet.k (k := Sum.inr g) x3.at_.h, ?_⟩
    rw [hn0]
    refine ⟨_, _, rfl, rfl, _, rfl, ?_⟩
    have e1 : byN (s.pl o) n0 = decide (kn ≤ n0) := by unfold byN; rw [et]
    by_cases c : kn ≤ n0
    · rw [decide_eq_true (show ((kn : Nat) : Int) ≤ (n0 : Int) by omega)]
      exact iteT ⟨_, rfl, ht (by rw [e1]; exact decide_eq_true c) H3 (Same.refl H3)⟩
    · rw [decide_eq_false (show ¬ ((kn : Nat) : Int) ≤ (n0 : Int) by omega)]
      exact iteF (hf (by rw [e1]; exact decide_eq_false c) H3 (Same.refl H3))
  intro H3 s3 h3
  have x3 := x2.same s3
  obtain ⟨f2, hf2⟩ : ∃ f2, f2 = f1.filter fun o => byN (s.pl o) n0 := ⟨_, rfl⟩
  rw [← hf2] at h3
  have m2 : ∀ o, o ∈ f2 → o ∈ f1 := fun o ho => by rw [hf2] at ho; exact (List.mem_filter.mp ho).1
  have l2 : f2.length ≤ b := by rw [hf2]; exact Nat.le_trans (List.length_filter_le _ _) l1
  have s13 := s2.trans s3
  have hsl3 := s13 _ _ hx1
  -- the one filter by word
  have byw : ∀ (wd : Str), (f2.filter fun o => decide (wOf (s.pl o) = wd)) = heardAs s g wd (some n0) := fun wd => by
    rw [hf2, hf1]
    exact known_filter s n0 wd (front s g)
  refine ⟨_, rfl, oV_scal _ (some ("barred" : Str)), _, rfl, ?_⟩
  rw [show V.str "barred" = oV (some ("barred" : Str)) from rfl, oV_dec]
  unfold reasonL at k
  have step : ∀ (wd : Str) (o : Str) (H4 : Hp) (kf : Hp → Prop) (kt : VK), o ∈ f2 → Same H3 H4 → (decide (wOf (s.pl o) = wd) = false → ∀ H', Same H4 H' → kf H') → (decide (wOf (s.pl o) = wd) = true → ∀ H', Same H4 H' → kt (.str o) H') →
      ∀ tt : TT, tt = tTest (tOp rEq (tOp (rIxT K) (tDGet (tDGet (tVar 0) (tC (V.str "heard"))) (tVar 6)) (tC (V.int 0))) (tC (V.str wd))) → ∀ σ : L2.St, σ[0]? = some (some (.ref q)) → σ[6]? = some (some (.str o)) → tt σ H4 fun b H5 => if b = true then tVar 6 σ H5 kt else kf H5 := by
    rintro wd o H4 kf kt ho s4 hf ht tt rfl σ h0 h6
    have x4 := x3.same s4
    obtain ⟨ta, y, kn, et, gd, hta⟩ := item o H4 (m2 o ho) (s13.trans s4)
    refine ⟨_, h0, q, _, rfl, x4.gHeard, _, h6, m.he, _, rfl, gd, ta, _, _, _, rfl, rfl, SqT.of hta, rfl, rfl, _, rfl, ?_⟩
    have e2 : wOf (s.pl o) = y := by unfold wOf; rw [et]
    have ed : decide (V.str y = V.str wd) = decide (y = wd) := decide_eq_decide.mpr ⟨fun z => by cases z; rfl, fun z => by rw [z]⟩
    rw [ed]
    by_cases c : y = wd
    · rw [decide_eq_true c]
      exact iteT ⟨_, h6, ht (by rw [e2]; exact decide_eq_true c) H4 (Same.refl H4)⟩
    · rw [decide_eq_false c]
      exact iteF (hf (by rw [e2]; exact decide_eq_false c) H4 (Same.refl H4))
  by_cases cb : (s.pl g).mark = some ("barred" : Str)
  · rw [decide_eq_true cb]
    rw [cb] at k
    dsimp only at k
    rw [if_pos rfl] at k
    have en : n0 = (s.pl g).since := hn1 (by rw [cb]; simp)
    refine iteT ⟨_, rfl, D2, rfl, ⟨_, SqL.of h3⟩, fun D3 hD3 => ?_⟩
    refine lc_pureG f2 V.str (fun o => decide (wOf (s.pl o) = "in")) V.str (walk_strs f2) (yat_str f2) hD3 (lim_lt l2 hb) (fun H4 s4 => SqL.of (s4 _ _ h3)) ?_ ?_
    · intro o H4 kf kt ho s4 hf ht
      exact ⟨rfl, step "in" o H4 kf kt ho s4 hf ht _ rfl _ rfl rfl⟩
    intro H4 s4 h4
    have x4 := x3.same s4
    rw [byw, en] at h4
    refine ⟨_, rfl, q, _, rfl, x4.gRoom, _, rfl, D3, _, rfl, SqL.of h4, fun rs hrs => ?_⟩
    rw [cut_to, ← List.map_take]
    exact k _ _ ((s1.trans s13).trans (s4.trans (same_upd hrs))) ⟨rs, rfl, upd_same⟩
  · rw [decide_eq_false cb]
    refine iteF ⟨_, rfl, D2, rfl, ⟨_, SqL.of h3⟩, fun D3 hD3 => ?_⟩
    refine lc_pureG f2 V.str (fun o => decide (wOf (s.pl o) = "out")) V.str (walk_strs f2) (yat_str f2) hD3 (lim_lt l2 hb) (fun H4 s4 => SqL.of (s4 _ _ h3)) ?_ ?_
    · intro o H4 kf kt ho s4 hf ht
      exact ⟨rfl, step "out" o H4 kf kt ho s4 hf ht _ rfl _ rfl rfl⟩
    intro H4 s4 h4
    have x4 := x3.same s4
    refine ⟨_, rfl, oV_scal _ (some ("clear" : Str)), _, rfl, ?_⟩
    rw [show V.str "clear" = oV (some ("clear" : Str)) from rfl, oV_dec]
    by_cases cc : (s.pl g).mark = some ("clear" : Str)
    · rw [decide_eq_true cc]
      rw [cc] at k
      dsimp only at k
      rw [if_neg (by decide)] at k
      have en : n0 = (s.pl g).since := hn1 (by rw [cc]; simp)
      rw [byw, en] at h4
      refine iteT ⟨_, rfl, _, rfl, sl, _, rfl, .inl (SqL.of (s4 _ _ hsl3)), _, _, rfl, rfl, _, rfl, q, _, rfl, x4.gRoom, _, _, rfl, rfl, _, _, rfl, _, rfl, D3, _, rfl, SqL.of h4, fun rs hrs => ?_⟩
      rw [List.length_map, flen]
      have e : (if ((s.line.idxOf g : Nat) : Int) + 1 - (s.size : Int) > 0 then ((s.line.idxOf g : Nat) : Int) + 1 - (s.size : Int) else 0) = ((s.line.idxOf g + 1 - s.size : Nat) : Int) := by
        split <;> omega
      rw [e, cut_to, ← List.map_take]
      exact k _ _ ((s1.trans s13).trans (s4.trans (same_upd hrs))) ⟨rs, rfl, upd_same⟩
    · rw [decide_eq_false cc]
      have cn : (s.pl g).mark = none := hm.resolve_right fun z => z.elim cb cc
      rw [cn] at k
      exact iteF (k H4 _ ((s1.trans s13).trans s4) rfl)
end
end G
set_option Elab.async false
set_option linter.all false
set_option maxRecDepth 100000
set_option maxHeartbeats 4000000
namespace G
open PySem PySem.Spec PyProof.Rows L2
def rD : Option (List Str) → PyData
  | none => .none
  | some l => lS l
theorem lOV_dp {K : PySem.W.Frag} {H : Hp} {v : V} {r : Option (List Str)} (h : lOV K H v r) : Dp K H v (rD r) := by
  cases r with
  | none => have e : v = .non := h; rw [e]; exact .non
  | some l => obtain ⟨a, rfl, e⟩ := h; exact dp_lst (SqL.of e)
theorem plain_rD (r : Option (List Str)) : (rD r).plain = true := by
  cases r with
  | none => rfl
  | some l => exact plain_lS l
theorem depth_rD (r : Option (List Str)) : (rD r).depth ≤ 60 := by
  cases r with
  | none => exact Nat.zero_le _
  | some l => rw [show rD (some l) = lS l from rfl, depth_lS]; decide
theorem lOV_same {K : PySem.W.Frag} {H H' : Hp} {v : V} {r : Option (List Str)} (h : lOV K H v r) (s : Same H H') : lOV K H' v r := by
  cases r with
  | none => exact h
  | some l => obtain ⟨a, e1, e2⟩ := h; exact ⟨a, e1, s _ _ e2⟩
theorem reason_post {K : PySem.W.Frag} {s : S} {g : Str} {H : Hp} {Q : VK} (h : ∀ H' v, Same H H' → lOV K H' v (reasonL s g) → Q v H') : match reasonL s g with
  | none => outV H Q .non
  | some l => newL H Q l := by
  cases e : reasonL s g with
  | none => exact fun H' s' => h H' _ s' (by rw [e]; exact rfl)
  | some l => exact fun H' a s' _ ha => h H' _ s' (by rw [e]; exact ⟨a, rfl, ha⟩)
section
variable {P : Program} {w : World} {K : PySem.W.Frag} {mg : Str → Option Value} {base : Heap}

/-! ### _law_told_alike -/
def spLTold (K : PySem.W.Frag) : Sp := fun vs H Q _ => ∃ (i j : Nat) (rl : Rl) (p q : Addr) (b : Nat) (s : S) (h : HA) (m : MA) (gs : List Ltr), vs = [.ref p, .ref q] ∧ House K i rl H p b s h ∧ Mine K j rl H q b { s with going := gs } m ∧ b ≤ Lim ∧
  (∀ g, g ∈ s.line → isNm g = true ∧ okMark (s.pl g).mark) ∧ ∀ H', Same H H' → Q (.bl true) H'
theorem sc_Ltold : FnScope ["_law_house", "_law_mine", "_law_guest", "_law_told", "_law_other", "_law_due"] ["_law_house", "_law_mine"] (defScope s_L_told_alike) := ⟨rfl, rfl, rfl, by decide +kernel, rfl, by decide +kernel, by decide +kernel⟩
theorem ok_Ltold (T : Txt K mg) : Ok P w K mg base CX0 4 (He.fAd K ("_law_told_alike", none)) ["_law_house", "_law_mine"] (spLTold K) := by
  obtain ⟨fd1, G1, b1, k1⟩ := (ok_reason (P := P) (w := w) (base := base) T).ex
  obtain ⟨fd2, G2, b2, k2⟩ := (ok_Lreason (P := P) (w := w) (base := base) T).ex
  obtain ⟨fd3, G3, b3, k3⟩ := (ok_heardOf (P := P) (w := w) (base := base) T).ex
  obtain ⟨fd4, G4, b4, k4⟩ := (ok_ahead (P := P) (w := w) (base := base) T).ex
  refine Ok.of T.f_L_told_alike sc_Ltold (fun _ _ _ _ _ _ us hl => match us, hl with | [_, _], _ => rfl) (fun vs H Q E h => by obtain ⟨_, _, _, _, _, _, _, _, _, _, rfl, _⟩ := h; rfl) (fun cdv A outer s H vs Q E hr h => ?_)
  obtain ⟨i, j, rl, p, q, b, s, h, m, gs, rfl, x, y, hb, hnm, k⟩ := h
  have hu := hu_of hr
  have hu2 := hr.units
  have nd := sc_Ltold.nd
  have hr1 : Room 1 _ := hr.mono (by decide)
  refine ⟨_, (pss_cons (ps_for PassesOwn.never rfl (pi_list (pe_dget hu (pv 1) pe_str (fun _ _ => rfl))) (pg_name (i := 2) nd rfl (Or.inl rfl)) (pss_cons (ps_set (i := 3) nd rfl (Or.inl rfl) (pe_dget hu (pe_dget hu (pv 1) pe_str (fun _ _ => rfl)) (pv 2) (fun _ _ => rfl)))
      (pss_cons (ps_if (pt_cmpR (op_neP hu2) (pe_meth (pv 0) T.cls_House T.m_reason G1 hr b1 .nil pass0 (pa_cons (pv 2) pa_nil)) (pe_call G2 hr1 (by rfl) T.g_L_reason k2 b2 .nil pass0 (pa_cons (pv 1) (pa_cons (pv 2) pa_nil))) (nomark _)) (pss_one (ps_ret pe_bl)) pss_nil)
      (pss_cons (ps_if (pt_cmpR op_ne (pe_meth (pv 0) T.cls_House T.m_heard_of G3 hr b3 .nil pass0 (pa_cons (pv 2) pa_nil)) (pe_ifExp (pt_cmpR op_isN (pv 3) pe_non (nomark _)) pe_non (pe_ix ix_tup (pv 3) pe_int (fun _ _ => rfl))) (nomark _)) (pss_one (ps_ret pe_bl)) pss_nil)
      (pss_one (ps_for PassesOwn.never rfl (pi_list (pe_dget hu (pv 1) pe_str (fun _ _ => rfl))) (pg_name (i := 4) nd rfl (Or.inl rfl)) (pss_cons (ps_set (i := 5) nd rfl (Or.inl rfl) (pe_and (pe_cmpR op_notN (pv 3) pe_non (nomark _)) (pe_one (pe_cmpR op_notN (pe_dget hu (pe_dget hu (pv 1) pe_str (fun _ _ => rfl)) (pv 4) (fun _ _ => rfl)) pe_non (nomark _)))))
      (pss_cons (ps_set (i := 5) nd rfl (Or.inl rfl) (pe_and (pv 5) (pe_one (pe_cmpR op_le (pe_ix ix_tup (pv 3) pe_int (fun _ _ => rfl)) (pe_dget hu (pe_dget hu (pv 1) pe_str (fun _ _ => rfl)) (pv 4) (fun _ _ => rfl)) (nomark _)))))
      (pss_one (ps_if (pt_cmpR op_ne (pe_callB call_repr_bool (by rfl) T.n_repr (by decide +kernel) (pa_cons (pe_meth (pv 0) T.cls_House T.m_is_ahead G4 hr b4 .nil pass0 (pa_cons (pv 2) (pa_cons (pv 4) pa_nil))) pa_nil)) (pe_callB call_repr_bool (by rfl) T.n_repr (by decide +kernel) (pa_cons (pv 5) pa_nil)) (nomark _)) (pss_one (ps_ret pe_bl)) pss_nil))))))))))
      (pss_one (ps_ret pe_bl))), ?_⟩
  refine ⟨_, rfl, q, _, rfl, y.gLine, m.l, rfl, ⟨_, SqL.of y.line.h⟩, ?_⟩
  refine for_list (K := K) (a := m.l) (xs := s.line.map V.str) (fun n σ H2 => ∃ v2 v3 v4 v5, σ = [some (.ref p), some (.ref q), v2, v3, v4, v5] ∧ Same H H2) ⟨_, _, _, _, rfl, Same.refl H⟩ (fun n σ H2 _ ⟨_, _, _, _, _, s2⟩ => SqL.of (y.same s2).line.h) ?_ ?_
  · rintro n v σ H2 hn ⟨v2, v3, v4, v5, rfl, s2⟩
    rw [List.getElem?_map] at hn
    obtain ⟨g, hg, rfl⟩ := Option.map_eq_some_iff.mp hn
    have hgl : g ∈ s.line := List.mem_of_getElem? hg
    have x2 := x.same s2
    have y2 := y.same s2
    obtain ⟨tv, etv, tt⟩ := y.hy g hgl
    have gd : DGet H2 m.he (.str g) (some tv) := by rw [← etv]; exact DGet.k (k := Sum.inr g) y2.he.h
    refine ⟨_, rfl, q, _, rfl, y2.gHeard, _, rfl, m.he, tv, rfl, gd, ?_⟩
    refine ⟨_, rfl, p, h.dx, _, rfl, x2.self.h, rfl, _, rfl, i, rl, p, b, s, h, g, rfl, x2, hb, (hnm g hgl).1, hgl, reason_post (K := K) fun H3 u1 s3 lv1 => ?_⟩
    have y3 := y2.same s3
    refine ⟨_, rfl, _, rfl, j, rl, q, b, { s with going := gs }, m, g, rfl, y3, hb, hgl, (hnm g hgl).2, fun H4 u2 s4 lv2 => ?_⟩
    have lv2 : lOV K H4 u2 (reasonL s g) := lv2
    refine ⟨rD (reasonL s g), rD (reasonL s g), lOV_dp (lOV_same lv1 s4), lOV_dp lv2, plain_rD _, plain_rD _, depth_rD _, _, rfl, ?_⟩
    rw [PySem.SeqAt.eqv_refl_plain _ (plain_rD _)]
    refine iteF ?_
    have s24 := (s2.trans s3).trans s4
    have x4 := x.same s24
    refine ⟨_, rfl, p, h.dx, _, rfl, x4.self.h, rfl, _, rfl, i, rl, p, b, s, h, g, rfl, x4, hb, (hnm g hgl).1, hgl, fun H5 s5 => ?_⟩
    have s05 := s24.trans s5
    have y5 := y.same s05
    cases et : (s.pl g).told with
    | none =>
      have tt0 := tt
      have et' : (({ s with going := gs } : S).pl g).told = none := et
      rw [et'] at tt0
      have tt0 : tv = .non := tt0
      subst tt0
      refine ⟨_, rfl, rfl, _, rfl, iteT ⟨rfl, _, rfl, iteF ?_⟩⟩
      refine ⟨_, rfl, q, _, rfl, y5.gLine, m.l, rfl, ⟨_, SqL.of y5.line.h⟩, ?_⟩
      refine for_list (K := K) (a := m.l) (xs := s.line.map V.str) (fun n σ H6 => ∃ v4 v5, σ = [some (.ref p), some (.ref q), some (.str g), some (.non), v4, v5] ∧ Same H5 H6) ⟨_, _, rfl, Same.refl H5⟩ (fun n σ H6 _ ⟨_, _, _, s6⟩ => SqL.of (y5.same s6).line.h) ?_ ?_
      · rintro n v σ H6 hn ⟨v4, v5, rfl, s6⟩
        rw [List.getElem?_map] at hn
        obtain ⟨o, ho, rfl⟩ := Option.map_eq_some_iff.mp hn
        have hol : o ∈ s.line := List.mem_of_getElem? ho
        have x6 := x.same (s05.trans s6)
        have y6 := y5.same s6
        refine ⟨_, rfl, rfl, _, rfl, ?_⟩
        refine iteF ⟨_, rfl, _, rfl, ?_⟩
        refine iteF ⟨_, rfl, p, h.dx, _, rfl, x6.self.h, rfl, _, rfl, _, rfl, i, rl, p, b, s, h, g, o, rfl, x6, hb, (hnm g hgl).1, (hnm o hol).1, hgl, hol, fun H7 s7 => ?_⟩
        have ea : aheadB s g o = false := by unfold aheadB; rw [et]
        rw [ea]
        exact ⟨_, rfl, _, rfl, _, rfl, rfl, _, rfl, iteF ⟨_, _, rfl, s6.trans s7⟩⟩
      · rintro σ H6 ⟨v4, v5, rfl, s6⟩
        exact ⟨_, _, _, _, rfl, s05.trans s6⟩
    | some xn =>
      obtain ⟨wd, kn⟩ := xn
      have tt0 := tt.tk (sameTk s05)
      have et' : (({ s with going := gs } : S).pl g).told = some (wd, kn) := et
      rw [et'] at tt0
      obtain ⟨ta, rfl, hta⟩ := tt0
      refine ⟨_, rfl, rfl, _, rfl, iteF ⟨_, rfl, ta, _, _, _, rfl, rfl, SqT.of hta, rfl, rfl, _, rfl, ?_⟩⟩
      rw [show oV (toldW (some (wd, kn))) = V.str wd from rfl, decide_eq_true rfl]
      refine iteF ?_
      refine ⟨_, rfl, q, _, rfl, y5.gLine, m.l, rfl, ⟨_, SqL.of y5.line.h⟩, ?_⟩
      refine for_list (K := K) (a := m.l) (xs := s.line.map V.str) (fun n σ H6 => ∃ v4 v5, σ = [some (.ref p), some (.ref q), some (.str g), some (.ref ta), v4, v5] ∧ Same H5 H6) ⟨_, _, rfl, Same.refl H5⟩ (fun n σ H6 _ ⟨_, _, _, s6⟩ => SqL.of (y5.same s6).line.h) ?_ ?_
      · rintro n v σ H6 hn ⟨v4, v5, rfl, s6⟩
        rw [List.getElem?_map] at hn
        obtain ⟨o, ho, rfl⟩ := Option.map_eq_some_iff.mp hn
        have hol : o ∈ s.line := List.mem_of_getElem? ho
        have x6 := x.same (s05.trans s6)
        have y6 := y5.same s6
        have gw : DGet H6 m.wo (.str o) (some (oV (s.pl o).mark)) := by
          have z := y6.wy o hol
          rw [← z]; exact DGet.k (k := Sum.inr o) y6.wo.h
        refine ⟨_, rfl, rfl, _, rfl, iteT ⟨_, rfl, q, _, rfl, y6.gWord, _, rfl, m.wo, _, rfl, gw, rfl, ?_⟩⟩
        cases em : (s.pl o).mark with
        | none =>
          refine ⟨_, rfl, _, rfl, ?_⟩
          refine iteF ⟨_, rfl, p, h.dx, _, rfl, x6.self.h, rfl, _, rfl, _, rfl, i, rl, p, b, s, h, g, o, rfl, x6, hb, (hnm g hgl).1, (hnm o hol).1, hgl, hol, fun H7 s7 => ?_⟩
          have ea : aheadB s g o = false := by unfold aheadB; rw [et]; dsimp only; rw [em]; rfl
          rw [ea]
          exact ⟨_, rfl, _, rfl, _, rfl, rfl, _, rfl, iteF ⟨_, _, rfl, s6.trans s7⟩⟩
        | some mk =>
          have ga : DGet H6 m.ats (.str o) (some (.int (s.pl o).since)) := by
            have z := y6.ay o hol (by show (s.pl o).mark ≠ none; rw [em]; simp)
            rw [← z]; exact DGet.k (k := Sum.inr o) y6.at_.h
          refine ⟨_, rfl, _, rfl, iteT ⟨_, rfl, ta, _, _, _, rfl, rfl, SqT.of (s6 _ _ hta), rfl, _, rfl, q, _, rfl, y6.gAt, _, rfl, m.ats, _, rfl, ga, _, _, rfl, rfl, ?_⟩⟩
          have e0 : decide (((kn : Nat) : Int) ≤ ((s.pl o).since : Int)) = decide (kn ≤ (s.pl o).since) := decide_eq_decide.mpr ⟨fun z => by omega, fun z => by omega⟩
          dsimp only [gName]
          rw [e0]
          refine ⟨_, rfl, p, h.dx, _, rfl, x6.self.h, rfl, _, rfl, _, rfl, i, rl, p, b, s, h, g, o, rfl, x6, hb, (hnm g hgl).1, (hnm o hol).1, hgl, hol, fun H7 s7 => ?_⟩
          have ea : aheadB s g o = decide (kn ≤ (s.pl o).since) := by unfold aheadB; rw [et]; dsimp only; rw [em]; rfl
          rw [ea]
          refine ⟨_, rfl, _, rfl, _, rfl, rfl, _, rfl, ?_⟩
          rw [decide_eq_true rfl]
          exact iteF ⟨_, _, rfl, s6.trans s7⟩
      · rintro σ H6 ⟨v4, v5, rfl, s6⟩
        exact ⟨_, _, _, _, rfl, s05.trans s6⟩
  · rintro σ H2 ⟨v2, v3, v4, v5, rfl, s2⟩
    exact k H2 s2
end
end G
set_option Elab.async false
set_option linter.all false
set_option maxRecDepth 100000
set_option maxHeartbeats 4000000
namespace G
open PySem PySem.Spec PyProof.Rows L2
theorem plainAll_map {α : Type} (f : α → PyData) (h : ∀ x, (f x).plain = true) : ∀ l : List α, PyData.plainAll (l.map f) = true
  | [] => rfl
  | x :: l => by rw [List.map_cons, PyData.plainAll, plainAll_map f h l, h x]; rfl
theorem depthAll_map {α : Type} (f : α → PyData) (c : Nat) (h : ∀ x, (f x).depth ≤ c) : ∀ l : List α, PyData.depthAll (l.map f) ≤ c
  | [] => Nat.zero_le _
  | x :: l => by
    have a := depthAll_map f c h l
    have b := h x
    rw [List.map_cons, PyData.depthAll]
    omega
theorem plain_oD (x : Option Str) : (oD x).plain = true := by cases x <;> rfl
theorem depth_oD (x : Option Str) : (oD x).depth = 0 := by cases x <;> rfl
theorem plain_turnD (t : Turn_) : (turnD t).plain = true := by
  unfold turnD
  rw [PyData.plain, PyData.plainAll, PyData.plainAll, PyData.plainAll, PyData.plainAll, plain_oD, plain_oD]; rfl
theorem depth_turnD (t : Turn_) : (turnD t).depth ≤ 3 := by
  unfold turnD
  rw [PyData.depth, PyData.depthAll, PyData.depthAll, PyData.depthAll, PyData.depthAll, depth_oD, depth_oD, PyData.depth]
  decide
theorem plain_owedD (t : Str × List Str) : (owedD t).plain = true := by
  unfold owedD
  rw [PyData.plain, PyData.plainAll, PyData.plainAll, PyData.plainAll, plain_lS]; rfl
theorem depth_owedD (t : Str × List Str) : (owedD t).depth ≤ 3 := by
  unfold owedD
  rw [PyData.depth, PyData.depthAll, PyData.depthAll, PyData.depthAll, depth_lS, PyData.depth]
  decide
/-- all that a house tells of itself -/
def allD (s : S) : PyData := .list [lS s.line, .int s.size, .list (s.past.map turnD), .list ((owedL s).map owedD), lS (awaitedL s), lS (chairsL s)]
theorem plain_allD (s : S) : (allD s).plain = true := by
  unfold allD
  rw [PyData.plain, PyData.plainAll, PyData.plainAll, PyData.plainAll, PyData.plainAll, PyData.plainAll, PyData.plainAll, PyData.plainAll, plain_lS, plain_lS, plain_lS, PyData.plain, PyData.plain, PyData.plain, plainAll_map _ plain_turnD, plainAll_map _ plain_owedD]
  rfl
theorem depth_allD (s : S) : (allD s).depth ≤ 60 := by
  have a := depthAll_map turnD 3 depth_turnD s.past
  have b := depthAll_map owedD 3 depth_owedD (owedL s)
  unfold allD
  rw [PyData.depth, PyData.depthAll, PyData.depthAll, PyData.depthAll, PyData.depthAll, PyData.depthAll, PyData.depthAll, PyData.depthAll, depth_lS, depth_lS, depth_lS, PyData.depth, PyData.depth, PyData.depth]
  omega
theorem same_side {H H' : Hp} {a : Addr} {o : HO} (s : Same H H') (h : H a = none) : Same H (upd H' a o) := fun b u e => by
  rw [upd_ne (ne_of_none e h)]; exact s _ _ e
section
variable {P : Program} {w : World} {K : PySem.W.Frag} {mg : Str → Option Value} {base : Heap}

/-! ### _law_alike -/
def spLAlike (K : PySem.W.Frag) : Sp := fun vs H Q _ => ∃ (i j : Nat) (rl : Rl) (p q : Addr) (b : Nat) (s : S) (h : HA) (m : MA) (gs : List Ltr), vs = [.ref p, .ref q] ∧ House K i rl H p b s h ∧ Mine K j rl H q b { s with going := gs } m ∧ b ≤ Lim ∧
  (∀ g, g ∈ s.line → isNm g = true ∧ ((s.pl g).source ≠ none → (s.pl g).opened = true)) ∧ ∀ H', Same H H' → Q (.bl true) H'
abbrev nAlike : List Str := ["_law_house", "_law_mine", "_law_line", "_law_owed", "_law_guest", "_law_some", "_law_found", "_law_due", "_law_wrong", "_law_other"]
theorem sc_Lalike : FnScope nAlike ["_law_house", "_law_mine"] (defScope s_L_alike) := ⟨rfl, rfl, rfl, by decide +kernel, rfl, by decide +kernel, by decide +kernel⟩
theorem ok_Lalike (T : Txt K mg) : Ok P w K mg base CX0 4 (He.fAd K ("_law_alike", none)) ["_law_house", "_law_mine"] (spLAlike K) := by
  obtain ⟨fd1, G1, b1, k1⟩ := (ok_order (P := P) (w := w) (base := base) T).ex
  obtain ⟨fd2, G2, b2, k2⟩ := (ok_room (P := P) (w := w) (base := base) T).ex
  obtain ⟨fd3, G3, b3, k3⟩ := (ok_turns (P := P) (w := w) (base := base) T).ex
  obtain ⟨fd4, G4, b4, k4⟩ := (ok_owed (P := P) (w := w) (base := base) T).ex
  obtain ⟨fd5, G5, b5, k5⟩ := (ok_awaited (P := P) (w := w) (base := base) T).ex
  obtain ⟨fd6, G6, b6, k6⟩ := (ok_chairs (P := P) (w := w) (base := base) T).ex
  obtain ⟨fd7, G7, b7, k7⟩ := (ok_cause (P := P) (w := w) (base := base) T).ex
  obtain ⟨fd8, G8, b8, k8⟩ := (ok_word (P := P) (w := w) (base := base) T).ex
  refine Ok.of T.f_L_alike sc_Lalike (fun _ _ _ _ _ _ us hl => match us, hl with | [_, _], _ => rfl) (fun vs H Q E h => by obtain ⟨_, _, _, _, _, _, _, _, _, _, rfl, _⟩ := h; rfl) (fun cdv A outer s H vs Q E hr h => ?_)
  obtain ⟨i, j, rl, p, q, b, s, h, m, gs, rfl, x, y, hb, hnm, k⟩ := h
  have hu := hu_of hr
  have hu2 := hr.units
  have nd := sc_Lalike.nd
  have hr1 : Room 1 _ := hr.mono (by decide)
  refine ⟨_, (pss_cons (ps_set (i := 2) nd rfl (Or.inl rfl) (pe_dget hu (pv 1) pe_str (fun _ _ => rfl)))
      (pss_cons (ps_set (i := 3) nd rfl (Or.inl rfl) (pe_lst pa_nil))
      (pss_cons (ps_for PassesOwn.never rfl (pi_list (pv 2)) (pg_name (i := 4) nd rfl (Or.inl rfl)) (pss_one (ps_if (pt_cmp (pc_din hu (pv 4) (pe_dget hu (pv 1) pe_str (fun _ _ => rfl)))) (pss_cons (ps_set (i := 5) nd rfl (Or.inr rfl) (pe_dget hu (pe_dget hu (pv 1) pe_str (fun _ _ => rfl)) (pv 4) (fun _ _ => rfl)))
      (pss_one (ps_expr (pe_bm PySem.F.plainAttrs_list PySem.F.slot_list_append PySem.F.type_list_append mt_append (pv 3) (pa_cons (pe_tup (pa_cons (pv 4) (pa_cons (pe_lc (own := [("_law_other", 9)]) (g := gName 9) (tt := tTest (tOp (rInS K false) (tVar 9) (tVar 5))) (te := tVar 9) rfl nd (pi_list (pv 2)) (blkOk_by (N := nAlike) (sc := defScope s_L_alike) (by decide +kernel))
                (fun _ _ _ _ _ => pg_name (i := 9) nd rfl (Or.inl rfl)) (fun _ _ _ _ _ => pts_one (pt_cmpR op_inS (pv 9) (pv 5) (by rfl))) (fun _ _ _ _ _ => pv 9)) pa_nil))) pa_nil))))) pss_nil)))
      (pss_cons (ps_set (i := 6) nd rfl (Or.inl rfl) (pe_lst (pa_cons (pe_meth0 (pv 0) T.cls_House T.m_order G1 hr1 b1 .nil pass0) (pa_cons (pe_meth0 (pv 0) T.cls_House T.m_room G2 hr1 b2 .nil pass0) (pa_cons (pe_meth0 (pv 0) T.cls_House T.m_turns G3 hr1 b3 .nil pass0) (pa_cons (pe_meth0 (pv 0) T.cls_House T.m_owed G4 hr1 b4 .nil pass0) (pa_cons (pe_meth0 (pv 0) T.cls_House T.m_awaited G5 hr1 b5 .nil pass0) (pa_cons (pe_meth0 (pv 0) T.cls_House T.m_chairs G6 hr1 b6 .nil pass0) pa_nil))))))))
      (pss_cons (ps_set (i := 7) nd rfl (Or.inl rfl) (pe_lst (pa_cons (pv 2) (pa_cons (pe_dget hu (pv 1) pe_str (fun _ _ => rfl)) (pa_cons (pe_dget hu (pv 1) pe_str (fun _ _ => rfl)) (pa_cons (pv 3) pa_nil))))))
      (pss_cons (ps_expr (pe_bm PySem.F.plainAttrs_list PySem.F.slot_list_append PySem.F.type_list_append mt_append (pv 7) (pa_cons (pe_lc (own := [("_law_guest", 4)]) (g := gName 4) (tt := tB (tDIn (tVar 4) (tDGet (tVar 1) (tC (V.str "open"))))) (te := tVar 4) rfl nd (pi_list (pv 2)) (blkOk_by (N := nAlike) (sc := defScope s_L_alike) (by decide +kernel))
                (fun _ _ _ _ _ => pg_name (i := 4) nd rfl (Or.inl rfl)) (fun _ _ _ _ _ => pts_one (pt_cmp (pc_din hu (pv 4) (pe_dget hu (pv 1) pe_str (fun _ _ => rfl))))) (fun _ _ _ _ _ => pv 4)) pa_nil)))
      (pss_cons (ps_expr (pe_bm PySem.F.plainAttrs_list PySem.F.slot_list_append PySem.F.type_list_append mt_append (pv 7) (pa_cons (pe_lc (own := [("_law_guest", 4)]) (g := gName 4) (tt := tTest (tOp (rInS K false) (tVar 4) (tDGet (tVar 1) (tC (V.str "away"))))) (te := tVar 4) rfl nd (pi_list (pv 2)) (blkOk_by (N := nAlike) (sc := defScope s_L_alike) (by decide +kernel))
                (fun _ _ _ _ _ => pg_name (i := 4) nd rfl (Or.inl rfl)) (fun _ _ _ _ _ => pts_one (pt_cmpR op_inS (pv 4) (pe_dget hu (pv 1) pe_str (fun _ _ => rfl)) (by rfl))) (fun _ _ _ _ _ => pv 4)) pa_nil)))
      (pss_cons (ps_if (pt_cmpR (op_neP hu2) (pv 6) (pv 7) (nomark _)) (pss_one (ps_ret pe_bl)) pss_nil)
      (pss_cons (ps_setLc (i := 8) (own := [("_law_guest", 4)]) (g := gName 4) (tt := tTest (tOp rNe (tMeth (CH K) "cause" (spObs1 K fun s g H Q => outV H Q (oV (s.pl g).source)) [] E0 (tVar 0) (tCons (tVar 4) tNil)) (tDGet1 (tDGet (tVar 1) (tC (V.str "open"))) (tVar 4)))) (te := tVar 4) rfl nd rfl rfl (sw_true rfl rfl rfl (by decide +kernel)) (pi_list (pv 2)) (blkOk_by (N := nAlike) (sc := defScope s_L_alike) (by decide +kernel))
        (fun _ _ _ _ _ => pg_name (i := 4) nd rfl (Or.inl rfl)) (fun _ _ _ _ _ => pts_one (pt_cmpR op_ne (pe_meth (pv 0) T.cls_House T.m_cause G7 hr b7 .nil pass0 (pa_cons (pv 4) pa_nil)) (pe_dget1 hu (pe_dget hu (pv 1) pe_str (fun _ _ => rfl)) (pv 4) ⟨rfl, rfl, rfl, rfl⟩) (nomark _))) (fun _ _ _ _ _ => pv 4))
      (pss_cons (ps_set (i := 8) nd rfl (Or.inl rfl) (pe_op op_cat (pv 8) (pe_lc (own := [("_law_guest", 4)]) (g := gName 4) (tt := tTest (tOp rNe (tMeth (CH K) "word" (spObs1 K fun s g H Q => outV H Q (oV (s.pl g).mark)) [] E0 (tVar 0) (tCons (tVar 4) tNil)) (tDGet (tDGet (tVar 1) (tC (V.str "word"))) (tVar 4)))) (te := tVar 4) rfl nd (pi_list (pv 2)) (blkOk_by (N := nAlike) (sc := defScope s_L_alike) (by decide +kernel))
        (fun _ _ _ _ _ => pg_name (i := 4) nd rfl (Or.inl rfl)) (fun _ _ _ _ _ => pts_one (pt_cmpR op_ne (pe_meth (pv 0) T.cls_House T.m_word G8 hr b8 .nil pass0 (pa_cons (pv 4) pa_nil)) (pe_dget hu (pe_dget hu (pv 1) pe_str (fun _ _ => rfl)) (pv 4) (fun _ _ => rfl)) (nomark _))) (fun _ _ _ _ _ => pv 4))))
      (pss_one (ps_ret (pe_cmpR (op_eqP hu2) (pv 8) (pe_lst pa_nil) (nomark _)))))))))))))), ?_⟩
  have hl : H m.l = some (.lst (s.line.map V.str)) := y.line.h
  have hll : s.line.length < sizeLine := lim_lt x.few.line hb
  refine ⟨_, rfl, q, _, rfl, y.gLine, ?_⟩
  refine ⟨(by show 0 ≤ sizeLine; decide), fun O hO => ?_⟩
  refine ⟨_, rfl, m.l, rfl, ⟨_, SqL.of ((same_upd hO) _ _ hl)⟩, ?_⟩
  refine for_list (K := K) (a := m.l) (xs := s.line.map V.str) (fun n σ H2 => ∃ v4 v5, σ = [some (.ref p), some (.ref q), some (.ref m.l), some (.ref O), v4, v5, none, none, none, none] ∧ Same H H2 ∧ ∃ vs, H2 O = some (.lst vs) ∧ DpAll K (hid O H2) vs (((s.line.take n).filter fun g => (s.debts g).isSome).map fun g => owedD (g, s.line.filter fun o => decide (o ∈ (s.debts g).getD []))))
    ⟨none, none, rfl, same_upd hO, [], upd_same, .nil⟩ (fun n σ H2 _ ⟨_, _, _, s2, _⟩ => SqL.of (s2 _ _ hl)) ?_ ?_
  · rintro n v σ H2 hn ⟨v4, v5, rfl, s2, vs, e2, d2⟩
    rw [List.getElem?_map] at hn
    obtain ⟨g, hg, rfl⟩ := Option.map_eq_some_iff.mp hn
    have hgl : g ∈ s.line := List.mem_of_getElem? hg
    have hnl : n < s.line.length := (List.getElem?_eq_some_iff.mp hg).1
    have y2 := y.same s2
    have zd := y2.de g
    refine ⟨_, rfl, _, rfl, q, _, rfl, y2.gOwe, m.ow, _, rfl, DGet.k (k := Sum.inr g) y2.ow.h, _, rfl, ?_⟩
    have ez : (valV m.kd (.inr g)).isSome = (s.debts g).isSome := dbt_isSome y2.de g
    rw [ez, take_succ_at hg, List.filter_append, List.filter_cons]
    cases ed : s.debts g with
    | none =>
      refine iteF ⟨_, _, rfl, s2, vs, e2, ?_⟩
      rw [if_neg (by simp), List.filter_nil, List.append_nil]
      exact d2
    | some ds =>
      have zd : DebtV rl H2 j g (valV m.kd (.inr g)) (s.debts g) := zd
      rw [ed] at zd
      obtain ⟨da, hda, cda⟩ := zd
      rw [if_pos (by rfl), List.filter_nil, List.map_append]
      refine iteT ⟨_, rfl, q, _, rfl, y2.gOwe, _, rfl, m.ow, .ref da, rfl, by rw [← hda]; exact DGet.k (k := Sum.inr g) y2.ow.h, ?_⟩
      refine ⟨_, rfl, .inl ⟨rfl, _, SqL.of e2⟩, _, rfl, _, rfl, m.l, rfl, ⟨_, SqL.of (s2 _ _ hl)⟩, fun D3 hD3 => ?_⟩
      refine lc_pure 9 s.line V.str (fun o => decide (o ∈ ds)) V.str (walk_strs s.line) (yat_str s.line) hD3 hll (fun H3 s3 => SqL.of (s3 _ _ (s2 _ _ hl))) (fun _ => rfl) ?_ ?_ ?_
      · intro o H3 kk ho s3 hkk
        refine ⟨_, rfl, _, rfl, da, ds, o, rfl, rfl, .inl (SqL.of (s3 _ _ cda.h)), _, rfl, ?_⟩
        rw [if_neg Bool.false_ne_true]
        exact hkk H3 (Same.refl H3)
      · intro o H3 kk ho _ s3 hkk
        exact ⟨_, rfl, hkk H3 (Same.refl H3)⟩
      intro H3 s3 e3
      have n32 : D3 ≠ O := fun e => by rw [e, e2] at hD3; cases hD3
      refine ⟨(by show 2 ≤ sizeLine; decide), fun t ht => ?_⟩
      have s4 := same_upd (o := HO.tup [V.str g, V.ref D3]) ht
      have e4 := s4 _ _ (s3 _ _ e2)
      have nt2 : t ≠ O := fun e => by rw [e, s3 _ _ e2] at ht; cases ht
      have hvl := dpAll_len d2
      rw [List.length_map] at hvl
      have htk := List.length_take_le n s.line
      have hfl := List.length_filter_le (fun g => (s.debts g).isSome) (s.line.take n)
      have hxl := x.few.line
      refine ⟨O, vs, _, rfl, rfl, e4, lim_lt (show vs.length ≤ b by omega) hb, _, _, rfl, fun c u e => ?_, vs ++ [.ref t], upd_same, ?_⟩
      · have nn : c ≠ O := ne_of_none e hO
        rw [upd_ne nn]
        exact s4 _ _ (s3 _ _ (s2 _ _ e))
      · rw [hid_put]
        refine dpAll_snoc (dpAll_same (hid_same (s3.trans s4)) _ _ d2) ?_
        refine .tup (SqT.of (xs := [V.str g, V.ref D3]) (by rw [hid_ne nt2]; exact upd_same)) (.cons (.str g) (.cons (dp_lst (SqL.of ?_)) .nil))
        rw [hid_ne n32, s4 _ _ e3, ed]
        rfl
  rintro σ H2 ⟨v4, v5, rfl, s2, vs, e2, d2⟩
  rw [List.length_map, List.take_length] at d2
  have d2 : Dp K H2 (.ref O) (.list ((owedL s).map owedD)) := .lst (SqL.of e2) (by
    unfold owedL
    rw [List.map_map]
    exact dpAll_same hid_le _ _ d2)
  have x2 := x.same s2
  refine ⟨_, rfl, p, h.dx, _, rfl, x2.self.h, rfl, i, rl, p, b, s, h, rfl, x2, hb, fun H3 a3 s3 n3 e3 => ?_⟩
  have s23 := s2.trans s3
  have x3 := x.same s23
  refine ⟨_, rfl, p, h.dx, _, rfl, x3.self.h, rfl, i, rl, p, b, s, h, rfl, x3, hb, ?_⟩
  refine ⟨_, rfl, p, h.dx, _, rfl, x3.self.h, rfl, i, rl, p, b, s, h, rfl, x3, hb, fun H5 a5 s5 d5 => ?_⟩
  have s25 := s23.trans s5
  have x5 := x.same s25
  refine ⟨_, rfl, p, h.dx, _, rfl, x5.self.h, rfl, i, rl, p, b, s, h, rfl, x5, hb, fun H6 a6 s6 d6 => ?_⟩
  have s26 := s25.trans s6
  have x6 := x.same s26
  refine ⟨_, rfl, p, h.dx, _, rfl, x6.self.h, rfl, i, rl, p, b, s, h, rfl, x6, hb, fun H7 a7 s7 n7 e7 => ?_⟩
  have s27 := s26.trans s7
  have x7 := x.same s27
  refine ⟨_, rfl, p, h.dx, _, rfl, x7.self.h, rfl, i, rl, p, b, s, h, rfl, x7, hb, fun H8 a8 s8 n8 e8 => ?_⟩
  refine ⟨(by show 6 ≤ sizeLine; decide), fun F hF => ?_⟩
  have sF := same_upd (o := HO.lst [V.ref a3, V.int s.size, V.ref a5, V.ref a6, V.ref a7, V.ref a8]) hF
  have hFF : upd H8 F (.lst [V.ref a3, V.int s.size, V.ref a5, V.ref a6, V.ref a7, V.ref a8]) F = some (.lst [V.ref a3, V.int s.size, V.ref a5, V.ref a6, V.ref a7, V.ref a8]) := upd_same
  generalize upd H8 F (.lst [V.ref a3, V.int s.size, V.ref a5, V.ref a6, V.ref a7, V.ref a8]) = H9 at sF hFF ⊢
  have s29 := (s27.trans s8).trans sF
  have y9 := y.same s29
  refine ⟨_, rfl, _, rfl, q, _, rfl, y9.gRoom, _, rfl, q, _, rfl, y9.gPast, _, rfl, (by show 4 ≤ sizeLine; decide), fun L hL => ?_⟩
  have t9 := same_upd (o := HO.lst [V.ref m.l, V.int s.size, V.ref m.pa, V.ref O]) hL
  have hLL : upd H9 L (.lst [V.ref m.l, V.int s.size, V.ref m.pa, V.ref O]) L = some (.lst [V.ref m.l, V.int s.size, V.ref m.pa, V.ref O]) := upd_same
  generalize upd H9 L (.lst [V.ref m.l, V.int s.size, V.ref m.pa, V.ref O]) = Ha at t9 hLL ⊢
  have ya := y9.same t9
  -- who is open
  refine ⟨_, rfl, .inl ⟨rfl, _, SqL.of hLL⟩, _, rfl, m.l, rfl, ⟨_, SqL.of ya.line.h⟩, fun D1 hD1 => ?_⟩
  refine lc_pure 4 s.line V.str (fun g => (s.pl g).opened) V.str (walk_strs s.line) (yat_str s.line) hD1 hll (fun H' s' => SqL.of (ya.same s').line.h) (fun _ => rfl) ?_ ?_ ?_
  · intro g H' kk hg s' hkk
    have y' := ya.same s'
    have eo : (valV m.ko (.inr g)).isSome = (s.pl g).opened := by
      rw [y'.oy g]
      show (if g ∈ s.line ∧ (s.pl g).opened = true then some (oV (s.pl g).source) else none).isSome = _
      cases (s.pl g).opened with
      | true => rw [if_pos ⟨hg, rfl⟩]; rfl
      | false => rw [if_neg fun z => Bool.false_ne_true z.2]; rfl
    refine ⟨_, rfl, _, rfl, q, _, rfl, y'.gOpen, m.op, _, rfl, DGet.k (k := Sum.inr g) y'.op.h, _, rfl, ?_⟩
    rw [eo]
    exact hkk H' (Same.refl H')
  · intro g H' kk hg _ s' hkk
    exact ⟨_, rfl, hkk H' (Same.refl H')⟩
  intro Hb sb eb
  refine ⟨L, _, _, rfl, rfl, sb _ _ hLL, (by show 4 < sizeLine; decide), ?_⟩
  have hLb := sb _ _ hLL
  have t10 : Same H9 (upd Hb L (.lst ([V.ref m.l, V.int s.size, V.ref m.pa, V.ref O] ++ [V.ref D1]))) := same_side (t9.trans sb) hL
  have nD1 : D1 ≠ L := fun e => by rw [e, hLL] at hD1; cases hD1
  have eb1 : upd Hb L (.lst ([V.ref m.l, V.int s.size, V.ref m.pa, V.ref O] ++ [V.ref D1])) D1 = some (.lst ((s.line.filter fun g => (s.pl g).opened).map V.str)) := by rw [upd_ne nD1]; exact eb
  have hLc : upd Hb L (.lst ([V.ref m.l, V.int s.size, V.ref m.pa, V.ref O] ++ [V.ref D1])) L = some (.lst [V.ref m.l, V.int s.size, V.ref m.pa, V.ref O, V.ref D1]) := upd_same
  generalize upd Hb L (.lst ([V.ref m.l, V.int s.size, V.ref m.pa, V.ref O] ++ [V.ref D1])) = Hc at t10 eb1 hLc ⊢
  have yc := y9.same t10
  -- who has a chair
  refine ⟨_, rfl, .inl ⟨rfl, _, SqL.of hLc⟩, _, rfl, m.l, rfl, ⟨_, SqL.of yc.line.h⟩, fun D2 hD2 => ?_⟩
  refine lc_pure 4 s.line V.str (fun g => decide (g ∈ s.away)) V.str (walk_strs s.line) (yat_str s.line) hD2 hll (fun H' s' => SqL.of (yc.same s').line.h) (fun _ => rfl) ?_ ?_ ?_
  · intro g H' kk hg s' hkk
    have y' := yc.same s'
    refine ⟨_, rfl, _, rfl, q, _, rfl, y'.gAway, m.aw, s.away, g, rfl, rfl, .inl (SqL.of y'.aw.h), _, rfl, ?_⟩
    rw [if_neg Bool.false_ne_true]
    exact hkk H' (Same.refl H')
  · intro g H' kk hg _ s' hkk
    exact ⟨_, rfl, hkk H' (Same.refl H')⟩
  intro Hd sd ed
  refine ⟨L, _, _, rfl, rfl, sd _ _ hLc, (by show 5 < sizeLine; decide), ?_⟩
  have t11 : Same H9 (upd Hd L (.lst ([V.ref m.l, V.int s.size, V.ref m.pa, V.ref O, V.ref D1] ++ [V.ref D2]))) := same_side (t10.trans sd) hL
  have nD2 : D2 ≠ L := fun e => by rw [e, hLc] at hD2; cases hD2
  have ed2 : upd Hd L (.lst ([V.ref m.l, V.int s.size, V.ref m.pa, V.ref O, V.ref D1] ++ [V.ref D2])) D2 = some (.lst ((s.line.filter fun g => decide (g ∈ s.away)).map V.str)) := by rw [upd_ne nD2]; exact ed
  have ed1 : upd Hd L (.lst ([V.ref m.l, V.int s.size, V.ref m.pa, V.ref O, V.ref D1] ++ [V.ref D2])) D1 = some (.lst ((s.line.filter fun g => (s.pl g).opened).map V.str)) := by rw [upd_ne nD1]; exact sd _ _ eb1
  have hLe : upd Hd L (.lst ([V.ref m.l, V.int s.size, V.ref m.pa, V.ref O, V.ref D1] ++ [V.ref D2])) L = some (.lst [V.ref m.l, V.int s.size, V.ref m.pa, V.ref O, V.ref D1, V.ref D2]) := upd_same
  generalize upd Hd L (.lst ([V.ref m.l, V.int s.size, V.ref m.pa, V.ref O, V.ref D1] ++ [V.ref D2])) = He at t11 ed2 ed1 hLe ⊢
  have se := s29.trans t11
  have ye := y.same se
  have s3e := ((((s5.trans s6).trans s7).trans s8).trans sF).trans t11
  have s5e := (((s6.trans s7).trans s8).trans sF).trans t11
  have s6e := ((s7.trans s8).trans sF).trans t11
  have s7e := (s8.trans sF).trans t11
  have s8e := sF.trans t11
  have dF : Dp K He (.ref F) (allD s) := .lst (SqL.of (t11 _ _ hFF)) (.cons (dp_lst (SqL.of (s3e _ _ e3))) (.cons (.int _) (.cons (dp_same s5e _ _ d5) (.cons (dp_same s6e _ _ d6) (.cons (dp_lst (SqL.of (s7e _ _ e7))) (.cons (dp_lst (SqL.of (s8e _ _ e8))) .nil))))))
  have dL : Dp K He (.ref L) (allD s) := .lst (SqL.of hLe) (.cons (dp_lst (SqL.of ye.line.h)) (.cons (.int _) (.cons (.lst (SqL.of ye.pa.h) (dp_turns ye.pv)) (.cons (dp_same (s3.trans s3e) _ _ d2) (.cons (dp_lst (SqL.of ed1)) (.cons (dp_lst (SqL.of ed2)) .nil))))))
  refine ⟨_, rfl, _, rfl, allD s, allD s, dF, dL, plain_allD s, plain_allD s, depth_allD s, _, rfl, ?_⟩
  rw [PySem.SeqAt.eqv_refl_plain _ (plain_allD s)]
  -- the causes
  refine iteF ⟨_, rfl, m.l, rfl, ⟨_, SqL.of ye.line.h⟩, fun W1 hW1 => ?_⟩
  refine lc_pure 4 s.line V.str (fun _ => false) V.str (walk_strs s.line) (yat_str s.line) hW1 hll (fun H' s' => SqL.of (ye.same s').line.h) (fun _ => rfl) ?_ ?_ ?_
  · intro g H' kk hg s' hkk
    have x' := x.same (se.trans s')
    refine ⟨_, rfl, p, h.dx, _, rfl, x'.self.h, rfl, _, rfl, i, rl, p, b, s, h, g, rfl, x', hb, (hnm g hg).1, hg, fun H'' s'' => ?_⟩
    have y'' := y.same ((se.trans s').trans s'')
    have eo : (valV m.ko (.inr g)).getD .non = oV (s.pl g).source := by
      rw [y''.oy g]
      show (if g ∈ s.line ∧ (s.pl g).opened = true then some (oV (s.pl g).source) else none).getD .non = _
      by_cases c : (s.pl g).opened = true
      · rw [if_pos ⟨hg, c⟩]; rfl
      · rw [if_neg fun z => c z.2]
        have : (s.pl g).source = none := Classical.byContradiction fun z => c ((hnm g hg).2 z)
        rw [this]; rfl
    refine ⟨_, rfl, q, _, rfl, y''.gOpen, m.op, rfl, .inl ⟨_, .inl y''.op.h⟩, _, rfl, _, DGet.k (k := Sum.inr g) y''.op.h, ?_⟩
    rw [eo]
    refine ⟨oV_scal _ _, _, rfl, ?_⟩
    rw [decide_eq_true rfl]
    exact hkk H'' s''
  · intro g H' kk hg hf; cases hf
  intro Hf sf ef
  refine ⟨_, rfl, _, rfl, m.l, rfl, ⟨_, SqL.of (ye.same sf).line.h⟩, fun W2 hW2 => ?_⟩
  refine lc_pure 4 s.line V.str (fun _ => false) V.str (walk_strs s.line) (yat_str s.line) hW2 hll (fun H' s' => SqL.of (ye.same (sf.trans s')).line.h) (fun _ => rfl) ?_ ?_ ?_
  · intro g H' kk hg s' hkk
    have x' := x.same ((se.trans sf).trans s')
    refine ⟨_, rfl, p, h.dx, _, rfl, x'.self.h, rfl, _, rfl, i, rl, p, b, s, h, g, rfl, x', hb, (hnm g hg).1, hg, fun H'' s'' => ?_⟩
    have y'' := y.same (((se.trans sf).trans s').trans s'')
    have gw : DGet H'' m.wo (.str g) (some (oV (s.pl g).mark)) := by
      have z := y''.wy g hg
      rw [← z]; exact DGet.k (k := Sum.inr g) y''.wo.h
    refine ⟨_, rfl, q, _, rfl, y''.gWord, _, rfl, m.wo, _, rfl, gw, oV_scal _ _, _, rfl, ?_⟩
    rw [decide_eq_true rfl]
    exact hkk H'' s''
  · intro g H' kk hg hf; cases hf
  intro Hg sg eg
  have fe : (s.line.filter fun _ => false) = [] := List.filter_eq_nil_iff.mpr fun _ _ => Bool.false_ne_true
  rw [fe] at ef eg
  refine ⟨_, _, _, _, rfl, rfl, sg _ _ ef, eg, (by show 0 ≤ sizeLine; decide), fun Wc hWc => ?_⟩
  refine ⟨_, rfl, (by show 0 ≤ sizeLine; decide), fun el hel => ?_⟩
  have sh := same_upd (o := HO.lst (([] : List V) ++ [])) hWc
  have si := same_upd (o := HO.lst []) hel
  refine ⟨lS [], lS [], dp_lst (SqL.of (si _ _ upd_same)), dp_lst (SqL.of upd_same), plain_lS _, plain_lS _, by rw [depth_lS]; decide, ?_⟩
  rw [eqv_lS, decide_eq_true rfl]
  exact k _ (((se.trans sf).trans sg).trans (sh.trans si))
end
end G
set_option Elab.async false
set_option linter.all false
set_option maxRecDepth 100000
set_option maxHeartbeats 4000000
namespace G
open PySem PySem.Spec PyProof.Rows L2
/-- a pot: a list of three numbers; dipped at most n times -/
def Pot (i : Nat) (rl : Rl) (H : Hp) (p : Addr) (n : Nat) : Prop := ∃ a b c : Int, C rl H i .self p (.lst [.int a, .int b, .int c]) ∧ 0 ≤ b ∧ b < 2 ^ 200 ∧ 0 ≤ c ∧ c ≤ n
theorem bits_le {i : Int} {n j : Nat} (h : i.natAbs < 2 ^ n) (hj : n * j ≤ 2 ^ 27) : (Builtin.Int.intBits i : Int) * (j : Int) ≤ 2 ^ 27 := by
  have a := Nat.mul_le_mul_right j (bits_of h)
  have b : Builtin.Int.intBits i * j ≤ 2 ^ 27 := Nat.le_trans a hj
  have c : ((Builtin.Int.intBits i * j : Nat) : Int) ≤ ((2 ^ 27 : Nat) : Int) := Int.ofNat_le.mpr b
  rw [Int.natCast_mul] at c
  exact c
section
variable {P : Program} {w : World} {K : PySem.W.Frag} {mg : Str → Option Value} {base : Heap}

/-! ### _law_dip -/
def spDip : Sp := fun vs H Q _ => ∃ (i : Nat) (rl : Rl) (p : Addr) (n many : Nat), vs = [.ref p, .int many] ∧ Pot i rl H p n ∧ n < 1000000 ∧ 0 < many ∧ many < 1000000 ∧
  ∀ H' (r : Nat), r < many → Step i rl H rl H' → Pot i rl H' p (n + 1) → Q (.int r) H'
theorem sc_dip : FnScope ["_law_pot_here", "_law_many", "_law_found", "_law_mixed"] ["_law_pot_here", "_law_many"] (defScope s_L_dip) := ⟨rfl, rfl, rfl, by decide +kernel, rfl, by decide +kernel, by decide +kernel⟩
theorem ok_dip (T : Txt K mg) : Ok P w K mg base CX0 1 (He.fAd K ("_law_dip", none)) ["_law_pot_here", "_law_many"] spDip := by
  refine Ok.of T.f_L_dip sc_dip (fun _ _ _ _ _ _ us hl => match us, hl with | [_, _], _ => rfl) (fun vs H Q E h => by obtain ⟨_, _, _, _, _, rfl, _⟩ := h; rfl) (fun cdv A outer s H vs Q E hr h => ?_)
  obtain ⟨i, rl, p, n, many, rfl, ⟨a, b, c, x, hb0, hb, hc0, hc⟩, hn, hm, hm2, k⟩ := h
  have nd := sc_dip.nd
  refine ⟨_, (pss_cons (ps_if (pt_cmpR op_gt (pe_ix ix_list (pv 0) pe_int (fun _ _ => rfl)) pe_int (nomark _)) (pss_cons (ps_set (i := 2) nd rfl (Or.inl rfl) (pe_op op_mod (pe_ix ix_list (pv 0) pe_int (fun _ _ => rfl)) (pv 1)))
      (pss_cons (ps_asg (pe_op op_fdivW (pe_ix ix_list (pv 0) pe_int (fun _ _ => rfl)) (pv 1)) (pg_sub (pv 0) pe_int set_list))
      (pss_one (ps_ret (pv 2))))) pss_nil)
      (pss_cons (ps_asg (pe_op op_add (pe_ix ix_list (pv 0) pe_int (fun _ _ => rfl)) pe_int) (pg_sub (pv 0) pe_int set_list))
      (pss_cons (ps_set (i := 3) nd rfl (Or.inl rfl) (pe_op op_mod (pe_op op_powW (pe_op op_add (pe_ix ix_list (pv 0) pe_int (fun _ _ => rfl)) (pe_op op_mul pe_int (pe_ix ix_list (pv 0) pe_int (fun _ _ => rfl)))) pe_int) (pe_op op_add (pe_op op_pow pe_int pe_int) pe_int)))
      (pss_cons (ps_set (i := 3) nd rfl (Or.inl rfl) (pe_op op_mod (pe_op op_powW (pe_op op_add (pv 3) (pe_op op_mul pe_int (pe_ix ix_list (pv 0) pe_int (fun _ _ => rfl)))) pe_int) (pe_op op_add (pe_op op_pow pe_int pe_int) pe_int)))
      (pss_one (ps_ret (pe_op op_mod (pe_op op_fdivW (pv 3) pe_int) (pv 1)))))))), ?_⟩
  have hmp : (0 : Int) < (many : Int) := by omega
  have modn : ∀ z : Int, ∃ r : Nat, z % (many : Int) = r ∧ r < many := fun z => by
    have h1 := Int.emod_nonneg z (show (many : Int) ≠ 0 by omega)
    have h2 := Int.emod_lt_of_pos z hmp
    exact ⟨(z % (many : Int)).toNat, by omega, by omega⟩
  refine ⟨_, rfl, p, _, _, _, rfl, rfl, SqL.of x.h, rfl, _, _, rfl, rfl, _, rfl, ?_⟩
  by_cases ha : a > 0
  · rw [decide_eq_true ha]
    obtain ⟨r, hr1, hr2⟩ := modn a
    refine iteT ⟨_, rfl, p, _, _, _, rfl, rfl, SqL.of x.h, rfl, _, rfl, _, _, rfl, rfl, hmp, ?_⟩
    refine ⟨_, rfl, p, _, _, _, rfl, rfl, SqL.of x.h, rfl, _, rfl, _, _, rfl, rfl, wide_div (b := 20) hmp (by omega) (by decide) (by decide), ?_⟩
    refine ⟨_, rfl, p, _, _, 0, rfl, rfl, x.h, rfl, _, rfl, ?_⟩
    have kk := k _ r hr2 (Step.write x (fun z => z) (o' := .lst [.int (a / many), .int b, .int c])) ⟨_, _, _, x.put, hb0, hb, hc0, by omega⟩
    rw [← hr1] at kk
    exact kk
  · rw [decide_eq_false ha]
    refine iteF ⟨_, rfl, p, _, _, _, rfl, rfl, SqL.of x.h, rfl, _, _, rfl, rfl, ?_⟩
    refine ⟨_, rfl, p, _, _, 2, rfl, rfl, x.h, rfl, ?_⟩
    have x1 : C rl (upd H p (.lst [.int a, .int b, .int (c + 1)])) i .self p (.lst [.int a, .int b, .int (c + 1)]) := x.put
    have t1 := Step.write x (fun z => z) (o' := .lst [.int a, .int b, .int (c + 1)])
    have e1 : ([V.int a, V.int b, V.int c] : List V).set 2 (.int (c + 1)) = [.int a, .int b, .int (c + 1)] := rfl
    rw [e1]
    generalize upd H p (.lst [.int a, .int b, .int (c + 1)]) = H1 at x1 t1 ⊢
    refine ⟨_, rfl, p, _, _, _, rfl, rfl, SqL.of x1.h, rfl, _, rfl, p, _, _, _, rfl, rfl, SqL.of x1.h, rfl, _, _, rfl, rfl, .inl ⟨by decide, by decide⟩, _, _, rfl, rfl, _, _, rfl, rfl, ⟨by decide, bits_le (n := 210) ?_ (by decide)⟩, _, _, rfl, rfl, ⟨by decide, by decide, by decide⟩, _, _, rfl, rfl, _, _, rfl, rfl, (show (0 : Int) < (10 : Int) ^ (41 : Int).toNat + 37 by decide +kernel), ?_⟩
    · omega
    have m1 := Int.emod_nonneg ((b + 573259391 * (c + 1)) ^ (3 : Int).toNat) (show (10 : Int) ^ (41 : Int).toNat + 37 ≠ 0 by decide +kernel)
    have m2 := Int.emod_lt_of_pos ((b + 573259391 * (c + 1)) ^ (3 : Int).toNat) (show (0 : Int) < (10 : Int) ^ (41 : Int).toNat + 37 by decide +kernel)
    have m3 : (10 : Int) ^ (41 : Int).toNat + 37 < 2 ^ 140 := by decide +kernel
    have m4 : ((b + 573259391 * (c + 1)) ^ (3 : Int).toNat % ((10 : Int) ^ (41 : Int).toNat + 37) + 899809363 * (c + 1)).natAbs < 2 ^ 210 := by
      generalize (b + 573259391 * (c + 1)) ^ (3 : Int).toNat % ((10 : Int) ^ (41 : Int).toNat + 37) = z1 at m1 m2 ⊢
      omega
    refine ⟨_, rfl, _, rfl, p, _, _, _, rfl, rfl, SqL.of x1.h, rfl, _, _, rfl, rfl, .inl ⟨by decide, by decide⟩, _, _, rfl, rfl, _, _, rfl, rfl, ⟨by decide, bits_le (n := 210) m4 (by decide)⟩, _, _, rfl, rfl, ⟨by decide, by decide, by decide⟩, _, _, rfl, rfl, _, _, rfl, rfl, (show (0 : Int) < (10 : Int) ^ (42 : Int).toNat + 63 by decide +kernel), ?_⟩
    refine ⟨_, rfl, _, _, rfl, rfl, wide_div (b := 20) (by decide) (by decide) (by decide) (by decide), _, rfl, _, _, rfl, rfl, hmp, ?_⟩
    obtain ⟨r, hr1, hr2⟩ := modn (((b + 573259391 * (c + 1)) ^ (3 : Int).toNat % ((10 : Int) ^ (41 : Int).toNat + 37) + 899809363 * (c + 1)) ^ (5 : Int).toNat % ((10 : Int) ^ (42 : Int).toNat + 63) / 262139)
    have kk := k _ r hr2 t1 ⟨_, _, _, x1, hb0, hb, by omega, by omega⟩
    rw [← hr1] at kk
    exact kk
end
end G
set_option Elab.async false
set_option linter.all false
set_option maxRecDepth 100000
set_option maxHeartbeats 4000000
namespace G
open PySem PySem.Spec PyProof.Rows L2
theorem perm_eraseAt : ∀ (l : List Str) (r : Nat) (y : Str), l[r]? = some y → (y :: l.eraseIdx r).Perm l
  | [], r, y, h => by simp at h
  | x :: l, 0, y, h => by
    have : x = y := Option.some.inj (by simpa using h)
    subst this
    exact List.Perm.refl _
  | x :: l, r + 1, y, h => by
    have ih := perm_eraseAt l r y (by simpa using h)
    rw [List.eraseIdx_cons_succ]
    exact (List.Perm.swap x y _).trans (ih.cons x)
section
variable {P : Program} {w : World} {K : PySem.W.Frag} {mg : Str → Option Value} {base : Heap}

/-! ### _law_pot -/
def spPot (K : PySem.W.Frag) : Sp := fun vs H Q _ => ∃ (a : Addr) (ns : List Int) (k : Nat), vs = [.ref a, .int k] ∧ SqL K H a (ns.map .int) ∧ k < 100 ∧
  ∀ H' p, Same H H' → H p = none → (∃ x y : Int, H' p = some (.lst [.int x, .int y, .int 0]) ∧ 0 ≤ y ∧ y < 2 ^ 200) → Q (.ref p) H'
theorem sc_pot : FnScope ["_law_script", "_law_k", "_law_cell"] ["_law_script", "_law_k"] (defScope s_L_pot) := ⟨rfl, rfl, rfl, by decide +kernel, rfl, by decide +kernel, by decide +kernel⟩
theorem ok_pot (T : Txt K mg) : Ok P w K mg base CX0 1 (He.fAd K ("_law_pot", none)) ["_law_script", "_law_k"] (spPot K) := by
  refine Ok.of T.f_L_pot sc_pot (fun _ _ _ _ _ _ us hl => match us, hl with | [_, _], _ => rfl) (fun vs H Q E h => by obtain ⟨_, _, _, rfl, _⟩ := h; rfl) (fun cdv A outer s H vs Q E hr h => ?_)
  obtain ⟨a, ns, k, rfl, hs, hk, q⟩ := h
  have nd := sc_pot.nd
  refine ⟨_, (pss_cons (ps_set (i := 2) nd rfl (Or.inl rfl) pe_int)
      (pss_cons (ps_if (pt_cmpR op_lt (pv 1) (pe_callB call_len_seq (by rfl) T.n_len PySem.boot_len (pa_cons (pv 0) pa_nil)) (nomark _)) (pss_one (ps_set (i := 2) nd rfl (Or.inl rfl) (pe_ix ix_list (pv 0) (pv 1) (fun _ _ => rfl)))) pss_nil)
      (pss_one (ps_ret (pe_lst (pa_cons (pe_callB (call_max2 rfl) (by rfl) T.n_max (by decide +kernel) (pa_cons (pe_int) (pa_cons (pe_op op_sub (pv 2) (pe_op op_pow pe_int pe_int)) pa_nil))) (pa_cons (pe_op op_add (pe_op op_add (pe_op op_mul (pe_op op_mod (pv 2) (pe_op op_add (pe_op op_pow pe_int pe_int) pe_int)) pe_int) (pv 1)) pe_int) (pa_cons (pe_int) pa_nil)))))))), ?_⟩
  have fin : ∀ c : Int, ∃ (y : Int), y = c % ((10 : Int) ^ (44 : Int).toNat + 31) * 256 + (k : Int) + 1 ∧ 0 ≤ y ∧ y < 2 ^ 200 := fun c => by
    have m1 := Int.emod_nonneg c (show (10 : Int) ^ (44 : Int).toNat + 31 ≠ 0 by decide +kernel)
    have m2 := Int.emod_lt_of_pos c (show (0 : Int) < (10 : Int) ^ (44 : Int).toNat + 31 by decide +kernel)
    have m3 : (10 : Int) ^ (44 : Int).toNat + 31 < 2 ^ 150 := by decide +kernel
    refine ⟨_, rfl, ?_, ?_⟩
    · omega
    · generalize c % ((10 : Int) ^ (44 : Int).toNat + 31) = z at m1 m2 ⊢
      omega
  refine ⟨_, rfl, _, rfl, a, _, rfl, .inl hs, _, _, rfl, rfl, _, rfl, ?_⟩
  rw [List.length_map]
  by_cases c : k < ns.length
  · rw [decide_eq_true (show ((k : Nat) : Int) < (ns.length : Int) by omega)]
    have hg : (ns.map V.int)[k]? = some (.int (ns[k]'c)) := by rw [List.getElem?_map, List.getElem?_eq_getElem c]; rfl
    refine iteT ⟨_, rfl, _, rfl, a, _, _, _, rfl, rfl, hs, atI_nat hg, ?_⟩
    obtain ⟨y, ey, y1, y2⟩ := fin (ns[k]'c)
    subst ey
    exact ⟨_, rfl, _, _, rfl, rfl, ⟨by decide, by decide, by decide⟩, _, _, rfl, rfl, _, _, rfl, _, rfl, _, _, rfl, rfl, ⟨by decide, by decide, by decide⟩, _, _, rfl, rfl, _, _, rfl, rfl, (show (0 : Int) < (10 : Int) ^ (44 : Int).toNat + 31 by decide +kernel), _, _, rfl, rfl, .inr ⟨by decide, by decide⟩, _, rfl, _, _, rfl, rfl, _, _, rfl, rfl, (by show 3 ≤ sizeLine; decide), fun p hp => q _ p (same_upd hp) hp ⟨_, _, upd_same, y1, y2⟩⟩
  · rw [decide_eq_false (show ¬ ((k : Nat) : Int) < (ns.length : Int) by omega)]
    obtain ⟨y, ey, y1, y2⟩ := fin 0
    subst ey
    exact iteF ⟨_, rfl, _, _, rfl, rfl, ⟨by decide, by decide, by decide⟩, _, _, rfl, rfl, _, _, rfl, _, rfl, _, _, rfl, rfl, ⟨by decide, by decide, by decide⟩, _, _, rfl, rfl, _, _, rfl, rfl, (show (0 : Int) < (10 : Int) ^ (44 : Int).toNat + 31 by decide +kernel), _, _, rfl, rfl, .inr ⟨by decide, by decide⟩, _, rfl, _, _, rfl, rfl, _, _, rfl, rfl, (by show 3 ≤ sizeLine; decide), fun p hp => q _ p (same_upd hp) hp ⟨_, _, upd_same, y1, y2⟩⟩

/-! ### _law_names -/
end
theorem seq_nat {r n : Nat} (h : r < n) : seqIndex? (r : Int) n = some r := by
  refine (ixN_seq (n := n) (i := (r : Int)) (j := r) ?_).1
  unfold ixN
  rw [if_pos (by omega), if_pos (by omega)]
  rfl
section
variable {P : Program} {w : World} {K : PySem.W.Frag} {mg : Str → Option Value} {base : Heap}
/-- what a pool gives -/
structure Pops (i : Nat) (rl0 rl : Rl) (H0 H : Hp) (L p : Addr) (n : Nat) (pool rem ns : List Str) (k : Nat) : Prop where
  st : Step i rl0 H0 rl H
  pot : G.Pot i rl H p (n + k)
  remH : H L = some (.lst (rem.map .str))
  perm : (ns ++ rem).Perm pool
  len : ns.length = k
abbrev pool13 : List Str := ["an", "in", "out", "wish", "word", "open", "clear", "heard", "chair", "abcdefgh", "abcdefgi", "a", "ana"]
def spNames (K : PySem.W.Frag) : Sp := fun vs H Q _ => ∃ (i : Nat) (rl : Rl) (p : Addr) (n many : Nat), vs = [.ref p, .int many] ∧ Pot i rl H p n ∧ n + many < 1000000 ∧ many ≤ 13 ∧
  ∀ rl' H' D (ns : List Str), Step i rl H rl' H' → Pot i rl' H' p (n + many) → rl' D = none → H D = none → H' D = some (.lst (ns.map V.str)) → ns.length = many → ns.Nodup → (∀ x, x ∈ ns → isNm x = true) → Q (.ref D) H'
theorem sc_names : FnScope ["_law_pot_here", "_law_many", "_law_pool", "_law_k"] ["_law_pot_here", "_law_many"] (defScope s_L_names) := ⟨rfl, rfl, rfl, by decide +kernel, rfl, by decide +kernel, by decide +kernel⟩
theorem pool13_nodup : pool13.Nodup := by decide +kernel
theorem pool13_nm : ∀ x, x ∈ pool13 → isNm x = true := by decide +kernel
theorem ok_names (T : Txt K mg) : Ok P w K mg base CX0 2 (He.fAd K ("_law_names", none)) ["_law_pot_here", "_law_many"] (spNames K) := by
  obtain ⟨fd1, G1, b1, k1⟩ := (ok_dip (P := P) (w := w) (base := base) T).ex
  refine Ok.of T.f_L_names sc_names (fun _ _ _ _ _ _ us hl => match us, hl with | [_, _], _ => rfl) (fun vs H Q E h => by obtain ⟨_, _, _, _, _, rfl, _⟩ := h; rfl) (fun cdv A outer s H vs Q E hr h => ?_)
  obtain ⟨i, rl, p, n, many, rfl, pt, hn, hm, k⟩ := h
  have nd := sc_names.nd
  refine ⟨_, (pss_cons (ps_set (i := 2) nd rfl (Or.inr rfl) (pe_lst (pa_cons (pe_str) (pa_cons (pe_str) (pa_cons (pe_str) (pa_cons (pe_str) (pa_cons (pe_str) (pa_cons (pe_str) (pa_cons (pe_str) (pa_cons (pe_str) (pa_cons (pe_str) (pa_cons (pe_str) (pa_cons (pe_str) (pa_cons (pe_str) (pa_cons (pe_str) pa_nil)))))))))))))))
      (pss_one (ps_ret (pe_lc (own := [("_law_k", 3)]) (g := gName 3) (tt := tYes)
        (te := tBM K "list" rPopAt (tVar 2) (tCons (tCall spDip [] E0 (tCons (tVar 0) (tCons (tCB (fun xs H_1 Q => ∃ p ys, xs = [V.ref p] ∧ (SqL K H_1 p ys ∨ SqT K H_1 p ys) ∧ Q (V.int ys.length) H_1) (tCons (tVar 2) tNil)) tNil))) tNil))
        rfl nd (pi_range1 (by rfl) T.n_range (pa_cons (pv 1) pa_nil)) (blkOk_by (N := ["_law_pot_here", "_law_many", "_law_pool", "_law_k"]) (sc := defScope s_L_names) (by decide +kernel))
        (fun _ _ _ _ _ => pg_name (i := 3) nd rfl (Or.inl rfl)) (fun _ _ _ _ _ => pts_nil) (fun _ _ _ _ _ => pe_bm PySem.F.plainAttrs_list PySem.F.slot_list_pop PySem.F.type_list_pop mt_popAt (pv 2) (pa_cons (pe_call G1 hr (by rfl) T.g_L_dip k1 b1 .nil pass0 (pa_cons (pv 0) (pa_cons (pe_callB call_len_seq (by rfl) T.n_len PySem.boot_len (pa_cons (pv 2) pa_nil)) pa_nil))) pa_nil)))))), ?_⟩
  refine ⟨(by show 13 ≤ sizeLine; decide), fun L hL => ?_⟩
  have eL : upd H L (.lst [V.str "an", V.str "in", V.str "out", V.str "wish", V.str "word", V.str "open", V.str "clear", V.str "heard", V.str "chair", V.str "abcdefgh", V.str "abcdefgi", V.str "a", V.str "ana"]) L = some (.lst (pool13.map V.str)) := upd_same
  have t1 : Step i rl H (setR rl L none) (upd H L (.lst [V.str "an", V.str "in", V.str "out", V.str "wish", V.str "word", V.str "open", V.str "clear", V.str "heard", V.str "chair", V.str "abcdefgh", V.str "abcdefgi", V.str "a", V.str "ana"])) := Step.own hL
  have pt1 : Pot i (setR rl L none) (upd H L (.lst [V.str "an", V.str "in", V.str "out", V.str "wish", V.str "word", V.str "open", V.str "clear", V.str "heard", V.str "chair", V.str "abcdefgh", V.str "abcdefgi", V.str "a", V.str "ana"])) p n := by
    obtain ⟨x, y, z, c, r⟩ := pt
    exact ⟨x, y, z, (c.role hL).fresh hL, r⟩
  have rL : setR rl L none L = none := setR_same
  generalize setR rl L none = rl1 at t1 pt1 rL
  generalize upd H L (.lst [V.str "an", V.str "in", V.str "out", V.str "wish", V.str "word", V.str "open", V.str "clear", V.str "heard", V.str "chair", V.str "abcdefgh", V.str "abcdefgi", V.str "a", V.str "ana"]) = H1 at eL t1 pt1 ⊢
  refine ⟨_, rfl, many, rfl, by omega, by omega, fun D hD => ?_⟩
  have pt2 : Pot i (setR rl1 D none) (upd H1 D (.lst [])) p n := by
    obtain ⟨x, y, z, c, r⟩ := pt1
    exact ⟨x, y, z, (c.role hD).fresh hD, r⟩
  have nLD : L ≠ D := ne_of_none eL hD
  have t2 : Step i rl H (setR rl1 D none) (upd H1 D (.lst [])) := t1.trans (Step.own hD)
  have rD : setR rl1 D none D = none := setR_same
  have rL2 : setR rl1 D none L = none := by rw [setR_ne nLD]; exact rL
  have hDn : H D = none := t1.was_free hD
  have hLn : H L = none := hL
  have eL2 : upd H1 D (.lst []) L = some (.lst (pool13.map V.str)) := by rw [upd_ne nLD]; exact eL
  generalize setR rl1 D none = rl2 at t2 pt2 rD rL2
  refine lc_range (lo := 0) (n := many) (fun j H2 => ∃ rem ns, Pops i rl rl2 H H2 L p n pool13 rem ns j ∧ H2 D = some (.lst (ns.map V.str))) ⟨pool13, [], ⟨t2, pt2, eL2, List.Perm.refl _, rfl⟩, upd_same⟩ ?_ ?_
  · rintro j H2 hj ⟨rem, ns, q, eD⟩
    have hrl : rem.length + j = 13 := by
      have z := q.perm.length_eq
      rw [List.length_append, q.len] at z
      have z2 : pool13.length = 13 := rfl
      omega
    refine ⟨rfl, ?_⟩
    unfold tYes
    refine iteT ⟨_, rfl, .inl ⟨rfl, _, SqL.of q.remH⟩, _, rfl, _, rfl, L, _, rfl, .inl (SqL.of q.remH), i, rl2, p, n + j, rem.length, by rw [List.length_map]; rfl, q.pot, by omega, by omega, by omega, fun H3 r hr3 t3 pt3 => ?_⟩
    have eL3 : H3 L = _ := t3.keep _ _ q.remH (.inl fun r e => by rw [rL2] at e; cases e)
    have eD3 : H3 D = _ := t3.keep _ _ eD (.inl fun r e => by rw [rD] at e; cases e)
    obtain ⟨y, hy⟩ : ∃ y, rem[r]? = some y := ⟨_, List.getElem?_eq_getElem hr3⟩
    refine ⟨L, _, _, r, .str y, rfl, rfl, eL3, by omega, by omega, ?_, by rw [List.getElem?_map, hy]; rfl, ?_⟩
    · rw [List.length_map]
      exact seq_nat hr3
    rw [map_erase_at]
    have eDu : upd H3 L (.lst ((rem.eraseIdx r).map V.str)) D = some (.lst (ns.map V.str)) := by rw [upd_ne nLD.symm]; exact eD3
    refine ⟨_, eDu, by rw [List.length_map, q.len]; exact lim_lt (show j ≤ 13 by omega) (by decide), rem.eraseIdx r, ns ++ [y], ⟨?_, ?_, ?_, ?_, ?_⟩, by rw [upd_same, List.map_append]; rfl⟩
    · exact ((q.st.trans t3).side hLn).side hDn
    · obtain ⟨x, y, z, c, u⟩ := pt3
      exact ⟨x, y, z, (c.side rL2).side rD, u⟩
    · rw [upd_ne nLD]; exact upd_same
    · have z := (perm_eraseAt rem r y hy)
      rw [List.append_assoc]
      exact (z.append_left ns).trans q.perm
    · rw [List.length_append, q.len]; rfl
  · rintro H2 ⟨rem, ns, q, eD⟩
    refine k rl2 H2 D ns q.st q.pot rD hDn eD q.len ?_ ?_
    · have z := (q.perm.nodup_iff).mpr pool13_nodup
      exact (List.nodup_append.mp z).1
    · intro x hx
      exact pool13_nm x (q.perm.mem_iff.mp (List.mem_append_left _ hx))
end
end G
set_option Elab.async false
set_option linter.all false
set_option maxRecDepth 100000
set_option maxHeartbeats 4000000
namespace G
open PySem PySem.Spec PyProof.Rows L2
abbrev sg (c : Nat) : Str := ⟨#[c]⟩
def z1 : Str := "abcdefghij"
def z2 : Str := "klmnopqrst"
def poolJ (j : Nat) : List Str := (z1.cps.toList.take j).flatMap fun c => z2.cps.toList.map fun d => sg c ++ sg d
theorem pool100_nodup : (poolJ 10).Nodup := by decide +kernel
theorem pool100_nm : ∀ x, x ∈ poolJ 10 → isNm x = true ∧ x ≠ "zz" := by decide +kernel
theorem pool100_len : (poolJ 10).length = 100 := by decide +kernel
theorem poolJ_len : ∀ j, j < 10 → (poolJ j).length ≤ 100 := by decide +kernel
theorem poolJ_succ {j c : Nat} (h : z1.cps.toList[j]? = some c) : poolJ (j + 1) = poolJ j ++ z2.cps.toList.map fun d => sg c ++ sg d := by
  unfold poolJ
  rw [take_succ_at h, List.flatMap_append, List.flatMap_cons, List.flatMap_nil, List.append_nil]
section
variable {P : Program} {w : World} {K : PySem.W.Frag} {mg : Str → Option Value} {base : Heap}
def spLong (K : PySem.W.Frag) : Sp := fun vs H Q _ => ∃ (i : Nat) (rl : Rl) (p : Addr) (n : Nat), vs = [.ref p] ∧ Pot i rl H p n ∧ n + 60 < 1000000 ∧
  ∀ rl' H' D (ns : List Str), Step i rl H rl' H' → Pot i rl' H' p (n + 60) → rl' D = none → H D = none → H' D = some (.lst ((("zz" : Str) :: ns).map V.str)) → 41 ≤ ns.length → ns.length ≤ 50 → ns.Nodup → (∀ x, x ∈ ns → isNm x = true) → Q (.ref D) H'
theorem sc_long : FnScope ["_law_pot_here", "_law_pool", "_law_one", "_law_other", "_law_many", "_law_k"] ["_law_pot_here"] (defScope s_L_long) := ⟨rfl, rfl, rfl, by decide +kernel, rfl, by decide +kernel, by decide +kernel⟩
theorem ok_long (T : Txt K mg) : Ok P w K mg base CX0 2 (He.fAd K ("_law_long", none)) ["_law_pot_here"] (spLong K) := by
  obtain ⟨fd1, G1, b1, k1⟩ := (ok_dip (P := P) (w := w) (base := base) T).ex
  refine Ok.of T.f_L_long sc_long (fun _ _ _ _ _ _ us hl => match us, hl with | [_], _ => rfl) (fun vs H Q E h => by obtain ⟨_, _, _, _, rfl, _⟩ := h; rfl) (fun cdv A outer s H vs Q E hr h => ?_)
  obtain ⟨i, rl, p, n, rfl, pt, hn, k⟩ := h
  have nd := sc_long.nd
  refine ⟨_, (pss_cons (ps_set (i := 1) nd rfl (Or.inr rfl) (pe_lst pa_nil))
      (pss_cons (ps_for PassesOwn.never rfl (pi_str pe_str) (pg_name (i := 2) nd rfl (Or.inr rfl)) (pss_one (ps_expr (pe_bm PySem.F.plainAttrs_list PySem.F.slot_list_extend PySem.F.type_list_extend mt_extend (pv 1) (pa_cons (pe_lc (own := [("_law_other", 3)]) (g := gName 3) (tt := tYes) rfl nd (pi_str pe_str) (blkOk_by (N := ["_law_pot_here", "_law_pool", "_law_one", "_law_other", "_law_many", "_law_k"]) (sc := defScope s_L_long) (by decide +kernel))
          (fun _ _ _ _ _ => pg_name (i := 3) nd rfl (Or.inl rfl)) (fun _ _ _ _ _ => pts_nil) (fun _ _ _ _ _ => pe_op op_add_str (pv 2) (pv 3))) pa_nil)))))
      (pss_cons (ps_set (i := 4) nd rfl (Or.inl rfl) (pe_op op_add pe_int (pe_call G1 hr (by rfl) T.g_L_dip k1 b1 .nil pass0 (pa_cons (pv 0) (pa_cons (pe_int) pa_nil)))))
      (pss_one (ps_ret (pe_op op_cat (pe_lst (pa_cons (pe_str) pa_nil)) (pe_lc (own := [("_law_k", 5)]) (g := gName 5) (tt := tYes)
        (te := tBM K "list" rPopAt (tVar 1) (tCons (tCall spDip [] E0 (tCons (tVar 0) (tCons (tCB (fun xs H_1 Q => ∃ p ys, xs = [V.ref p] ∧ (SqL K H_1 p ys ∨ SqT K H_1 p ys) ∧ Q (V.int ys.length) H_1) (tCons (tVar 1) tNil)) tNil))) tNil))
        rfl nd (pi_range1 (by rfl) T.n_range (pa_cons (pv 4) pa_nil)) (blkOk_by (N := ["_law_pot_here", "_law_pool", "_law_one", "_law_other", "_law_many", "_law_k"]) (sc := defScope s_L_long) (by decide +kernel))
        (fun _ _ _ _ _ => pg_name (i := 5) nd rfl (Or.inl rfl)) (fun _ _ _ _ _ => pts_nil) (fun _ _ _ _ _ => pe_bm PySem.F.plainAttrs_list PySem.F.slot_list_pop PySem.F.type_list_pop mt_popAt (pv 1) (pa_cons (pe_call G1 hr (by rfl) T.g_L_dip k1 b1 .nil pass0 (pa_cons (pv 0) (pa_cons (pe_callB call_len_seq (by rfl) T.n_len PySem.boot_len (pa_cons (pv 1) pa_nil)) pa_nil))) pa_nil))))))))), ?_⟩
  refine ⟨(by show 0 ≤ sizeLine; decide), fun L hL => ?_⟩
  refine ⟨_, rfl, ?_⟩
  refine for_it (walk_signs z1) (fun j σ H2 => ∃ v2, σ = [some (.ref p), some (.ref L), v2, none, none, none] ∧ H2 L = some (.lst ((poolJ j).map V.str)) ∧ Same H H2) ⟨none, rfl, upd_same, same_upd hL⟩ (fun _ _ _ _ _ => trivial) ?_ ?_
  · rintro j v σ H2 H3 hj ⟨v2, rfl, eL, s2⟩ ⟨rfl, c, hc, rfl⟩
    refine ⟨_, rfl, .inl ⟨rfl, _, SqL.of eL⟩, _, rfl, fun D hD => ?_⟩
    refine lc_pure 3 z2.cps.toList (fun d => V.str (sg d)) (fun _ => true) (fun d => V.str (sg c ++ sg d)) (walk_signs z2) (fun i H v H' ⟨e, d, h1, h2⟩ => ⟨e, d, h1, h2⟩) hD (by decide) (fun _ _ => trivial) (fun _ => rfl) ?_ ?_ ?_
    · intro d H4 kk hd s4 hkk
      unfold tYes
      exact hkk H4 (Same.refl H4)
    · intro d H4 kk hd _ s4 hkk
      exact ⟨_, rfl, _, rfl, _, _, rfl, rfl, (by show 2 ≤ sizeLine; decide), hkk H4 (Same.refl H4)⟩
    intro H4 s4 e4
    have ft : (z2.cps.toList.filter fun _ => true) = z2.cps.toList := List.filter_eq_self.mpr fun _ _ => rfl
    rw [ft] at e4
    have hj10 : j < 10 := hj
    have em : (z2.cps.toList.map fun d => V.str (sg c ++ sg d)) = (z2.cps.toList.map fun d => sg c ++ sg d).map V.str := by rw [List.map_map]; rfl
    rw [em] at e4
    refine ⟨L, D, _, _, rfl, rfl, s4 _ _ eL, e4, ?_, ?_⟩
    · rw [List.length_map, List.length_map, List.length_map]
      have a := poolJ_len j hj10
      have b : z2.cps.toList.length = 10 := rfl
      rw [b]
      exact Nat.le_of_lt (lim_lt (b := 110) (by omega) (by decide))
    · refine ⟨_, rfl, ?_, same_side (s2.trans s4) hL⟩
      rw [upd_same, ← List.map_append, poolJ_succ hc]
  · rintro σ H2 ⟨v2, rfl, eL, s2⟩
    have eL : H2 L = some (.lst ((poolJ 10).map V.str)) := eL
    have t2 : Step i rl H (setR rl L none) H2 := (Step.claim hL).thenSame s2
    have pt2 : Pot i (setR rl L none) H2 p n := by
      obtain ⟨x, y, z, c, r⟩ := pt
      exact ⟨x, y, z, (c.role hL).same s2, r⟩
    have rL : setR rl L none L = none := setR_same
    generalize setR rl L none = rl2 at t2 pt2 rL
    refine ⟨_, rfl, i, rl2, p, n, 10, rfl, pt2, by omega, by decide, by decide, fun H3 r hr3 t3 pt3 => ?_⟩
    have eL3 : H3 L = _ := t3.keep _ _ eL (.inl fun r e => by rw [rL] at e; cases e)
    refine ⟨_, _, rfl, rfl, (by show 1 ≤ sizeLine; decide), fun Z hZ => ?_⟩
    have sZ := same_upd (o := HO.lst [V.str "zz"]) hZ
    have eZ : upd H3 Z (.lst [V.str "zz"]) Z = some (.lst [V.str "zz"]) := upd_same
    have eL4 := sZ _ _ eL3
    have pt4 : Pot i (setR rl2 Z none) (upd H3 Z (.lst [V.str "zz"])) p (n + 1) := by
      obtain ⟨x, y, z, c, r⟩ := pt3
      exact ⟨x, y, z, (c.role hZ).same sZ, r⟩
    have nLZ : L ≠ Z := ne_of_none eL3 hZ
    have t4 : Step i rl H (setR rl2 Z none) (upd H3 Z (.lst [V.str "zz"])) := (t2.trans t3).trans (Step.own hZ)
    have rZ : setR rl2 Z none Z = none := setR_same
    have rL4 : setR rl2 Z none L = none := by rw [setR_ne nLZ]; exact rL
    generalize setR rl2 Z none = rl4 at t4 pt4 rZ rL4
    generalize upd H3 Z (.lst [V.str "zz"]) = H4 at sZ eZ eL4 pt4 t4 ⊢
    refine ⟨_, rfl, _, rfl, by omega, by omega, fun D hD => ?_⟩
    have pt5 : Pot i (setR rl4 D none) (upd H4 D (.lst [])) p (n + 1) := by
      obtain ⟨x, y, z, c, r⟩ := pt4
      exact ⟨x, y, z, (c.role hD).fresh hD, r⟩
    have nLD : L ≠ D := ne_of_none eL4 hD
    have nZD : Z ≠ D := ne_of_none eZ hD
    have t5 : Step i rl H (setR rl4 D none) (upd H4 D (.lst [])) := t4.trans (Step.own hD)
    have rD : setR rl4 D none D = none := setR_same
    have rL5 : setR rl4 D none L = none := by rw [setR_ne nLD]; exact rL4
    have rZ5 : setR rl4 D none Z = none := by rw [setR_ne nZD]; exact rZ
    have hDn : H D = none := t4.was_free hD
    have eL5 : upd H4 D (.lst []) L = some (.lst ((poolJ 10).map V.str)) := by rw [upd_ne nLD]; exact eL4
    have eZ5 : upd H4 D (.lst []) Z = some (.lst [V.str "zz"]) := by rw [upd_ne nZD]; exact eZ
    generalize setR rl4 D none = rl5 at t5 pt5 rD rL5 rZ5
    refine lc_range (lo := 0) (n := 41 + r) (fun j H2 => ∃ rem ns, Pops i rl rl5 H H2 L p (n + 1) (poolJ 10) rem ns j ∧ H2 D = some (.lst (ns.map V.str)) ∧ H2 Z = some (.lst [V.str "zz"])) ⟨poolJ 10, [], ⟨t5, pt5, eL5, List.Perm.refl _, rfl⟩, upd_same, eZ5⟩ ?_ ?_
    · rintro j H2 hj ⟨rem, ns, q, eD, eZ6⟩
      have hrl : rem.length + j = 100 := by
        have z := q.perm.length_eq
        rw [List.length_append, q.len, pool100_len] at z
        omega
      refine ⟨rfl, ?_⟩
      unfold tYes
      refine iteT ⟨_, rfl, .inl ⟨rfl, _, SqL.of q.remH⟩, _, rfl, _, rfl, L, _, rfl, .inl (SqL.of q.remH), i, rl5, p, n + 1 + j, rem.length, by rw [List.length_map]; rfl, q.pot, by omega, by omega, by omega, fun H3 r hr3 t3 pt3 => ?_⟩
      have eL3 : H3 L = _ := t3.keep _ _ q.remH (.inl fun r e => by rw [rL5] at e; cases e)
      have eD3 : H3 D = _ := t3.keep _ _ eD (.inl fun r e => by rw [rD] at e; cases e)
      have eZ3 : H3 Z = _ := t3.keep _ _ eZ6 (.inl fun r e => by rw [rZ5] at e; cases e)
      obtain ⟨y, hy⟩ : ∃ y, rem[r]? = some y := ⟨_, List.getElem?_eq_getElem hr3⟩
      refine ⟨L, _, _, r, .str y, rfl, rfl, eL3, by omega, by omega, ?_, by rw [List.getElem?_map, hy]; rfl, ?_⟩
      · rw [List.length_map]
        exact seq_nat hr3
      rw [map_erase_at]
      have eDu : upd H3 L (.lst ((rem.eraseIdx r).map V.str)) D = some (.lst (ns.map V.str)) := by rw [upd_ne nLD.symm]; exact eD3
      refine ⟨_, eDu, by rw [List.length_map, q.len]; exact lim_lt (show j ≤ 100 by omega) (by decide), rem.eraseIdx r, ns ++ [y], ⟨?_, ?_, ?_, ?_, ?_⟩, by rw [upd_same, List.map_append]; rfl, by rw [upd_ne nZD, upd_ne nLZ.symm]; exact eZ3⟩
      · exact ((q.st.trans t3).side hL).side hDn
      · obtain ⟨x, y, z, c, u⟩ := pt3
        exact ⟨x, y, z, (c.side rL5).side rD, u⟩
      · rw [upd_ne nLD]; exact upd_same
      · have z := (perm_eraseAt rem r y hy)
        rw [List.append_assoc]
        exact (z.append_left ns).trans q.perm
      · rw [List.length_append, q.len]; rfl
    · rintro H6 ⟨rem, ns, q, eD, eZ6⟩
      have hnl := q.len
      refine ⟨Z, D, _, _, rfl, rfl, eZ6, eD, ?_, fun R hR => ?_⟩
      · rw [List.length_map, hnl]
        exact Nat.le_of_lt (lim_lt (b := 60) (by show 1 + (41 + r) ≤ 60; omega) (by decide))
      · have z := (q.perm.nodup_iff).mpr pool100_nodup
        refine k (setR rl5 R none) _ R ns (q.st.trans (Step.own hR)) ?_ setR_same (q.st.was_free hR) upd_same (by omega) (by omega) (List.nodup_append.mp z).1 fun x hx => (pool100_nm x (q.perm.mem_iff.mp (List.mem_append_left _ hx))).1
        obtain ⟨x, y, z, c, u1, u2, u3, u4⟩ := q.pot
        exact ⟨x, y, z, (c.role hR).fresh hR, u1, u2, u3, by omega⟩
end
end G
set_option Elab.async false
set_option linter.all false
set_option maxRecDepth 100000
set_option maxHeartbeats 4000000
namespace G
open PySem PySem.Spec PyProof.Rows L2
section
variable {P : Program} {w : World} {K : PySem.W.Frag} {mg : Str → Option Value} {base : Heap}
/-! ### _law_new -/
def spLNew (K : PySem.W.Frag) : Sp := fun vs H Q _ => ∃ (j : Nat) (rl : Rl) (own : Str) (size : Nat), vs = [.str own, .int size] ∧
  ∀ rl' H' q m, Step j rl H rl' H' → Mine K j rl' H' q 0 (S.new own size) m → H q = none → Q (.ref q) H'
theorem sc_Lnew : FnScope ["_law_name", "_law_room", "_law_mine"] ["_law_name", "_law_room"] (defScope s_L_new) := ⟨rfl, rfl, rfl, by decide +kernel, rfl, by decide +kernel, by decide +kernel⟩
theorem ok_Lnew (T : Txt K mg) : Ok P w K mg base CX0 1 (He.fAd K ("_law_new", none)) ["_law_name", "_law_room"] (spLNew K) := by
  refine Ok.of T.f_L_new sc_Lnew (fun _ _ _ _ _ _ us hl => match us, hl with | [_, _], _ => rfl) (fun vs H Q E h => by obtain ⟨_, _, _, _, rfl, _⟩ := h; rfl) (fun cdv A outer s H vs Q E hr h => ?_)
  obtain ⟨j, rl, own, size, rfl, k⟩ := h
  have hu := hu_of hr
  have nd := sc_Lnew.nd
  refine ⟨_, (pss_cons (ps_set (i := 2) nd rfl (Or.inl rfl) (pe_disp (pps_cons pe_str (pv 0) (pps_cons pe_str (pv 1) (pps_cons pe_str (pe_lst pa_nil) (pps_cons pe_str pe_dnewK (pps_cons pe_str pe_int (pps_cons pe_str pe_dnewK (pps_cons pe_str pe_dnewK (pps_cons pe_str pe_dnewK pps_nil)))))))) (by rfl) (by rfl) (fun z => by cases z) (by decide)))
      (pss_cons (ps_expr (pe_bm PySem.F.plainAttrs_dict PySem.F.slot_dict_update PySem.F.type_dict_update mt_update (pv 2) (pa_cons (pe_disp (pps_cons pe_str pe_dnewK (pps_cons pe_str (pe_lst pa_nil) (pps_cons pe_str (pe_lst pa_nil) (pps_cons pe_str (pe_lst pa_nil) pps_nil)))) (by rfl) (by rfl) (fun z => by cases z) (by decide)) pa_nil)))
      (pss_one (ps_ret (pv 2))))), ?_⟩
  have t0 : Step j rl H rl H := Step.refl
  generalize hrl0 : rl = rl0 at t0
  intro q hq
  have hqH := hq
  have c_q : C (setR rl0 q (some (j, (.self)))) (upd H q (.dK [])) j (.self) q (.dK []) := C.own
  have t1 := t0.trans (Step.own hq (o' := .dK []) (v := some (j, (.self))))
  generalize hr1 : setR rl0 q (some (j, (.self))) = rl1 at c_q t1
  generalize hh1 : upd H q (.dK []) = H1 at c_q t1 ⊢
  refine ⟨_, rfl, _, rfl, ⟨(by show 0 ≤ sizeLine; decide), fun l hl => ?_⟩⟩
  have c_q := (c_q.role hl (v := some (j, (.line)))).fresh hl (o' := .lst [])
  have c_l : C (setR rl1 l (some (j, (.line)))) (upd H1 l (.lst [])) j (.line) l (.lst []) := C.own
  have t2 := t1.trans (Step.own hl (o' := .lst []) (v := some (j, (.line))))
  generalize hr2 : setR rl1 l (some (j, (.line))) = rl2 at c_q c_l t2
  generalize hh2 : upd H1 l (.lst []) = H2 at c_q c_l t2 ⊢
  intro he hhe
  have c_q := (c_q.role hhe (v := some (j, (.heard)))).fresh hhe (o' := .dK [])
  have c_l := (c_l.role hhe (v := some (j, (.heard)))).fresh hhe (o' := .dK [])
  have c_he : C (setR rl2 he (some (j, (.heard)))) (upd H2 he (.dK [])) j (.heard) he (.dK []) := C.own
  have t3 := t2.trans (Step.own hhe (o' := .dK []) (v := some (j, (.heard))))
  generalize hr3 : setR rl2 he (some (j, (.heard))) = rl3 at c_q c_l c_he t3
  generalize hh3 : upd H2 he (.dK []) = H3 at c_q c_l c_he t3 ⊢
  intro wo hwo
  have c_q := (c_q.role hwo (v := some (j, (.word)))).fresh hwo (o' := .dK [])
  have c_l := (c_l.role hwo (v := some (j, (.word)))).fresh hwo (o' := .dK [])
  have c_he := (c_he.role hwo (v := some (j, (.word)))).fresh hwo (o' := .dK [])
  have c_wo : C (setR rl3 wo (some (j, (.word)))) (upd H3 wo (.dK [])) j (.word) wo (.dK []) := C.own
  have t4 := t3.trans (Step.own hwo (o' := .dK []) (v := some (j, (.word))))
  generalize hr4 : setR rl3 wo (some (j, (.word))) = rl4 at c_q c_l c_he c_wo t4
  generalize hh4 : upd H3 wo (.dK []) = H4 at c_q c_l c_he c_wo t4 ⊢
  intro ats hats
  have c_q := (c_q.role hats (v := some (j, (.ats)))).fresh hats (o' := .dK [])
  have c_l := (c_l.role hats (v := some (j, (.ats)))).fresh hats (o' := .dK [])
  have c_he := (c_he.role hats (v := some (j, (.ats)))).fresh hats (o' := .dK [])
  have c_wo := (c_wo.role hats (v := some (j, (.ats)))).fresh hats (o' := .dK [])
  have c_ats : C (setR rl4 ats (some (j, (.ats)))) (upd H4 ats (.dK [])) j (.ats) ats (.dK []) := C.own
  have t5 := t4.trans (Step.own hats (o' := .dK []) (v := some (j, (.ats))))
  generalize hr5 : setR rl4 ats (some (j, (.ats))) = rl5 at c_q c_l c_he c_wo c_ats t5
  generalize hh5 : upd H4 ats (.dK []) = H5 at c_q c_l c_he c_wo c_ats t5 ⊢
  intro op hop
  have c_q := (c_q.role hop (v := some (j, (.opens)))).fresh hop (o' := .dK [])
  have c_l := (c_l.role hop (v := some (j, (.opens)))).fresh hop (o' := .dK [])
  have c_he := (c_he.role hop (v := some (j, (.opens)))).fresh hop (o' := .dK [])
  have c_wo := (c_wo.role hop (v := some (j, (.opens)))).fresh hop (o' := .dK [])
  have c_ats := (c_ats.role hop (v := some (j, (.opens)))).fresh hop (o' := .dK [])
  have c_op : C (setR rl5 op (some (j, (.opens)))) (upd H5 op (.dK [])) j (.opens) op (.dK []) := C.own
  have t6 := t5.trans (Step.own hop (o' := .dK []) (v := some (j, (.opens))))
  generalize hr6 : setR rl5 op (some (j, (.opens))) = rl6 at c_q c_l c_he c_wo c_ats c_op t6
  generalize hh6 : upd H5 op (.dK []) = H6 at c_q c_l c_he c_wo c_ats c_op t6 ⊢
  refine ⟨c_q.h, [(.inr "name", .str own), (.inr "room", .int size), (.inr "line", .ref l), (.inr "heard", .ref he), (.inr "count", .int 0), (.inr "word", .ref wo), (.inr "at", .ref ats), (.inr "open", .ref op)], rfl, (by show 8 ≤ 15; decide), ?_⟩
  have c_l := c_l.upd c_q (by intro e; cases e) (o' := .dK (mergeK [] [(.inr "name", .str own), (.inr "room", .int size), (.inr "line", .ref l), (.inr "heard", .ref he), (.inr "count", .int 0), (.inr "word", .ref wo), (.inr "at", .ref ats), (.inr "open", .ref op)]))
  have c_he := c_he.upd c_q (by intro e; cases e) (o' := .dK (mergeK [] [(.inr "name", .str own), (.inr "room", .int size), (.inr "line", .ref l), (.inr "heard", .ref he), (.inr "count", .int 0), (.inr "word", .ref wo), (.inr "at", .ref ats), (.inr "open", .ref op)]))
  have c_wo := c_wo.upd c_q (by intro e; cases e) (o' := .dK (mergeK [] [(.inr "name", .str own), (.inr "room", .int size), (.inr "line", .ref l), (.inr "heard", .ref he), (.inr "count", .int 0), (.inr "word", .ref wo), (.inr "at", .ref ats), (.inr "open", .ref op)]))
  have c_ats := c_ats.upd c_q (by intro e; cases e) (o' := .dK (mergeK [] [(.inr "name", .str own), (.inr "room", .int size), (.inr "line", .ref l), (.inr "heard", .ref he), (.inr "count", .int 0), (.inr "word", .ref wo), (.inr "at", .ref ats), (.inr "open", .ref op)]))
  have c_op := c_op.upd c_q (by intro e; cases e) (o' := .dK (mergeK [] [(.inr "name", .str own), (.inr "room", .int size), (.inr "line", .ref l), (.inr "heard", .ref he), (.inr "count", .int 0), (.inr "word", .ref wo), (.inr "at", .ref ats), (.inr "open", .ref op)]))
  have tw1 := t6.trans (Step.write c_q (fun z => z) (o' := .dK (mergeK [] [(.inr "name", .str own), (.inr "room", .int size), (.inr "line", .ref l), (.inr "heard", .ref he), (.inr "count", .int 0), (.inr "word", .ref wo), (.inr "at", .ref ats), (.inr "open", .ref op)])))
  have c_q := c_q.put (o' := .dK (mergeK [] [(.inr "name", .str own), (.inr "room", .int size), (.inr "line", .ref l), (.inr "heard", .ref he), (.inr "count", .int 0), (.inr "word", .ref wo), (.inr "at", .ref ats), (.inr "open", .ref op)]))
  generalize hw1 : upd H6 q (.dK (mergeK [] [(.inr "name", .str own), (.inr "room", .int size), (.inr "line", .ref l), (.inr "heard", .ref he), (.inr "count", .int 0), (.inr "word", .ref wo), (.inr "at", .ref ats), (.inr "open", .ref op)])) = Hw1 at c_q c_l c_he c_wo c_ats c_op tw1 ⊢
  refine ⟨_, rfl, .inr (.inr (.inl ⟨rfl, .inl ⟨_, c_q.h⟩⟩)), ?_⟩
  intro d2 hd2
  have t6 := tw1
  have c_q := (c_q.role hd2 (v := some (j, (.place "")))).fresh hd2 (o' := .dK [])
  have c_l := (c_l.role hd2 (v := some (j, (.place "")))).fresh hd2 (o' := .dK [])
  have c_he := (c_he.role hd2 (v := some (j, (.place "")))).fresh hd2 (o' := .dK [])
  have c_wo := (c_wo.role hd2 (v := some (j, (.place "")))).fresh hd2 (o' := .dK [])
  have c_ats := (c_ats.role hd2 (v := some (j, (.place "")))).fresh hd2 (o' := .dK [])
  have c_op := (c_op.role hd2 (v := some (j, (.place "")))).fresh hd2 (o' := .dK [])
  have c_d2 : C (setR rl6 d2 (some (j, (.place "")))) (upd Hw1 d2 (.dK [])) j (.place "") d2 (.dK []) := C.own
  have t7 := t6.trans (Step.own hd2 (o' := .dK []) (v := some (j, (.place ""))))
  generalize hr7 : setR rl6 d2 (some (j, (.place ""))) = rl7 at c_q c_l c_he c_wo c_ats c_op c_d2 t7
  generalize hh7 : upd Hw1 d2 (.dK []) = H7 at c_q c_l c_he c_wo c_ats c_op c_d2 t7 ⊢
  intro ow how
  have c_q := (c_q.role how (v := some (j, (.debts)))).fresh how (o' := .dK [])
  have c_l := (c_l.role how (v := some (j, (.debts)))).fresh how (o' := .dK [])
  have c_he := (c_he.role how (v := some (j, (.debts)))).fresh how (o' := .dK [])
  have c_wo := (c_wo.role how (v := some (j, (.debts)))).fresh how (o' := .dK [])
  have c_ats := (c_ats.role how (v := some (j, (.debts)))).fresh how (o' := .dK [])
  have c_op := (c_op.role how (v := some (j, (.debts)))).fresh how (o' := .dK [])
  have c_d2 := (c_d2.role how (v := some (j, (.debts)))).fresh how (o' := .dK [])
  have c_ow : C (setR rl7 ow (some (j, (.debts)))) (upd H7 ow (.dK [])) j (.debts) ow (.dK []) := C.own
  have t8 := t7.trans (Step.own how (o' := .dK []) (v := some (j, (.debts))))
  generalize hr8 : setR rl7 ow (some (j, (.debts))) = rl8 at c_q c_l c_he c_wo c_ats c_op c_d2 c_ow t8
  generalize hh8 : upd H7 ow (.dK []) = H8 at c_q c_l c_he c_wo c_ats c_op c_d2 c_ow t8 ⊢
  refine ⟨(by show 0 ≤ sizeLine; decide), fun aw haw => ?_⟩
  have c_q := (c_q.role haw (v := some (j, (.away)))).fresh haw (o' := .lst [])
  have c_l := (c_l.role haw (v := some (j, (.away)))).fresh haw (o' := .lst [])
  have c_he := (c_he.role haw (v := some (j, (.away)))).fresh haw (o' := .lst [])
  have c_wo := (c_wo.role haw (v := some (j, (.away)))).fresh haw (o' := .lst [])
  have c_ats := (c_ats.role haw (v := some (j, (.away)))).fresh haw (o' := .lst [])
  have c_op := (c_op.role haw (v := some (j, (.away)))).fresh haw (o' := .lst [])
  have c_d2 := (c_d2.role haw (v := some (j, (.away)))).fresh haw (o' := .lst [])
  have c_ow := (c_ow.role haw (v := some (j, (.away)))).fresh haw (o' := .lst [])
  have c_aw : C (setR rl8 aw (some (j, (.away)))) (upd H8 aw (.lst [])) j (.away) aw (.lst []) := C.own
  have t9 := t8.trans (Step.own haw (o' := .lst []) (v := some (j, (.away))))
  generalize hr9 : setR rl8 aw (some (j, (.away))) = rl9 at c_q c_l c_he c_wo c_ats c_op c_d2 c_ow c_aw t9
  generalize hh9 : upd H8 aw (.lst []) = H9 at c_q c_l c_he c_wo c_ats c_op c_d2 c_ow c_aw t9 ⊢
  refine ⟨(by show 0 ≤ sizeLine; decide), fun pa hpa => ?_⟩
  have c_q := (c_q.role hpa (v := some (j, (.past)))).fresh hpa (o' := .lst [])
  have c_l := (c_l.role hpa (v := some (j, (.past)))).fresh hpa (o' := .lst [])
  have c_he := (c_he.role hpa (v := some (j, (.past)))).fresh hpa (o' := .lst [])
  have c_wo := (c_wo.role hpa (v := some (j, (.past)))).fresh hpa (o' := .lst [])
  have c_ats := (c_ats.role hpa (v := some (j, (.past)))).fresh hpa (o' := .lst [])
  have c_op := (c_op.role hpa (v := some (j, (.past)))).fresh hpa (o' := .lst [])
  have c_d2 := (c_d2.role hpa (v := some (j, (.past)))).fresh hpa (o' := .lst [])
  have c_ow := (c_ow.role hpa (v := some (j, (.past)))).fresh hpa (o' := .lst [])
  have c_aw := (c_aw.role hpa (v := some (j, (.past)))).fresh hpa (o' := .lst [])
  have c_pa : C (setR rl9 pa (some (j, (.past)))) (upd H9 pa (.lst [])) j (.past) pa (.lst []) := C.own
  have t10 := t9.trans (Step.own hpa (o' := .lst []) (v := some (j, (.past))))
  generalize hr10 : setR rl9 pa (some (j, (.past))) = rl10 at c_q c_l c_he c_wo c_ats c_op c_d2 c_ow c_aw c_pa t10
  generalize hh10 : upd H9 pa (.lst []) = H10 at c_q c_l c_he c_wo c_ats c_op c_d2 c_ow c_aw c_pa t10 ⊢
  refine ⟨(by show 0 ≤ sizeLine; decide), fun ou hou => ?_⟩
  have c_q := (c_q.role hou (v := some (j, (.going)))).fresh hou (o' := .lst [])
  have c_l := (c_l.role hou (v := some (j, (.going)))).fresh hou (o' := .lst [])
  have c_he := (c_he.role hou (v := some (j, (.going)))).fresh hou (o' := .lst [])
  have c_wo := (c_wo.role hou (v := some (j, (.going)))).fresh hou (o' := .lst [])
  have c_ats := (c_ats.role hou (v := some (j, (.going)))).fresh hou (o' := .lst [])
  have c_op := (c_op.role hou (v := some (j, (.going)))).fresh hou (o' := .lst [])
  have c_d2 := (c_d2.role hou (v := some (j, (.going)))).fresh hou (o' := .lst [])
  have c_ow := (c_ow.role hou (v := some (j, (.going)))).fresh hou (o' := .lst [])
  have c_aw := (c_aw.role hou (v := some (j, (.going)))).fresh hou (o' := .lst [])
  have c_pa := (c_pa.role hou (v := some (j, (.going)))).fresh hou (o' := .lst [])
  have c_ou : C (setR rl10 ou (some (j, (.going)))) (upd H10 ou (.lst [])) j (.going) ou (.lst []) := C.own
  have t11 := t10.trans (Step.own hou (o' := .lst []) (v := some (j, (.going))))
  generalize hr11 : setR rl10 ou (some (j, (.going))) = rl11 at c_q c_l c_he c_wo c_ats c_op c_d2 c_ow c_aw c_pa c_ou t11
  generalize hh11 : upd H10 ou (.lst []) = H11 at c_q c_l c_he c_wo c_ats c_op c_d2 c_ow c_aw c_pa c_ou t11 ⊢
  refine ⟨c_d2.h, [(.inr "owe", .ref ow), (.inr "away", .ref aw), (.inr "past", .ref pa), (.inr "out", .ref ou)], rfl, (by show 4 ≤ 15; decide), ?_⟩
  have c_q := c_q.upd c_d2 (by intro e; cases e) (o' := .dK (mergeK [] [(.inr "owe", .ref ow), (.inr "away", .ref aw), (.inr "past", .ref pa), (.inr "out", .ref ou)]))
  have c_l := c_l.upd c_d2 (by intro e; cases e) (o' := .dK (mergeK [] [(.inr "owe", .ref ow), (.inr "away", .ref aw), (.inr "past", .ref pa), (.inr "out", .ref ou)]))
  have c_he := c_he.upd c_d2 (by intro e; cases e) (o' := .dK (mergeK [] [(.inr "owe", .ref ow), (.inr "away", .ref aw), (.inr "past", .ref pa), (.inr "out", .ref ou)]))
  have c_wo := c_wo.upd c_d2 (by intro e; cases e) (o' := .dK (mergeK [] [(.inr "owe", .ref ow), (.inr "away", .ref aw), (.inr "past", .ref pa), (.inr "out", .ref ou)]))
  have c_ats := c_ats.upd c_d2 (by intro e; cases e) (o' := .dK (mergeK [] [(.inr "owe", .ref ow), (.inr "away", .ref aw), (.inr "past", .ref pa), (.inr "out", .ref ou)]))
  have c_op := c_op.upd c_d2 (by intro e; cases e) (o' := .dK (mergeK [] [(.inr "owe", .ref ow), (.inr "away", .ref aw), (.inr "past", .ref pa), (.inr "out", .ref ou)]))
  have c_ow := c_ow.upd c_d2 (by intro e; cases e) (o' := .dK (mergeK [] [(.inr "owe", .ref ow), (.inr "away", .ref aw), (.inr "past", .ref pa), (.inr "out", .ref ou)]))
  have c_aw := c_aw.upd c_d2 (by intro e; cases e) (o' := .dK (mergeK [] [(.inr "owe", .ref ow), (.inr "away", .ref aw), (.inr "past", .ref pa), (.inr "out", .ref ou)]))
  have c_pa := c_pa.upd c_d2 (by intro e; cases e) (o' := .dK (mergeK [] [(.inr "owe", .ref ow), (.inr "away", .ref aw), (.inr "past", .ref pa), (.inr "out", .ref ou)]))
  have c_ou := c_ou.upd c_d2 (by intro e; cases e) (o' := .dK (mergeK [] [(.inr "owe", .ref ow), (.inr "away", .ref aw), (.inr "past", .ref pa), (.inr "out", .ref ou)]))
  have tw2 := t11.trans (Step.write c_d2 (fun z => z) (o' := .dK (mergeK [] [(.inr "owe", .ref ow), (.inr "away", .ref aw), (.inr "past", .ref pa), (.inr "out", .ref ou)])))
  have c_d2 := c_d2.put (o' := .dK (mergeK [] [(.inr "owe", .ref ow), (.inr "away", .ref aw), (.inr "past", .ref pa), (.inr "out", .ref ou)]))
  generalize hw2 : upd H11 d2 (.dK (mergeK [] [(.inr "owe", .ref ow), (.inr "away", .ref aw), (.inr "past", .ref pa), (.inr "out", .ref ou)])) = Hw2 at c_q c_l c_he c_wo c_ats c_op c_d2 c_ow c_aw c_pa c_ou tw2 ⊢
  have nqd : q ≠ d2 := c_q.ne c_d2 (by intro e; cases e)
  have e2 : mergeK [] ([(.inr "owe", .ref ow), (.inr "away", .ref aw), (.inr "past", .ref pa), (.inr "out", .ref ou)] : List (Key × V)) = ([] : List (Key × V)) ++ [(.inr "owe", .ref ow), (.inr "away", .ref aw), (.inr "past", .ref pa), (.inr "out", .ref ou)] := mergeK_new _ _ (by show (([.inr "owe", .inr "away", .inr "past", .inr "out"] : List Key)).Nodup; decide +kernel)
  have hd := c_d2.h
  rw [e2, List.nil_append] at hd
  refine ⟨q, d2, _, _, rfl, rfl, nqd, c_q.h, hd, ?_, ?_⟩
  · have z := length_mergeK ([(.inr "name", .str own), (.inr "room", .int size), (.inr "line", .ref l), (.inr "heard", .ref he), (.inr "count", .int 0), (.inr "word", .ref wo), (.inr "at", .ref ats), (.inr "open", .ref op)] : List (Key × V)) []
    have z2 : ([(.inr "owe", .ref ow), (.inr "away", .ref aw), (.inr "past", .ref pa), (.inr "out", .ref ou)] : List (Key × V)).length = 4 := rfl
    rw [z2]
    have z3 : ([] : List (Key × V)).length + ([((.inr "name" : Key), V.str own), (.inr "room", .int size), (.inr "line", .ref l), (.inr "heard", .ref he), (.inr "count", .int 0), (.inr "word", .ref wo), (.inr "at", .ref ats), (.inr "open", .ref op)] : List (Key × V)).length = 8 := rfl
    rw [z3] at z
    omega
  rw [mk_new]
  have c_l := c_l.upd c_q (by intro e; cases e) (o' := .dK (mkv own size l he 0 wo ats op ow aw pa ou))
  have c_he := c_he.upd c_q (by intro e; cases e) (o' := .dK (mkv own size l he 0 wo ats op ow aw pa ou))
  have c_wo := c_wo.upd c_q (by intro e; cases e) (o' := .dK (mkv own size l he 0 wo ats op ow aw pa ou))
  have c_ats := c_ats.upd c_q (by intro e; cases e) (o' := .dK (mkv own size l he 0 wo ats op ow aw pa ou))
  have c_op := c_op.upd c_q (by intro e; cases e) (o' := .dK (mkv own size l he 0 wo ats op ow aw pa ou))
  have c_d2 := c_d2.upd c_q (by intro e; cases e) (o' := .dK (mkv own size l he 0 wo ats op ow aw pa ou))
  have c_ow := c_ow.upd c_q (by intro e; cases e) (o' := .dK (mkv own size l he 0 wo ats op ow aw pa ou))
  have c_aw := c_aw.upd c_q (by intro e; cases e) (o' := .dK (mkv own size l he 0 wo ats op ow aw pa ou))
  have c_pa := c_pa.upd c_q (by intro e; cases e) (o' := .dK (mkv own size l he 0 wo ats op ow aw pa ou))
  have c_ou := c_ou.upd c_q (by intro e; cases e) (o' := .dK (mkv own size l he 0 wo ats op ow aw pa ou))
  have tw3 := tw2.trans (Step.write c_q (fun z => z) (o' := .dK (mkv own size l he 0 wo ats op ow aw pa ou)))
  have c_q := c_q.put (o' := .dK (mkv own size l he 0 wo ats op ow aw pa ou))
  generalize hw3 : upd Hw2 q (.dK (mkv own size l he 0 wo ats op ow aw pa ou)) = Hw3 at c_q c_l c_he c_wo c_ats c_op c_d2 c_ow c_aw c_pa c_ou tw3 ⊢
  refine ⟨_, rfl, ?_⟩
  subst hrl0
  refine k rl11 Hw3 q ⟨l, he, wo, ats, op, ow, aw, pa, ou, [], [], [], [], [], [], []⟩ tw3 ?_ hqH
  exact {
    self := c_q
    line := c_l
    he := c_he
    hy := fun g hg => (by cases hg)
    wo := c_wo
    wy := fun g hg => (by cases hg)
    at_ := c_ats
    ay := fun g hg => (by cases hg)
    an := fun g => .inl rfl
    op := c_op
    oy := fun g => (if_neg fun z => by cases z.1).symm
    on := fun n => rfl
    ow := c_ow
    de := fun g => rfl
    aw := c_aw
    pa := c_pa
    pv := .nil
    ou := c_ou
    ov := .nil
    few := ⟨Nat.le_refl _, Nat.le_refl _, Nat.le_refl _, Nat.le_refl _, fun g ds e => (by cases e)⟩
    khl := Nat.le_refl _
    kwl := Nat.le_refl _
    kal := Nat.le_refl _
    kol := Nat.le_refl _
    kdl := Nat.le_refl _
  }
end
end G
set_option Elab.async false
set_option linter.all false
set_option maxRecDepth 100000
set_option maxHeartbeats 4000000
namespace G
open PySem PySem.Spec PyProof.Rows L2
/-- what may be asked of a house -/
def WhatOk (s : S) : What → Prop
  | .put g _ => isNm g = true
  | .out g => isNm g = true ∧ g ∈ s.line
  | .room _ => True
  | .hear g _ => isNm g = true
structure HDue (K : PySem.W.Frag) (i : Nat) (rl : Rl) (H : Hp) (p : Addr) (b : Nat) (r : Option (S × List Ltr)) (Q : VK) : Prop where
  no : r = none → ∀ H', Same H H' → Q .non H'
  yes : ∀ s' l, r = some (s', l) → ∀ rl' H' h' a vs', Step i rl H rl' H' → House K i rl' H' p b s' h' → rl' a = none → H' a = some (.lst vs') → Paired (LtrV K H') l vs' → Q (.ref a) H'
theorem HDue.due {K : PySem.W.Frag} {i : Nat} {rl : Rl} {H : Hp} {p : Addr} {b : Nat} {r : Option (S × List Ltr)} {Q : VK} {E : XK} (d : HDue K i rl H p b r Q) (he : ∀ cls H', Refuse K cls → Q .non H' → E cls none H') : Due K i rl H p b r Q E := by
  cases r with
  | none => exact fun cls H' s hr => he cls H' hr (d.no rfl H' s)
  | some q => exact fun rl' H' h' a vs' => d.yes q.1 q.2 rfl rl' H' h' a vs'
section
variable {P : Program} {w : World} {K : PySem.W.Frag} {mg : Str → Option Value} {base : Heap}
/-! ### _law_done -/
def spDone (K : PySem.W.Frag) : Sp := fun vs H Q _ => ∃ (i : Nat) (rl : Rl) (p : Addr) (b : Nat) (s : S) (h : HA) (wa : Addr) (wh : What), vs = [.ref p, .ref wa] ∧ House K i rl H p b s h ∧ WhatV H wa wh ∧ WhatOk s wh ∧ s.line.Nodup ∧ b + cost s ≤ Lim ∧ HDue K i rl H p (b + cost s) (deed s wh) Q
theorem sc_done : FnScope ["_law_house", "_law_what_here"] ["_law_house", "_law_what_here"] (defScope s_L_done) := ⟨rfl, rfl, rfl, by decide +kernel, rfl, by decide +kernel, by decide +kernel⟩
theorem ok_done (T : Txt K mg) : Ok P w K mg base CX0 7 (He.fAd K ("_law_done", none)) ["_law_house", "_law_what_here"] (spDone K) := by
  obtain ⟨fd1, G1, b1, k1⟩ := (ok_put (P := P) (w := w) (base := base) T).ex
  obtain ⟨fd2, G2, b2, k2⟩ := (ok_out (P := P) (w := w) (base := base) T).ex
  obtain ⟨fd3, G3, b3, k3⟩ := (ok_resize (P := P) (w := w) (base := base) T).ex
  obtain ⟨fd4, G4, b4, k4⟩ := (ok_hear (P := P) (w := w) (base := base) T).ex
  refine Ok.of T.f_L_done sc_done (fun _ _ _ _ _ _ us hl => match us, hl with | [_, _], _ => rfl) (fun vs H Q E h => by obtain ⟨_, _, _, _, _, _, _, _, rfl, _⟩ := h; rfl) (fun cdv A outer s H vs Q E hr h => ?_)
  obtain ⟨i, rl, p, b, s, h, wa, wh, rfl, x, hw, ho, nd, hb, k⟩ := h
  have hr1 : Room 5 _ := hr.mono (by decide)
  refine ⟨_, (pss_one (ps_try_only (tb := (fun W => tSeq (tIfS (tTest (tOp rEq (tOp (rIxT K) (tVar 1) (tC (V.int 0))) (tC (V.str "put")))) (tRet (tMeth (CH K) "put" (spPut K) [] (fun cls d H => ∀ σ, W cls d σ H) (tVar 0) (tCons (tOp (rIxT K) (tVar 1) (tC (V.int 1))) (tCons (tOp (rIxT K) (tVar 1) (tC (V.int 2))) tNil)))) tNext)
        (tSeq (tIfS (tTest (tOp rEq (tOp (rIxT K) (tVar 1) (tC (V.int 0))) (tC (V.str "out")))) (tRet (tMeth (CH K) "out" (spOut K) [] E0 (tVar 0) (tCons (tOp (rIxT K) (tVar 1) (tC (V.int 1))) tNil))) tNext)
          (tSeq (tIfS (tTest (tOp rEq (tOp (rIxT K) (tVar 1) (tC (V.int 0))) (tC (V.str "room")))) (tRet (tMeth (CH K) "resize" (spResize K) [] (fun cls d H => ∀ σ, W cls d σ H) (tVar 0) (tCons (tOp (rIxT K) (tVar 1) (tC (V.int 1))) tNil))) tNext)
            (tRet (tMeth (CH K) "hear" (spHear K) [] (fun cls d H => ∀ σ, W cls d σ H) (tVar 0) (tCons (tOp (rIxT K) (tVar 1) (tC (V.int 1))) (tCons (tOp (rIxT K) (tVar 1) (tC (V.int 2))) tNil)))))))) rfl rfl ⟨rfl, by decide, .inl T.g_ChairError⟩ takes0 (fun W pn xe tk _ => (pss_cons (ps_if (pt_cmpR op_eq (pe_ix ix_tup (pv 1) pe_int (fun _ _ => rfl)) pe_str (nomark _)) (pss_one (ps_ret (pe_meth (pv 0) T.cls_House T.m_put G1 hr1 b1 .nil (passes_call (E := fun cls d H => ∀ σ, W cls d σ H) tk fun cls d σ H h => h σ) (pa_cons (pe_ix ix_tup (pv 1) pe_int (fun _ _ => rfl)) (pa_cons (pe_ix ix_tup (pv 1) pe_int (fun _ _ => rfl)) pa_nil))))) pss_nil)
      (pss_cons (ps_if (pt_cmpR op_eq (pe_ix ix_tup (pv 1) pe_int (fun _ _ => rfl)) pe_str (nomark _)) (pss_one (ps_ret (pe_meth (pv 0) T.cls_House T.m_out G2 hr1 b2 .nil pass0 (pa_cons (pe_ix ix_tup (pv 1) pe_int (fun _ _ => rfl)) pa_nil)))) pss_nil)
      (pss_cons (ps_if (pt_cmpR op_eq (pe_ix ix_tup (pv 1) pe_int (fun _ _ => rfl)) pe_str (nomark _)) (pss_one (ps_ret (pe_meth (pv 0) T.cls_House T.m_resize G3 hr1 b3 .nil (passes_call (E := fun cls d H => ∀ σ, W cls d σ H) tk fun cls d σ H h => h σ) (pa_cons (pe_ix ix_tup (pv 1) pe_int (fun _ _ => rfl)) pa_nil)))) pss_nil)
      (pss_one (ps_ret (pe_meth (pv 0) T.cls_House T.m_hear G4 hr b4 .nil (passes_call (E := fun cls d H => ∀ σ, W cls d σ H) tk fun cls d σ H h => h σ) (pa_cons (pe_ix ix_tup (pv 1) pe_int (fun _ _ => rfl)) (pa_cons (pe_ix ix_tup (pv 1) pe_int (fun _ _ => rfl)) pa_nil)))))))))
      (fun a oe cls d pn _ _ => (pss_one (ps_ret pe_non))))), ?_⟩
  cases wh with
  | put g n =>
    obtain ⟨hw1, hn⟩ := hw
    refine ⟨_, rfl, wa, _, _, _, rfl, rfl, SqT.of hw1, rfl, rfl, _, rfl, iteT ?_⟩
    exact ⟨_, rfl, p, h.dx, _, rfl, x.self.h, rfl, _, rfl, wa, _, _, _, rfl, rfl, SqT.of hw1, rfl, _, rfl, wa, _, _, _, rfl, rfl, SqT.of hw1, rfl, i, rl, p, b, s, h, g, n, rfl, x, ho, hb,
      k.due fun cls H' hr hq σ => ⟨true, hr, fun _ a ha => hq, fun z => (by cases z)⟩⟩
  | out g =>
    have hw1 := hw
    refine ⟨_, rfl, wa, _, _, _, rfl, rfl, SqT.of hw1, rfl, rfl, _, rfl, iteF ?_⟩
    refine ⟨_, rfl, wa, _, _, _, rfl, rfl, SqT.of hw1, rfl, rfl, _, rfl, iteT ?_⟩
    refine ⟨_, rfl, p, h.dx, _, rfl, x.self.h, rfl, _, rfl, wa, _, _, _, rfl, rfl, SqT.of hw1, rfl, i, rl, p, b, s, h, g, rfl, x, ho.1, ho.2, nd, hb, ?_⟩
    have e : deed s (.out g) = some (gone (noMore (lookAll (without s g)) g)) := by rw [deed_out, if_pos ho.2]
    rw [e] at k ⊢
    exact fun rl' H' h' a vs' => k.yes _ _ rfl rl' H' h' a vs'
  | room n =>
    have hw1 := hw
    refine ⟨_, rfl, wa, _, _, _, rfl, rfl, SqT.of hw1, rfl, rfl, _, rfl, iteF ?_⟩
    refine ⟨_, rfl, wa, _, _, _, rfl, rfl, SqT.of hw1, rfl, rfl, _, rfl, iteF ?_⟩
    refine ⟨_, rfl, wa, _, _, _, rfl, rfl, SqT.of hw1, rfl, rfl, _, rfl, iteT ?_⟩
    exact ⟨_, rfl, p, h.dx, _, rfl, x.self.h, rfl, _, rfl, wa, _, _, _, rfl, rfl, SqT.of hw1, rfl, i, rl, p, b, s, h, n, rfl, x, hb,
      k.due fun cls H' hr hq σ => ⟨true, hr, fun _ a ha => hq, fun z => (by cases z)⟩⟩
  | hear g l =>
    obtain ⟨la, hw1, hla, hl⟩ := hw
    refine ⟨_, rfl, wa, _, _, _, rfl, rfl, SqT.of hw1, rfl, rfl, _, rfl, iteF ?_⟩
    refine ⟨_, rfl, wa, _, _, _, rfl, rfl, SqT.of hw1, rfl, rfl, _, rfl, iteF ?_⟩
    refine ⟨_, rfl, wa, _, _, _, rfl, rfl, SqT.of hw1, rfl, rfl, _, rfl, iteF ?_⟩
    exact ⟨_, rfl, p, h.dx, _, rfl, x.self.h, rfl, _, rfl, wa, _, _, _, rfl, rfl, SqT.of hw1, rfl, _, rfl, wa, _, _, _, rfl, rfl, SqT.of hw1, rfl, i, rl, p, b, s, h, g, la, l, rfl, x, ho, nd, hla, hl, hb,
      k.due fun cls H' hr hq σ => ⟨true, hr, fun _ a ha => hq, fun z => (by cases z)⟩⟩
end
end G
set_option Elab.async false
set_option linter.all false
set_option maxRecDepth 100000
set_option maxHeartbeats 4000000
namespace G
open PySem PySem.Spec PyProof.Rows L2
theorem Pot.mono {i : Nat} {rl : Rl} {H : Hp} {p : Addr} {n m : Nat} (x : Pot i rl H p n) (h : n ≤ m) : Pot i rl H p m := by
  obtain ⟨a, b, c, e, u1, u2, u3, u4⟩ := x
  exact ⟨a, b, c, e, u1, u2, u3, by omega⟩
theorem Pot.same {i : Nat} {rl : Rl} {H H' : Hp} {p : Addr} {n : Nat} (x : Pot i rl H p n) (s : Same H H') : Pot i rl H' p n := by
  obtain ⟨a, b, c, e, u⟩ := x
  exact ⟨a, b, c, e.same s, u⟩
theorem Pot.own {i : Nat} {rl : Rl} {H : Hp} {p L : Addr} {n : Nat} (x : Pot i rl H p n) (h : H L = none) {o' : HO} : Pot i (setR rl L none) (upd H L o') p n := by
  obtain ⟨a, b, c, e, u⟩ := x
  exact ⟨a, b, c, (e.role h).fresh h, u⟩
section
variable {P : Program} {w : World} {K : PySem.W.Frag} {mg : Str → Option Value} {base : Heap}
/-! ### _law_what -/
def spWhat (K : PySem.W.Frag) : Sp := fun vs H Q _ => ∃ (i j : Nat) (rl : Rl) (p0 p ga : Addr) (n b : Nat) (s : S) (h : HA) (gs : List Str), vs = [.ref p0, .ref p, .ref ga] ∧ Pot j rl H p0 n ∧ House K i rl H p b s h ∧ i ≠ j ∧ H ga = some (.lst (gs.map .str)) ∧ rl ga = none ∧ gs ≠ [] ∧ gs.length < 1000 ∧ (∀ g, g ∈ gs → isNm g = true) ∧ n + 8 < 1000000 ∧ b + 1 < 900000 ∧
  ∀ rl' H' wa wh, Step j rl H rl' H' → Pot j rl' H' p0 (n + 8) → WhatV H' wa wh → WhatOk s wh → Q (.ref wa) H'
abbrev nWhat : List Str := ["_law_pot_here", "_law_house", "_law_guests", "_law_guest", "_law_way", "_law_many", "_law_some", "_law_letters"]
theorem sc_what : FnScope nWhat ["_law_pot_here", "_law_house", "_law_guests"] (defScope s_L_what) := ⟨rfl, rfl, rfl, by decide +kernel, rfl, by decide +kernel, by decide +kernel⟩
theorem ok_what (T : Txt K mg) : Ok P w K mg base CX0 4 (He.fAd K ("_law_what", none)) ["_law_pot_here", "_law_house", "_law_guests"] (spWhat K) := by
  obtain ⟨fd1, G1, b1, k1⟩ := (ok_dip (P := P) (w := w) (base := base) T).ex
  obtain ⟨fd2, G2, b2, k2⟩ := (ok_order (P := P) (w := w) (base := base) T).ex
  obtain ⟨fd3, G3, b3, k3⟩ := (ok_isOpen (P := P) (w := w) (base := base) T).ex
  obtain ⟨fd4, G4, b4, k4⟩ := (ok_chairs (P := P) (w := w) (base := base) T).ex
  obtain ⟨fd5, G5, b5, k5⟩ := (ok_heardOf (P := P) (w := w) (base := base) T).ex
  refine Ok.of T.f_L_what sc_what (fun _ _ _ _ _ _ us hl => match us, hl with | [_, _, _], _ => rfl) (fun vs H Q E h => by obtain ⟨_, _, _, _, _, _, _, _, _, _, _, rfl, _⟩ := h; rfl) (fun cdv A outer s H vs Q E hr h => ?_)
  obtain ⟨i, j, rl, p0, p, ga, n, b, s, h, gs, rfl, pt, x, hij, hga, rga, hgs, hgl, hnm, hn, hb, k⟩ := h
  have hr1 : Room 1 _ := hr.mono (by decide)
  have nd := sc_what.nd
  refine ⟨_, (pss_cons (ps_set (i := 3) nd rfl (Or.inl rfl) (pe_ix ix_list (pv 2) (pe_call G1 hr1 (by rfl) T.g_L_dip k1 b1 .nil pass0 (pa_cons (pv 0) (pa_cons (pe_callB call_len_seq (by rfl) T.n_len PySem.boot_len (pa_cons (pv 2) pa_nil)) pa_nil))) (fun _ _ => rfl)))
      (pss_cons (ps_set (i := 4) nd rfl (Or.inl rfl) (pe_call G1 hr1 (by rfl) T.g_L_dip k1 b1 .nil pass0 (pa_cons (pv 0) (pa_cons (pe_int) pa_nil))))
      (pss_cons (ps_set (i := 5) nd rfl (Or.inl rfl) (pe_callB call_len_seq (by rfl) T.n_len PySem.boot_len (pa_cons (pe_meth0 (pv 1) T.cls_House T.m_order G2 hr1 b2 .nil pass0) pa_nil)))
      (pss_cons (ps_if (pt_cmpR op_eq (pv 4) pe_int (nomark _)) (pss_one (ps_ret (pe_tup (pa_cons (pe_str) (pa_cons (pe_call G1 hr1 (by rfl) T.g_L_dip k1 b1 .nil pass0 (pa_cons (pv 0) (pa_cons (pe_int) pa_nil))) pa_nil))))) pss_nil)
      (pss_cons (ps_if (pt_cmpR op_notInS (pv 3) (pe_meth0 (pv 1) T.cls_House T.m_order G2 hr1 b2 .nil pass0) (by rfl)) (pss_one (ps_ret (pe_tup (pa_cons (pe_str) (pa_cons (pv 3) (pa_cons (pe_ix ix_list (pe_lst (pa_cons (pe_call G1 hr1 (by rfl) T.g_L_dip k1 b1 .nil pass0 (pa_cons (pv 0) (pa_cons (pe_op op_add (pv 5) pe_int) pa_nil))) (pa_cons (pv 5) pa_nil))) (pe_call G1 hr1 (by rfl) T.g_L_dip k1 b1 .nil pass0 (pa_cons (pv 0) (pa_cons (pe_int) pa_nil))) (fun _ _ => rfl)) pa_nil)))))) pss_nil)
      (pss_cons (ps_if (pt_cmpR op_eq (pv 4) pe_int (nomark _)) (pss_cons (ps_set (i := 6) nd rfl (Or.inl rfl) (pe_lst (pa_cons (pe_tup (pa_cons (pe_str) (pa_cons (pv 3) pa_nil))) (pa_cons (pe_tup (pa_cons (pe_str) (pa_cons (pv 3) (pa_cons (pe_int) pa_nil)))) (pa_cons (pe_tup (pa_cons (pe_str) (pa_cons (pe_str) (pa_cons (pe_op op_add (pv 5) pe_int) pa_nil)))) (pa_cons (pe_tup (pa_cons (pe_str) (pa_cons (pv 5) pa_nil))) pa_nil))))))
      (pss_one (ps_ret (pe_ix ix_list (pv 6) (pe_call G1 hr1 (by rfl) T.g_L_dip k1 b1 .nil pass0 (pa_cons (pv 0) (pa_cons (pe_int) pa_nil))) (fun _ _ => rfl))))) pss_nil)
      (pss_cons (ps_if (pt_cmpR op_eq (pv 4) pe_int (nomark _)) (pss_one (ps_ret (pe_tup (pa_cons (pe_str) (pa_cons (pv 3) pa_nil))))) pss_nil)
      (pss_cons (ps_if (pt_cmpR op_lt (pv 4) pe_int (nomark _)) (pss_cons (ps_set (i := 7) nd rfl (Or.inl rfl) (pe_lst (pa_cons (pe_tup (pa_cons (pe_str) pa_nil)) (pa_cons (pe_tup (pa_cons (pe_str) pa_nil)) (pa_cons (pe_tup (pa_cons (pe_str) pa_nil)) (pa_cons (pe_tup (pa_cons (pe_str) (pa_cons (pe_str) pa_nil))) (pa_cons (pe_tup (pa_cons (pe_str) (pa_cons (pe_str) pa_nil))) (pa_cons (pe_tup (pa_cons (pe_str) pa_nil)) (pa_cons (pe_tup (pa_cons (pe_str) (pa_cons (pe_str) pa_nil))) pa_nil)))))))))
      (pss_one (ps_ret (pe_tup (pa_cons (pe_str) (pa_cons (pv 3) (pa_cons (pe_ix ix_list (pv 7) (pe_call G1 hr1 (by rfl) T.g_L_dip k1 b1 .nil pass0 (pa_cons (pv 0) (pa_cons (pe_int) pa_nil))) (fun _ _ => rfl)) pa_nil))))))) pss_nil)
      (pss_cons (ps_if (PW.pt (pw_and (pt_cmpR op_lt (pv 4) pe_int (nomark _)) (pw_and1 (pt_val (pe_meth (pv 1) T.cls_House T.m_is_open G3 hr b3 .nil pass0 (pa_cons (pv 3) pa_nil)))))) (pss_one (ps_ret (pe_tup (pa_cons (pe_str) (pa_cons (pv 3) (pa_cons (pe_tup (pa_cons (pe_str) pa_nil)) pa_nil)))))) pss_nil)
      (pss_cons (ps_if (PW.pt (pw_and (pt_cmpR op_lt (pv 4) pe_int (nomark _)) (pw_and1 (pt_cmpR op_inS (pv 3) (pe_meth0 (pv 1) T.cls_House T.m_chairs G4 hr1 b4 .nil pass0) (by rfl))))) (pss_one (ps_ret (pe_tup (pa_cons (pe_str) (pa_cons (pv 3) (pa_cons (pe_tup (pa_cons (pe_str) pa_nil)) pa_nil)))))) pss_nil)
      (pss_cons (ps_if (pt_cmpR op_notN (pe_meth (pv 1) T.cls_House T.m_heard_of G5 hr b5 .nil pass0 (pa_cons (pv 3) pa_nil)) pe_non (nomark _)) (pss_one (ps_ret (pe_tup (pa_cons (pe_str) (pa_cons (pv 3) (pa_cons (pe_tup (pa_cons (pe_str) pa_nil)) pa_nil)))))) pss_nil)
      (pss_one (ps_ret (pe_tup (pa_cons (pe_str) (pa_cons (pv 3) (pa_cons (pe_tup (pa_cons (pe_str) (pa_cons (pe_ix ix_list (pe_lst (pa_cons (pe_str) (pa_cons (pe_str) pa_nil))) (pe_call G1 hr1 (by rfl) T.g_L_dip k1 b1 .nil pass0 (pa_cons (pv 0) (pa_cons (pe_int) pa_nil))) (fun _ _ => rfl)) pa_nil))) pa_nil))))))))))))))))), ?_⟩
  have hb' : b ≤ Lim := by unfold Lim; omega
  have gpos : 0 < gs.length := List.length_pos_iff.mpr hgs
  refine ⟨_, rfl, _, rfl, _, rfl, ga, _, rfl, .inl (SqL.of hga), j, rl, p0, n, gs.length, by rw [List.length_map]; rfl, pt, by omega, gpos, by omega, fun H1 r1 hr1' t1 pt1 => ?_⟩
  have hga1 := t1.keep _ _ hga (.inl fun r e => by rw [rga] at e; cases e)
  obtain ⟨g, hg⟩ : ∃ g, gs[r1]? = some g := ⟨_, List.getElem?_eq_getElem hr1'⟩
  have hgn : isNm g = true := hnm g (List.mem_of_getElem? hg)
  refine ⟨ga, _, _, V.str g, rfl, rfl, SqL.of hga1, atI_nat (by rw [List.getElem?_map, hg]; rfl), ?_⟩
  refine ⟨_, rfl, j, rl, p0, n + 1, 24, rfl, pt1, by omega, by decide, by decide, fun H2 way hway t2 pt2 => ?_⟩
  have x2 := x.step (t1.trans t2) hij
  refine ⟨_, rfl, p, h.dx, _, rfl, x2.self.h, rfl, i, rl, p, b, s, h, rfl, x2, hb', fun H3 a3 s3 n3 e3 => ?_⟩
  refine ⟨a3, _, rfl, .inl (SqL.of e3), ?_⟩
  rw [List.length_map]
  have T3 := (t1.trans t2).thenSame s3
  have x3 := x2.same s3
  have pt3 := pt2.same s3
  have hll : s.line.length ≤ b := x.few.line
  have ew : ∀ m : Nat, decide (V.int ((way : Nat) : Int) = V.int ((m : Nat) : Int)) = decide (way = m) := fun m => decide_eq_decide.mpr ⟨fun z => by injection z with z; omega, fun z => by rw [z]⟩
  have el : ∀ m : Nat, decide (((way : Nat) : Int) < ((m : Nat) : Int)) = decide (way < m) := fun m => decide_eq_decide.mpr ⟨fun z => by omega, fun z => by omega⟩
  -- a letter told by its own text
  have hear1 : ∀ (rl' : Rl) (H' : Hp) (u t : Addr) (l : List Str), Step j rl H rl' H' → Pot j rl' H' p0 (n + 8) → H' u = none → upd H' u (.tup (l.map .str)) t = none → l ∈ ltrs → Q (.ref t) (upd (upd H' u (.tup (l.map .str))) t (.tup [.str "hear", .str g, .ref u])) := fun rl' H' u t l T' pt' hu ht hl => by
    have su := same_upd (o := HO.tup (l.map V.str)) hu
    have st := same_upd (o := HO.tup [V.str "hear", V.str g, V.ref u]) ht
    have nut : u ≠ t := ne_of_none upd_same ht
    exact k rl' _ t (.hear g l) (T'.thenSame (su.trans st)) (pt'.same (su.trans st)) ⟨u, upd_same, by rw [upd_ne nut]; exact upd_same, hl⟩ hgn
  refine ⟨_, rfl, rfl, _, rfl, ?_⟩
  rw [show decide (V.int ((way : Nat) : Int) = V.int 0) = decide (way = 0) from ew 0]
  by_cases c0 : way = 0
  · rw [decide_eq_true c0]
    refine iteT ⟨_, rfl, j, rl, p0, n + 2, 4, rfl, pt3, by omega, by decide, by decide, fun H4 r4 hr4 t4 pt4 => ⟨(by show 2 ≤ sizeLine; decide), fun t ht => ?_⟩⟩
    exact k rl _ t (.room r4) ((T3.trans t4).thenSame (same_upd ht)) ((pt4.same (same_upd ht)).mono (by omega)) upd_same trivial
  rw [decide_eq_false c0]
  refine iteF ⟨_, rfl, _, rfl, p, h.dx, _, rfl, x3.self.h, rfl, i, rl, p, b, s, h, rfl, x3, hb', fun H4 a4 s4 n4 e4 => ⟨a4, s.line, g, rfl, rfl, .inl (SqL.of e4), _, rfl, ?_⟩⟩
  rw [if_pos rfl]
  have T4 := T3.thenSame s4
  have x4 := x3.same s4
  have pt4 := pt3.same s4
  by_cases cg : g ∈ s.line
  case neg =>
    rw [decide_eq_false cg]
    refine iteT ⟨_, rfl, _, rfl, _, rfl, _, _, rfl, rfl, j, rl, p0, n + 2, s.line.length + 1, rfl, pt4, by omega, by omega, by omega, fun H5 r5 hr5 t5 pt5 => ?_⟩
    refine ⟨_, rfl, (by show 2 ≤ sizeLine; decide), fun L hL => ?_⟩
    have T6 : Step j rl H (setR rl L none) (upd H5 L (.lst [V.int r5, V.int s.line.length])) := (T4.trans t5).trans (Step.own hL)
    have pt6 : Pot j (setR rl L none) (upd H5 L (.lst [V.int r5, V.int s.line.length])) p0 (n + 3) := by
      obtain ⟨a, b, c, e, u⟩ := pt5
      exact ⟨a, b, c, (e.role hL).fresh hL, u⟩
    have rL : setR rl L none L = none := setR_same
    have eL : upd H5 L (.lst [V.int r5, V.int s.line.length]) L = some (.lst [V.int r5, V.int s.line.length]) := upd_same
    generalize setR rl L none = rl6 at T6 pt6 rL
    generalize upd H5 L (.lst [V.int r5, V.int s.line.length]) = H6 at T6 pt6 eL ⊢
    refine ⟨_, rfl, j, rl6, p0, n + 3, 2, rfl, pt6, by omega, by decide, by decide, fun H7 r7 hr7 t7 pt7 => ?_⟩
    have eL7 := t7.keep _ _ eL (.inl fun r e => by rw [rL] at e; cases e)
    obtain ⟨mm, hm1, hm2⟩ : ∃ mm : Nat, mm ≤ Lim ∧ ([V.int r5, V.int s.line.length] : List V)[r7]? = some (.int mm) := by
      match r7, hr7 with
      | 0, _ => exact ⟨r5, by unfold Lim; omega, rfl⟩
      | 1, _ => exact ⟨s.line.length, by unfold Lim; omega, rfl⟩
    refine ⟨L, _, _, V.int mm, rfl, rfl, SqL.of eL7, atI_nat hm2, (by show 3 ≤ sizeLine; decide), fun t ht => ?_⟩
    exact k rl6 _ t (.put g mm) ((T6.trans t7).thenSame (same_upd ht)) ((pt7.same (same_upd ht)).mono (by omega)) ⟨upd_same, hm1⟩ hgn
  rw [decide_eq_true cg]
  refine iteF ⟨_, rfl, rfl, _, rfl, ?_⟩
  rw [show decide (V.int ((way : Nat) : Int) = V.int 1) = decide (way = 1) from ew 1]
  by_cases c1 : way = 1
  · rw [decide_eq_true c1]
    refine iteT ⟨_, rfl, (by show 2 ≤ sizeLine; decide), fun w1 hw1 => ⟨_, rfl, (by show 3 ≤ sizeLine; decide), fun w2 hw2 => ⟨_, rfl, _, _, rfl, rfl, (by show 3 ≤ sizeLine; decide), fun w3 hw3 => ⟨_, rfl, (by show 2 ≤ sizeLine; decide), fun w4 hw4 => ⟨(by show 4 ≤ sizeLine; decide), fun L hL => ?_⟩⟩⟩⟩⟩
    have q1 := same_upd (o := HO.tup [V.str "out", V.str g]) hw1
    have q2 := same_upd (o := HO.tup [V.str "put", V.str g, V.int 0]) hw2
    have q3 := same_upd (o := HO.tup [V.str "put", V.str "zz", V.int ((s.line.length : Int) + 1)]) hw3
    have q4 := same_upd (o := HO.tup [V.str "room", V.int s.line.length]) hw4
    have q5 := same_upd (o := HO.lst [V.ref w1, V.ref w2, V.ref w3, V.ref w4]) hL
    have g1 := (((q2.trans q3).trans q4).trans q5) _ _ (upd_same (H := H4) (a := w1) (o := HO.tup [V.str "out", V.str g]))
    have g2 := ((q3.trans q4).trans q5) _ _ (upd_same (a := w2) (o := HO.tup [V.str "put", V.str g, V.int 0]))
    have g3 := (q4.trans q5) _ _ (upd_same (a := w3) (o := HO.tup [V.str "put", V.str "zz", V.int ((s.line.length : Int) + 1)]))
    have g4 := q5 _ _ (upd_same (a := w4) (o := HO.tup [V.str "room", V.int s.line.length]))
    have qq := (((q1.trans q2).trans q3).trans q4)
    have T6 := (T4.thenSame qq).trans (Step.own hL (o' := .lst [V.ref w1, V.ref w2, V.ref w3, V.ref w4]) (v := none))
    have pt6 := (pt4.same qq).own hL (o' := .lst [V.ref w1, V.ref w2, V.ref w3, V.ref w4])
    have rL : setR rl L none L = none := setR_same
    generalize setR rl L none = rl6 at T6 pt6 rL
    refine ⟨_, rfl, _, rfl, j, rl6, p0, n + 2, 4, rfl, pt6, by omega, by decide, by decide, fun H7 r7 hr7 t7 pt7 => ?_⟩
    have eL7 := t7.keep _ _ upd_same (.inl fun r e => by rw [rL] at e; cases e)
    have g1 := t7.tk _ _ g1
    have g2 := t7.tk _ _ g2
    have g3 := t7.tk _ _ g3
    have g4 := t7.tk _ _ g4
    match r7, hr7 with
    | 0, _ => exact ⟨L, _, _, V.ref w1, rfl, rfl, SqL.of eL7, atI_nat (j := 0) rfl, k rl6 _ w1 (.out g) (T6.trans t7) (pt7.mono (by omega)) g1 ⟨hgn, cg⟩⟩
    | 1, _ => exact ⟨L, _, _, V.ref w2, rfl, rfl, SqL.of eL7, atI_nat (j := 1) rfl, k rl6 _ w2 (.put g 0) (T6.trans t7) (pt7.mono (by omega)) ⟨g2, Nat.zero_le _⟩ hgn⟩
    | 2, _ => exact ⟨L, _, _, V.ref w3, rfl, rfl, SqL.of eL7, atI_nat (j := 2) rfl, k rl6 _ w3 (.put "zz" (s.line.length + 1)) (T6.trans t7) (pt7.mono (by omega)) ⟨g3, by unfold Lim; omega⟩ (show isNm "zz" = true by decide +kernel)⟩
    | 3, _ => exact ⟨L, _, _, V.ref w4, rfl, rfl, SqL.of eL7, atI_nat (j := 3) rfl, k rl6 _ w4 (.room s.line.length) (T6.trans t7) (pt7.mono (by omega)) g4 trivial⟩
  rw [decide_eq_false c1]
  refine iteF ⟨_, rfl, rfl, _, rfl, ?_⟩
  rw [show decide (V.int ((way : Nat) : Int) = V.int 2) = decide (way = 2) from ew 2]
  by_cases c2 : way = 2
  · rw [decide_eq_true c2]
    exact iteT ⟨_, rfl, (by show 2 ≤ sizeLine; decide), fun t ht => k rl _ t (.out g) (T4.thenSame (same_upd ht)) ((pt4.same (same_upd ht)).mono (by omega)) upd_same ⟨hgn, cg⟩⟩
  rw [decide_eq_false c2]
  refine iteF ⟨_, rfl, _, _, rfl, rfl, _, rfl, ?_⟩
  rw [show decide (((way : Nat) : Int) < 5) = decide (way < 5) from el 5]
  by_cases c5 : way < 5
  · rw [decide_eq_true c5]
    refine iteT ⟨(by show 1 ≤ sizeLine; decide), fun w1 hw1 => ⟨(by show 1 ≤ sizeLine; decide), fun w2 hw2 => ⟨(by show 1 ≤ sizeLine; decide), fun w3 hw3 => ⟨(by show 2 ≤ sizeLine; decide), fun w4 hw4 => ⟨(by show 2 ≤ sizeLine; decide), fun w5 hw5 => ⟨(by show 1 ≤ sizeLine; decide), fun w6 hw6 => ⟨(by show 2 ≤ sizeLine; decide), fun w7 hw7 => ⟨(by show 7 ≤ sizeLine; decide), fun L hL => ?_⟩⟩⟩⟩⟩⟩⟩⟩
    have q1 := same_upd (o := HO.tup [V.str "open"]) hw1
    have q2 := same_upd (o := HO.tup [V.str "heard"]) hw2
    have q3 := same_upd (o := HO.tup [V.str "back"]) hw3
    have q4 := same_upd (o := HO.tup [V.str "word", V.str "in"]) hw4
    have q5 := same_upd (o := HO.tup [V.str "word", V.str "out"]) hw5
    have q6 := same_upd (o := HO.tup [V.str "chair"]) hw6
    have q7 := same_upd (o := HO.tup [V.str "word", V.str "clear"]) hw7
    have q8 := same_upd (o := HO.lst [V.ref w1, V.ref w2, V.ref w3, V.ref w4, V.ref w5, V.ref w6, V.ref w7]) hL
    have g1 := ((((((q2.trans q3).trans q4).trans q5).trans q6).trans q7).trans q8) _ _ (upd_same (H := H4) (a := w1) (o := HO.tup [V.str "open"]))
    have g2 := (((((q3.trans q4).trans q5).trans q6).trans q7).trans q8) _ _ (upd_same (a := w2) (o := HO.tup [V.str "heard"]))
    have g3 := ((((q4.trans q5).trans q6).trans q7).trans q8) _ _ (upd_same (a := w3) (o := HO.tup [V.str "back"]))
    have g4 := (((q5.trans q6).trans q7).trans q8) _ _ (upd_same (a := w4) (o := HO.tup [V.str "word", V.str "in"]))
    have g5 := ((q6.trans q7).trans q8) _ _ (upd_same (a := w5) (o := HO.tup [V.str "word", V.str "out"]))
    have g6 := (q7.trans q8) _ _ (upd_same (a := w6) (o := HO.tup [V.str "chair"]))
    have g7 := q8 _ _ (upd_same (a := w7) (o := HO.tup [V.str "word", V.str "clear"]))
    have qq := ((((((q1.trans q2).trans q3).trans q4).trans q5).trans q6).trans q7)
    have T6 := (T4.thenSame qq).trans (Step.own hL (o' := .lst [V.ref w1, V.ref w2, V.ref w3, V.ref w4, V.ref w5, V.ref w6, V.ref w7]) (v := none))
    have pt6 := (pt4.same qq).own hL (o' := .lst [V.ref w1, V.ref w2, V.ref w3, V.ref w4, V.ref w5, V.ref w6, V.ref w7])
    have rL : setR rl L none L = none := setR_same
    generalize setR rl L none = rl6 at T6 pt6 rL
    refine ⟨_, rfl, _, rfl, _, rfl, j, rl6, p0, n + 2, 7, rfl, pt6, by omega, by decide, by decide, fun H7 r7 hr7 t7 pt7 => ?_⟩
    have eL7 := t7.keep _ _ upd_same (.inl fun r e => by rw [rL] at e; cases e)
    obtain ⟨u, l, hu1, hu2, hu3⟩ : ∃ (u : Addr) (l : List Str), ([V.ref w1, V.ref w2, V.ref w3, V.ref w4, V.ref w5, V.ref w6, V.ref w7] : List V)[r7]? = some (.ref u) ∧ H7 u = some (.tup (l.map .str)) ∧ l ∈ ltrs := by
      match r7, hr7 with
      | 0, _ => exact ⟨w1, lOpen, rfl, t7.tk _ _ g1, by decide⟩
      | 1, _ => exact ⟨w2, lHeard, rfl, t7.tk _ _ g2, by decide⟩
      | 2, _ => exact ⟨w3, lBack, rfl, t7.tk _ _ g3, by decide⟩
      | 3, _ => exact ⟨w4, lWord "in", rfl, t7.tk _ _ g4, by decide⟩
      | 4, _ => exact ⟨w5, lWord "out", rfl, t7.tk _ _ g5, by decide⟩
      | 5, _ => exact ⟨w6, lChair, rfl, t7.tk _ _ g6, by decide⟩
      | 6, _ => exact ⟨w7, lWord "clear", rfl, t7.tk _ _ g7, by decide⟩
    refine ⟨L, _, _, V.ref u, rfl, rfl, SqL.of eL7, atI_nat hu1, (by show 3 ≤ sizeLine; decide), fun t ht => ?_⟩
    exact k rl6 _ t (.hear g l) ((T6.trans t7).thenSame (same_upd ht)) ((pt7.same (same_upd ht)).mono (by omega)) ⟨u, upd_same, (same_upd ht) _ _ hu2, hu3⟩ hgn
  rw [decide_eq_false c5]
  refine iteF ⟨_, rfl, _, _, rfl, rfl, _, rfl, ?_⟩
  rw [show decide (((way : Nat) : Int) < 13) = decide (way < 13) from el 13]
  by_cases c13 : way < 13
  · rw [decide_eq_true c13]
    refine iteT ⟨_, rfl, p, h.dx, _, rfl, x4.self.h, rfl, _, rfl, i, rl, p, b, s, h, g, rfl, x4, hb', hgn, cg, fun H5 s5 => ⟨_, rfl, ?_⟩⟩
    have T5 := T4.thenSame s5
    have x5 := x4.same s5
    have pt5 := pt4.same s5
    cases eo : (s.pl g).opened with
    | true => exact iteT ⟨_, rfl, (by show 1 ≤ sizeLine; decide), fun u hu => ⟨(by show 3 ≤ sizeLine; decide), fun t ht => hear1 rl H5 u t lHeard T5 (pt5.mono (by omega)) hu ht (by decide)⟩⟩
    | false =>
      refine iteF ⟨_, rfl, _, _, rfl, rfl, _, rfl, ?_⟩
      rw [show decide (((way : Nat) : Int) < 16) = decide (way < 16) from el 16]
      by_cases c16 : way < 16
      · rw [decide_eq_true c16]
        refine iteT ⟨_, rfl, _, rfl, p, h.dx, _, rfl, x5.self.h, rfl, i, rl, p, b, s, h, rfl, x5, hb', fun Hb1 ab1 sb1 nb1 eb1 => ⟨ab1, chairsL s, g, rfl, rfl, .inl (SqL.of eb1), _, rfl, ?_⟩⟩
        rw [if_neg Bool.false_ne_true]
        have Tb1 := T5.thenSame sb1
        have xb1 := x5.same sb1
        have ptb1 := pt5.same sb1
        by_cases cc : g ∈ chairsL s
        · rw [decide_eq_true cc]
          exact iteT ⟨_, rfl, (by show 1 ≤ sizeLine; decide), fun u hu => ⟨(by show 3 ≤ sizeLine; decide), fun t ht => hear1 rl Hb1 u t lBack Tb1 (ptb1.mono (by omega)) hu ht (by decide)⟩⟩
        · rw [decide_eq_false cc]
          refine iteF ⟨_, rfl, p, h.dx, _, rfl, xb1.self.h, rfl, _, rfl, i, rl, p, b, s, h, g, rfl, xb1, hb', hgn, cg, fun Hc2 sc2 => ?_⟩
          have Tc2 := Tb1.thenSame sc2
          have ptc2 := ptb1.same sc2
          refine ⟨rfl, _, rfl, ?_⟩
          cases et : (s.pl g).told with
          | some tn => exact iteT ⟨_, rfl, (by show 1 ≤ sizeLine; decide), fun u hu => ⟨(by show 3 ≤ sizeLine; decide), fun t ht => hear1 rl Hc2 u t lOpen Tc2 (ptc2.mono (by omega)) hu ht (by decide)⟩⟩
          | none =>
            refine iteF ⟨_, rfl, (by show 2 ≤ sizeLine; decide), fun L hL => ?_⟩
            have T6 := Tc2.trans (Step.own hL (o' := .lst [V.str "out", V.str "in"]) (v := none))
            have pt6 := ptc2.own hL (o' := .lst [V.str "out", V.str "in"])
            have rL : setR rl L none L = none := setR_same
            generalize setR rl L none = rl6 at T6 pt6 rL
            refine ⟨_, rfl, j, rl6, p0, n + 2, 2, rfl, pt6, by omega, by decide, by decide, fun H7 r7 hr7 t7 pt7 => ?_⟩
            have eL7 := t7.keep _ _ upd_same (.inl fun r e => by rw [rL] at e; cases e)
            match r7, hr7 with
            | 0, _ => exact ⟨L, _, _, V.str "out", rfl, rfl, SqL.of eL7, atI_nat (j := 0) rfl, (by show 2 ≤ sizeLine; decide), fun u hu => ⟨(by show 3 ≤ sizeLine; decide), fun t ht => hear1 rl6 H7 u t (lWord "out") (T6.trans t7) (pt7.mono (by omega)) hu ht (by decide)⟩⟩
            | 1, _ => exact ⟨L, _, _, V.str "in", rfl, rfl, SqL.of eL7, atI_nat (j := 1) rfl, (by show 2 ≤ sizeLine; decide), fun u hu => ⟨(by show 3 ≤ sizeLine; decide), fun t ht => hear1 rl6 H7 u t (lWord "in") (T6.trans t7) (pt7.mono (by omega)) hu ht (by decide)⟩⟩
      · rw [decide_eq_false c16]
        refine iteF ?_
        refine iteF ⟨_, rfl, p, h.dx, _, rfl, x5.self.h, rfl, _, rfl, i, rl, p, b, s, h, g, rfl, x5, hb', hgn, cg, fun Hc3 sc3 => ?_⟩
        have Tc3 := T5.thenSame sc3
        have ptc3 := pt5.same sc3
        refine ⟨rfl, _, rfl, ?_⟩
        cases et : (s.pl g).told with
        | some tn => exact iteT ⟨_, rfl, (by show 1 ≤ sizeLine; decide), fun u hu => ⟨(by show 3 ≤ sizeLine; decide), fun t ht => hear1 rl Hc3 u t lOpen Tc3 (ptc3.mono (by omega)) hu ht (by decide)⟩⟩
        | none =>
          refine iteF ⟨_, rfl, (by show 2 ≤ sizeLine; decide), fun L hL => ?_⟩
          have T6 := Tc3.trans (Step.own hL (o' := .lst [V.str "out", V.str "in"]) (v := none))
          have pt6 := ptc3.own hL (o' := .lst [V.str "out", V.str "in"])
          have rL : setR rl L none L = none := setR_same
          generalize setR rl L none = rl6 at T6 pt6 rL
          refine ⟨_, rfl, j, rl6, p0, n + 2, 2, rfl, pt6, by omega, by decide, by decide, fun H7 r7 hr7 t7 pt7 => ?_⟩
          have eL7 := t7.keep _ _ upd_same (.inl fun r e => by rw [rL] at e; cases e)
          match r7, hr7 with
          | 0, _ => exact ⟨L, _, _, V.str "out", rfl, rfl, SqL.of eL7, atI_nat (j := 0) rfl, (by show 2 ≤ sizeLine; decide), fun u hu => ⟨(by show 3 ≤ sizeLine; decide), fun t ht => hear1 rl6 H7 u t (lWord "out") (T6.trans t7) (pt7.mono (by omega)) hu ht (by decide)⟩⟩
          | 1, _ => exact ⟨L, _, _, V.str "in", rfl, rfl, SqL.of eL7, atI_nat (j := 1) rfl, (by show 2 ≤ sizeLine; decide), fun u hu => ⟨(by show 3 ≤ sizeLine; decide), fun t ht => hear1 rl6 H7 u t (lWord "in") (T6.trans t7) (pt7.mono (by omega)) hu ht (by decide)⟩⟩
  · rw [decide_eq_false c13]
    refine iteF ?_
    refine iteF ⟨_, rfl, _, _, rfl, rfl, _, rfl, ?_⟩
    rw [show decide (((way : Nat) : Int) < 16) = decide (way < 16) from el 16]
    by_cases c16 : way < 16
    · rw [decide_eq_true c16]
      refine iteT ⟨_, rfl, _, rfl, p, h.dx, _, rfl, x4.self.h, rfl, i, rl, p, b, s, h, rfl, x4, hb', fun Hb4 ab4 sb4 nb4 eb4 => ⟨ab4, chairsL s, g, rfl, rfl, .inl (SqL.of eb4), _, rfl, ?_⟩⟩
      rw [if_neg Bool.false_ne_true]
      have Tb4 := T4.thenSame sb4
      have xb4 := x4.same sb4
      have ptb4 := pt4.same sb4
      by_cases cc : g ∈ chairsL s
      · rw [decide_eq_true cc]
        exact iteT ⟨_, rfl, (by show 1 ≤ sizeLine; decide), fun u hu => ⟨(by show 3 ≤ sizeLine; decide), fun t ht => hear1 rl Hb4 u t lBack Tb4 (ptb4.mono (by omega)) hu ht (by decide)⟩⟩
      · rw [decide_eq_false cc]
        refine iteF ⟨_, rfl, p, h.dx, _, rfl, xb4.self.h, rfl, _, rfl, i, rl, p, b, s, h, g, rfl, xb4, hb', hgn, cg, fun Hc5 sc5 => ?_⟩
        have Tc5 := Tb4.thenSame sc5
        have ptc5 := ptb4.same sc5
        refine ⟨rfl, _, rfl, ?_⟩
        cases et : (s.pl g).told with
        | some tn => exact iteT ⟨_, rfl, (by show 1 ≤ sizeLine; decide), fun u hu => ⟨(by show 3 ≤ sizeLine; decide), fun t ht => hear1 rl Hc5 u t lOpen Tc5 (ptc5.mono (by omega)) hu ht (by decide)⟩⟩
        | none =>
          refine iteF ⟨_, rfl, (by show 2 ≤ sizeLine; decide), fun L hL => ?_⟩
          have T6 := Tc5.trans (Step.own hL (o' := .lst [V.str "out", V.str "in"]) (v := none))
          have pt6 := ptc5.own hL (o' := .lst [V.str "out", V.str "in"])
          have rL : setR rl L none L = none := setR_same
          generalize setR rl L none = rl6 at T6 pt6 rL
          refine ⟨_, rfl, j, rl6, p0, n + 2, 2, rfl, pt6, by omega, by decide, by decide, fun H7 r7 hr7 t7 pt7 => ?_⟩
          have eL7 := t7.keep _ _ upd_same (.inl fun r e => by rw [rL] at e; cases e)
          match r7, hr7 with
          | 0, _ => exact ⟨L, _, _, V.str "out", rfl, rfl, SqL.of eL7, atI_nat (j := 0) rfl, (by show 2 ≤ sizeLine; decide), fun u hu => ⟨(by show 3 ≤ sizeLine; decide), fun t ht => hear1 rl6 H7 u t (lWord "out") (T6.trans t7) (pt7.mono (by omega)) hu ht (by decide)⟩⟩
          | 1, _ => exact ⟨L, _, _, V.str "in", rfl, rfl, SqL.of eL7, atI_nat (j := 1) rfl, (by show 2 ≤ sizeLine; decide), fun u hu => ⟨(by show 3 ≤ sizeLine; decide), fun t ht => hear1 rl6 H7 u t (lWord "in") (T6.trans t7) (pt7.mono (by omega)) hu ht (by decide)⟩⟩
    · rw [decide_eq_false c16]
      refine iteF ?_
      refine iteF ⟨_, rfl, p, h.dx, _, rfl, x4.self.h, rfl, _, rfl, i, rl, p, b, s, h, g, rfl, x4, hb', hgn, cg, fun Hc6 sc6 => ?_⟩
      have Tc6 := T4.thenSame sc6
      have ptc6 := pt4.same sc6
      refine ⟨rfl, _, rfl, ?_⟩
      cases et : (s.pl g).told with
      | some tn => exact iteT ⟨_, rfl, (by show 1 ≤ sizeLine; decide), fun u hu => ⟨(by show 3 ≤ sizeLine; decide), fun t ht => hear1 rl Hc6 u t lOpen Tc6 (ptc6.mono (by omega)) hu ht (by decide)⟩⟩
      | none =>
        refine iteF ⟨_, rfl, (by show 2 ≤ sizeLine; decide), fun L hL => ?_⟩
        have T6 := Tc6.trans (Step.own hL (o' := .lst [V.str "out", V.str "in"]) (v := none))
        have pt6 := ptc6.own hL (o' := .lst [V.str "out", V.str "in"])
        have rL : setR rl L none L = none := setR_same
        generalize setR rl L none = rl6 at T6 pt6 rL
        refine ⟨_, rfl, j, rl6, p0, n + 2, 2, rfl, pt6, by omega, by decide, by decide, fun H7 r7 hr7 t7 pt7 => ?_⟩
        have eL7 := t7.keep _ _ upd_same (.inl fun r e => by rw [rL] at e; cases e)
        match r7, hr7 with
        | 0, _ => exact ⟨L, _, _, V.str "out", rfl, rfl, SqL.of eL7, atI_nat (j := 0) rfl, (by show 2 ≤ sizeLine; decide), fun u hu => ⟨(by show 3 ≤ sizeLine; decide), fun t ht => hear1 rl6 H7 u t (lWord "out") (T6.trans t7) (pt7.mono (by omega)) hu ht (by decide)⟩⟩
        | 1, _ => exact ⟨L, _, _, V.str "in", rfl, rfl, SqL.of eL7, atI_nat (j := 1) rfl, (by show 2 ≤ sizeLine; decide), fun u hu => ⟨(by show 3 ≤ sizeLine; decide), fun t ht => hear1 rl6 H7 u t (lWord "in") (T6.trans t7) (pt7.mono (by omega)) hu ht (by decide)⟩⟩
end
end G
set_option Elab.async false
set_option linter.all false
set_option maxRecDepth 100000
set_option maxHeartbeats 4000000
namespace G
open PySem PySem.Spec PyProof.Rows L2
section
variable {P : Program} {w : World} {K : PySem.W.Frag} {mg : Str → Option Value} {base : Heap}
/-! ### _law_next -/
def spNext (K : PySem.W.Frag) : Sp := fun vs H Q _ => ∃ (i j : Nat) (rl : Rl) (p0 p na : Addr) (n b : Nat) (s : S) (h : HA) (own : Str) (gs : List Str), vs = [.ref p0, .ref p, .ref na] ∧ Pot j rl H p0 n ∧ House K i rl H p b s h ∧ i ≠ j ∧ H na = some (.lst ((own :: gs).map .str)) ∧ rl na = none ∧ gs ≠ [] ∧ gs.length < 900 ∧ (∀ g, g ∈ gs → isNm g = true) ∧ n + 12 < 1000000 ∧ b + 1 < 900000 ∧
  ∀ rl' H' wa wh, Step j rl H rl' H' → Pot j rl' H' p0 (n + 12) → WhatV H' wa wh → (WhatOk s wh) → Q (.ref wa) H'
abbrev nNext : List Str := ["_law_pot_here", "_law_house", "_law_names_here", "_law_guest", "_law_some"]
theorem sc_next : FnScope nNext ["_law_pot_here", "_law_house", "_law_names_here"] (defScope s_L_next) := ⟨rfl, rfl, rfl, by decide +kernel, rfl, by decide +kernel, by decide +kernel⟩
theorem ok_next (T : Txt K mg) : Ok P w K mg base CX0 5 (He.fAd K ("_law_next", none)) ["_law_pot_here", "_law_house", "_law_names_here"] (spNext K) := by
  obtain ⟨fd1, G1, b1, k1⟩ := (ok_dip (P := P) (w := w) (base := base) T).ex
  obtain ⟨fd2, G2, b2, k2⟩ := (ok_what (P := P) (w := w) (base := base) T).ex
  refine Ok.of T.f_L_next sc_next (fun _ _ _ _ _ _ us hl => match us, hl with | [_, _, _], _ => rfl) (fun vs H Q E h => by obtain ⟨_, _, _, _, _, _, _, _, _, _, _, _, rfl, _⟩ := h; rfl) (fun cdv A outer s H vs Q E hr h => ?_)
  obtain ⟨i, j, rl, p0, p, na, n, b, s, h, own, gs, rfl, pt, x, hij, hna, rna, hgs, hgl, hnm, hn, hb, k⟩ := h
  have hr1 : Room 1 _ := hr.mono (by decide)
  have nd := sc_next.nd
  refine ⟨_, (pss_cons (ps_if (PW.pt (pw_and (pt_cmpR op_gt (pe_callB call_len_seq (by rfl) T.n_len PySem.boot_len (pa_cons (pv 2) pa_nil)) pe_int (nomark _)) (pw_and1 (pt_cmpR op_eq (pe_call G1 hr1 (by rfl) T.g_L_dip k1 b1 .nil pass0 (pa_cons (pv 0) (pa_cons (pe_int) pa_nil))) pe_int (nomark _))))) (pss_cons (ps_set (i := 3) nd rfl (Or.inl rfl) (pe_ix ix_list (pv 2) (pe_op op_add pe_int (pe_call G1 hr1 (by rfl) T.g_L_dip k1 b1 .nil pass0 (pa_cons (pv 0) (pa_cons (pe_op op_sub (pe_callB call_len_seq (by rfl) T.n_len PySem.boot_len (pa_cons (pv 2) pa_nil)) pe_int) pa_nil)))) (fun _ _ => rfl)))
      (pss_cons (ps_set (i := 4) nd rfl (Or.inl rfl) (pe_lst (pa_cons (pe_tup (pa_cons (pe_str) (pa_cons (pe_call G1 hr1 (by rfl) T.g_L_dip k1 b1 .nil pass0 (pa_cons (pv 0) (pa_cons (pe_int) pa_nil))) pa_nil))) (pa_cons (pe_tup (pa_cons (pe_str) (pa_cons (pv 3) (pa_cons (pe_tup (pa_cons (pe_str) (pa_cons (pe_str) pa_nil))) pa_nil)))) pa_nil))))
      (pss_one (ps_ret (pe_ix ix_list (pe_op op_cat (pv 4) (pe_lst (pa_cons (pe_tup (pa_cons (pe_str) (pa_cons (pv 3) (pa_cons (pe_tup (pa_cons (pe_str) (pa_cons (pe_str) pa_nil))) pa_nil)))) pa_nil))) (pe_call G1 hr1 (by rfl) T.g_L_dip k1 b1 .nil pass0 (pa_cons (pv 0) (pa_cons (pe_int) pa_nil))) (fun _ _ => rfl)))))) pss_nil)
      (pss_one (ps_ret (pe_call G2 hr (by rfl) T.g_L_what k2 b2 .nil pass0 (pa_cons (pv 0) (pa_cons (pv 1) (pa_cons (pe_slice sl_list (pv 2) (po_some pe_int) po_none) pa_nil))))))), ?_⟩
  have cutE : cutV ((own :: gs).map V.str) (some 1) none = gs.map V.str := by
    have := cut_from ((own :: gs).map V.str) 1
    rw [show ((1 : Nat) : Int) = 1 from rfl] at this
    rw [this]; rfl
  -- the way of what
  have wt : ∀ (H' : Hp) (n' : Nat), n' ≤ n + 4 → Step j rl H rl H' → Pot j rl H' p0 n' → ∀ S, H' S = none → ∀ (R : VK), (∀ rl2 H2 wa wh, Step j rl H rl2 H2 → Pot j rl2 H2 p0 (n + 12) → WhatV H2 wa wh → WhatOk s wh → R (.ref wa) H2) →
      spWhat K [.ref p0, .ref p, .ref S] (upd H' S (.lst (gs.map .str))) R E0 := fun H' n' hn' t' pt' S hS R hR => by
    have x' := x.step t' hij
    have sS := same_upd (o := HO.lst (gs.map V.str)) hS
    have xx : House K i (setR rl S none) (upd H' S (.lst (gs.map V.str))) p b s h := x'.tr (fun _ _ _ z => (z.role hS).same sS) (sameTk sS)
    exact ⟨i, j, setR rl S none, p0, p, S, n', b, s, h, gs, rfl, pt'.own hS, xx, hij, upd_same, setR_same, hgs, by omega, hnm, by omega, hb, fun rl2 H2 wa wh t2 pt2 hw ho => hR rl2 H2 wa wh ((t'.trans (Step.own hS)).trans t2) (pt2.mono (by omega)) hw ho⟩
  refine ⟨_, rfl, na, _, rfl, .inl (SqL.of hna), _, _, rfl, rfl, _, rfl, ?_⟩
  rw [List.length_map]
  by_cases c : (own :: gs).length > 20
  · rw [decide_eq_true (show (((own :: gs).length : Nat) : Int) > 20 by omega)]
    refine iteT ⟨_, rfl, j, rl, p0, n, 3, rfl, pt, by omega, by decide, by decide, fun H1 r1 hr1' t1 pt1 => ?_⟩
    refine ⟨rfl, _, rfl, ?_⟩
    have hna1 := t1.keep _ _ hna (.inl fun r e => by rw [rna] at e; cases e)
    by_cases c0 : r1 = 0
    · rw [decide_eq_true (by rw [c0]; rfl)]
      refine iteT ⟨_, rfl, _, rfl, _, rfl, na, _, rfl, .inl (SqL.of hna1), _, _, rfl, rfl, j, rl, p0, n + 1, gs.length, ?_, pt1, by omega, List.length_pos_iff.mpr hgs, by omega, fun H2 r2 hr2 t2 pt2 => ?_⟩
      · rw [List.length_map, List.length_cons]
        show [V.ref p0, V.int (((gs.length + 1 : Nat) : Int) - 1)] = _
        rw [show (((gs.length + 1 : Nat) : Int) - 1) = ((gs.length : Nat) : Int) from by omega]
      have hna2 := t2.keep _ _ hna1 (.inl fun r e => by rw [rna] at e; cases e)
      obtain ⟨g, hg⟩ : ∃ g, gs[r2]? = some g := ⟨_, List.getElem?_eq_getElem hr2⟩
      have hgn : isNm g = true := hnm g (List.mem_of_getElem? hg)
      have e2 : (1 : Int) + ((r2 : Nat) : Int) = ((r2 + 1 : Nat) : Int) := by omega
      refine ⟨_, _, rfl, rfl, na, _, _, V.str g, rfl, rfl, SqL.of hna2, ?_, ?_⟩
      · rw [e2]
        exact atI_nat (by rw [List.getElem?_map, List.getElem?_cons_succ, hg]; rfl)
      refine ⟨_, rfl, j, rl, p0, n + 2, 60, rfl, pt2, by omega, by decide, by decide, fun H3 r3 hr3 t3 pt3 => ⟨(by show 2 ≤ sizeLine; decide), fun w1 hw1 => ⟨_, rfl, (by show 2 ≤ sizeLine; decide), fun u2 hu2 => ⟨(by show 3 ≤ sizeLine; decide), fun w2 hw2 => ⟨(by show 2 ≤ sizeLine; decide), fun L hL => ?_⟩⟩⟩⟩⟩
      refine ⟨_, rfl, _, rfl, (by show 2 ≤ sizeLine; decide), fun u3 hu3 => ⟨(by show 3 ≤ sizeLine; decide), fun w3 hw3 => ⟨(by show 1 ≤ sizeLine; decide), fun L2 hL2 => ?_⟩⟩⟩
      have q1 := same_upd (o := HO.tup [V.str "room", V.int r3]) hw1
      have q2 := same_upd (o := HO.tup [V.str "word", V.str "in"]) hu2
      have q3 := same_upd (o := HO.tup [V.str "hear", V.str g, V.ref u2]) hw2
      have q4 := same_upd (o := HO.lst [V.ref w1, V.ref w2]) hL
      have q5 := same_upd (o := HO.tup [V.str "word", V.str "out"]) hu3
      have q6 := same_upd (o := HO.tup [V.str "hear", V.str g, V.ref u3]) hw3
      have q7 := same_upd (o := HO.lst [V.ref w3]) hL2
      have z1 := (((((q2.trans q3).trans q4).trans q5).trans q6).trans q7) _ _ (upd_same (H := H3) (a := w1) (o := HO.tup [V.str "room", V.int r3]))
      have z2 := ((((q3.trans q4).trans q5).trans q6).trans q7) _ _ (upd_same (a := u2) (o := HO.tup [V.str "word", V.str "in"]))
      have z3 := (((q4.trans q5).trans q6).trans q7) _ _ (upd_same (a := w2) (o := HO.tup [V.str "hear", V.str g, V.ref u2]))
      have z4 := ((q5.trans q6).trans q7) _ _ (upd_same (a := L) (o := HO.lst [V.ref w1, V.ref w2]))
      have z5 := (q6.trans q7) _ _ (upd_same (a := u3) (o := HO.tup [V.str "word", V.str "out"]))
      have z6 := q7 _ _ (upd_same (a := w3) (o := HO.tup [V.str "hear", V.str g, V.ref u3]))
      have qq := (((((q1.trans q2).trans q3).trans q4).trans q5).trans q6).trans q7
      refine ⟨L, L2, _, _, rfl, rfl, z4, upd_same, (by show 3 ≤ sizeLine; decide), fun L3 hL3 => ?_⟩
      have q8 := same_upd (o := HO.lst ([V.ref w1, V.ref w2] ++ [V.ref w3])) hL3
      have z1 := q8 _ _ z1
      have z2 := q8 _ _ z2
      have z3 := q8 _ _ z3
      have z5 := q8 _ _ z5
      have z6 := q8 _ _ z6
      have T6 := ((((t1.trans t2).trans t3).thenSame qq).trans (Step.own hL3 (o' := .lst ([V.ref w1, V.ref w2] ++ [V.ref w3])) (v := none)))
      have pt6 := (pt3.same qq).own hL3 (o' := .lst ([V.ref w1, V.ref w2] ++ [V.ref w3]))
      have rL : setR rl L3 none L3 = none := setR_same
      generalize setR rl L3 none = rl6 at T6 pt6 rL
      refine ⟨_, rfl, j, rl6, p0, n + 3, 3, rfl, pt6, by omega, by decide, by decide, fun H7 r7 hr7 t7 pt7 => ?_⟩
      have eL7 := t7.keep _ _ upd_same (.inl fun r e => by rw [rL] at e; cases e)
      have z1 := t7.tk _ _ z1
      have z2 := t7.tk _ _ z2
      have z3 := t7.tk _ _ z3
      have z5 := t7.tk _ _ z5
      have z6 := t7.tk _ _ z6
      match r7, hr7 with
      | 0, _ => exact ⟨L3, _, _, V.ref w1, rfl, rfl, SqL.of eL7, atI_nat (j := 0) rfl, k rl6 _ w1 (.room r3) (T6.trans t7) (pt7.mono (by omega)) z1 trivial⟩
      | 1, _ => exact ⟨L3, _, _, V.ref w2, rfl, rfl, SqL.of eL7, atI_nat (j := 1) rfl, k rl6 _ w2 (.hear g (lWord "in")) (T6.trans t7) (pt7.mono (by omega)) ⟨u2, z3, z2, by decide⟩ hgn⟩
      | 2, _ => exact ⟨L3, _, _, V.ref w3, rfl, rfl, SqL.of eL7, atI_nat (j := 2) rfl, k rl6 _ w3 (.hear g (lWord "out")) (T6.trans t7) (pt7.mono (by omega)) ⟨u3, z6, z5, by decide⟩ hgn⟩
    · rw [decide_eq_false (fun z => c0 (by injection z with z; omega))]
      refine iteF ⟨_, rfl, _, rfl, _, rfl, _, rfl, na, _, rfl, SqL.of hna1, fun S hS => ?_⟩
      rw [cutE]
      exact wt H1 (n + 1) (by omega) t1 pt1 S hS _ fun rl2 H2 wa wh t2 pt2 hw ho => k rl2 H2 wa wh t2 pt2 hw ho
  · rw [decide_eq_false (show ¬ (((own :: gs).length : Nat) : Int) > 20 by omega)]
    refine iteF (iteF ⟨_, rfl, _, rfl, _, rfl, _, rfl, na, _, rfl, SqL.of hna, fun S hS => ?_⟩)
    rw [cutE]
    exact wt H n (by omega) Step.refl pt S hS _ fun rl2 H2 wa wh t2 pt2 hw ho => k rl2 H2 wa wh t2 pt2 hw ho
end
end G
set_option Elab.async false
set_option linter.all false
set_option maxRecDepth 100000
set_option maxHeartbeats 4000000
/-! What always holds of a house between deeds; no program in sight. -/
namespace G
open PySem PySem.Spec PyProof.Rows L2
/-- what looks keep -/
structure Wk (s : S) : Prop where
  nd : s.line.Nodup
  old : Old s
  aw : s.away.Nodup
  nm : ∀ g, g ∈ s.line → isNm g = true
  op : ∀ g, g ∈ s.line → (s.pl g).mark ≠ none → (s.pl g).opened = false
  src : ∀ g, g ∈ s.line → (s.pl g).source ≠ none → (s.pl g).opened = true
  sn : ∀ g, g ∈ s.line → (s.pl g).since ≤ s.ears
/-- the place's word is given -/
def Con (s : S) (g : Str) : Prop := ∀ m, (s.pl g).mark = some m → given s g true = some m
structure Good (s : S) : Prop extends Wk s where
  con : ∀ g, g ∈ s.line → Con s g
  go : s.going = []
theorem heardAs_congr {s s' : S} (hl : s'.line = s.line) (ht : ∀ x, x ∈ s.line → (s'.pl x).told = (s.pl x).told) (g w : Str) (u : Option Nat) : heardAs s' g w u = heardAs s g w u := by
  unfold heardAs front
  rw [hl]
  refine List.filter_congr fun o ho => ?_
  rw [ht o (List.mem_of_mem_take ho)]
theorem givenBy_congr {s s' : S} (hl : s'.line = s.line) (hs : s'.size = s.size) (ht : ∀ x, x ∈ s.line → (s'.pl x).told = (s.pl x).told) (g : Str) (u : Option Nat) : givenBy s' g u = givenBy s g u := by
  unfold givenBy
  rw [heardAs_congr hl ht, heardAs_congr hl ht, hs, hl]
theorem given_congr {s s' : S} (hl : s'.line = s.line) (hs : s'.size = s.size) (ht : ∀ x, x ∈ s.line → (s'.pl x).told = (s.pl x).told) {g : Str} (hn : (s'.pl g).since = (s.pl g).since) : given s' g true = given s g true := by
  show givenBy s' g (some (s'.pl g).since) = givenBy s g (some (s.pl g).since)
  rw [hn]
  exact givenBy_congr hl hs ht g _
/-- a place is changed, not what was heard of it -/
theorem con_other {s s' : S} {g o : Str} (hl : s'.line = s.line) (hs : s'.size = s.size) (ht : ∀ x, x ∈ s.line → (s'.pl x).told = (s.pl x).told) (ho : s'.pl o = s.pl o) (c : Con s o) : Con s' o := fun m hm => by
  rw [ho] at hm
  rw [given_congr hl hs ht (by rw [ho])]
  exact c m hm
theorem setPl_pl (s : S) (g o : Str) (p : Pl) : (s.setPl g p).pl o = if o = g then p else s.pl o := rfl
theorem giveUp_pl (s : S) (g o : Str) (c : Option Str) : (giveUp s g c).pl o = if o = g then { (s.pl g) with mark := none, opened := true, source := c } else s.pl o := rfl
theorem settle_pl (s : S) (g o m : Str) : (settle s g m).pl o = if o = g then { (s.pl g) with mark := some m, since := s.ears } else s.pl o := rfl
theorem look_told (s : S) (g : Str) (c : Option Str) (x : Str) : ((look s g c).1.pl x).told = (s.pl x).told := by
  rcases look_cases s g c with e | e | ⟨m, e⟩ <;> rw [e]
  · show ((giveUp s g c).pl x).told = _
    rw [giveUp_pl]
    by_cases h : x = g
    · rw [if_pos h, h]
    · rw [if_neg h]
  · show ((settle s g m).pl x).told = _
    rw [settle_pl]
    by_cases h : x = g
    · rw [if_pos h, h]
    · rw [if_neg h]
theorem look_size (s : S) (g : Str) (c : Option Str) : (look s g c).1.size = s.size := by
  rcases look_cases s g c with e | e | ⟨m, e⟩ <;> rw [e] <;> rfl
theorem look_ears (s : S) (g : Str) (c : Option Str) : (look s g c).1.ears = s.ears := by
  rcases look_cases s g c with e | e | ⟨m, e⟩ <;> rw [e] <;> rfl
theorem look_away (s : S) (g : Str) (c : Option Str) : (look s g c).1.away = s.away := by
  rcases look_cases s g c with e | e | ⟨m, e⟩ <;> rw [e] <;> rfl
theorem look_pl (s : S) (g o : Str) (c : Option Str) (h : o ≠ g) : (look s g c).1.pl o = s.pl o := by
  rcases look_cases s g c with e | e | ⟨m, e⟩ <;> rw [e]
  · show (giveUp s g c).pl o = _
    rw [giveUp_pl, if_neg h]
  · show (settle s g m).pl o = _
    rw [settle_pl, if_neg h]
theorem look_con_other {s : S} {g o : Str} {c : Option Str} (h : o ≠ g) (k : Con s o) : Con (look s g c).1 o :=
  con_other (g := g) (look_line s g c) (look_size s g c) (fun x _ => look_told s g c x) (look_pl s g o c h) k
theorem look_con_self {s : S} {g : Str} {c : Option Str} (w : Wk s) (hg : g ∈ s.line) : Con (look s g c).1 g := by
  unfold look
  by_cases ho : (s.pl g).opened = true
  · rw [if_pos ho]
    intro m hm
    have := w.op g hg (by rw [hm]; simp)
    rw [ho] at this; cases this
  · rw [if_neg ho]
    cases em : (s.pl g).mark with
    | some m =>
      dsimp only
      by_cases cg : given s g true = some m
      · rw [if_pos cg]
        intro m' hm'
        rw [em] at hm'
        rw [cg, hm']
      · rw [if_neg cg]
        intro m' hm'
        have : ((giveUp s g c).pl g).mark = none := by rw [giveUp_pl, if_pos rfl]
        rw [this] at hm'; cases hm'
    | none =>
      dsimp only
      cases eg : given s g false with
      | none =>
        intro m' hm'
        rw [em] at hm'; cases hm'
      | some m =>
        intro m' hm'
        have e1 : ((settle s g m).pl g).mark = some m := by rw [settle_pl, if_pos rfl]
        rw [e1] at hm'
        have e2 : ((settle s g m).pl g).since = s.ears := by rw [settle_pl, if_pos rfl]
        show givenBy (settle s g m) g (some ((settle s g m).pl g).since) = _
        rw [e2, givenBy_congr (s := s) (s' := settle s g m) rfl rfl (fun x _ => by
          rw [settle_pl]
          by_cases h : x = g
          · rw [if_pos h, h]
          · rw [if_neg h]), w.old.given, eg, hm']
theorem look_wk {s : S} (w : Wk s) (g : Str) (c : Option Str) : Wk (look s g c).1 := by
  have hl := look_line s g c
  refine ⟨by rw [hl]; exact w.nd, look_old w.old g c, by rw [look_away]; exact w.aw, by rw [hl]; exact w.nm, ?_, ?_, ?_⟩
  · intro o ho
    rw [hl] at ho
    by_cases h : o = g
    · subst h
      unfold look
      by_cases hop : (s.pl o).opened = true
      · rw [if_pos hop]; exact w.op o ho
      · rw [if_neg hop]
        cases em : (s.pl o).mark with
        | some m =>
          dsimp only
          by_cases cg : given s o true = some m
          · rw [if_pos cg]; exact w.op o ho
          · rw [if_neg cg]
            intro z
            exact absurd (show ((giveUp s o c).pl o).mark = none by rw [giveUp_pl, if_pos rfl]) z
        | none =>
          dsimp only
          cases eg : given s o false with
          | none => exact w.op o ho
          | some m =>
            intro _
            show ((settle s o m).pl o).opened = false
            rw [settle_pl, if_pos rfl]
            exact Bool.eq_false_iff.mpr hop
    · rw [look_pl s g o c h]; exact w.op o ho
  · intro o ho
    rw [hl] at ho
    by_cases h : o = g
    · subst h
      rcases look_cases s o c with e | e | ⟨m, e⟩ <;> rw [e]
      · exact w.src o ho
      · intro _
        show ((giveUp s o c).pl o).opened = true
        rw [giveUp_pl, if_pos rfl]
      · show ((settle s o m).pl o).source ≠ none → ((settle s o m).pl o).opened = true
        rw [settle_pl, if_pos rfl]; exact w.src o ho
    · rw [look_pl s g o c h]; exact w.src o ho
  · intro o ho
    rw [hl] at ho
    rw [look_ears]
    by_cases h : o = g
    · subst h
      rcases look_cases s o c with e | e | ⟨m, e⟩ <;> rw [e]
      · exact w.sn o ho
      · show ((giveUp s o c).pl o).since ≤ _
        rw [giveUp_pl, if_pos rfl]; exact w.sn o ho
      · show ((settle s o m).pl o).since ≤ _
        rw [settle_pl, if_pos rfl]; exact Nat.le_refl _
    · rw [look_pl s g o c h]; exact w.sn o ho
theorem lookF_wk (c : Option Str) (l : List Str) : ∀ a : S × List Str, Wk a.1 → Wk (l.foldl (lookStep c) a).1 := by
  induction l with
  | nil => intro a h; exact h
  | cons g l ih => intro a h; rw [List.foldl_cons]; exact ih _ (look_wk h g c)
theorem lookF_con_keep (c : Option Str) (l : List Str) (o : Str) : ∀ a : S × List Str, Wk a.1 → o ∈ a.1.line → Con a.1 o → Con (l.foldl (lookStep c) a).1 o := by
  induction l with
  | nil => intro a _ _ h; exact h
  | cons g l ih =>
    intro a h ho k
    rw [List.foldl_cons]
    refine ih _ (look_wk h g c) (by show o ∈ (look a.1 g c).1.line; rw [look_line]; exact ho) ?_
    show Con (look a.1 g c).1 o
    by_cases e : o = g
    · subst e; exact look_con_self h ho
    · exact look_con_other e k
theorem lookF_con_all (c : Option Str) (l : List Str) (o : Str) : ∀ a : S × List Str, Wk a.1 → o ∈ l → o ∈ a.1.line → Con (l.foldl (lookStep c) a).1 o := by
  induction l with
  | nil => intro a _ h; cases h
  | cons g l ih =>
    intro a h hm ho
    rw [List.foldl_cons]
    have hl : o ∈ (lookStep c a g).1.line := by show o ∈ (look a.1 g c).1.line; rw [look_line]; exact ho
    by_cases e : o = g
    · subst e
      exact lookF_con_keep c l o _ (look_wk h o c) hl (look_con_self h ho)
    · exact ih _ (look_wk h g c) ((List.mem_cons.mp hm).resolve_left e) hl
theorem lookN_wk {s : S} (w : Wk s) (c : Option Str) (l : List Str) : Wk (lookN s c l).1 := lookF_wk c l _ w
theorem lookAll_line' (s : S) : (lookAll s).line = s.line := lookN_line _ _ _
theorem lookAll_con {s : S} (w : Wk s) : ∀ g, g ∈ (lookAll s).line → Con (lookAll s) g := fun g hg => by
  rw [lookAll_line'] at hg
  exact lookF_con_all none s.line g (s, []) w hg hg
theorem lookN_size (s : S) (c : Option Str) (l : List Str) : (lookN s c l).1.size = s.size := by
  suffices h : ∀ (l : List Str) (a : S × List Str), (l.foldl (lookStep c) a).1.size = a.1.size from h l _
  intro l
  induction l with
  | nil => intro a; rfl
  | cons g l ih => intro a; rw [List.foldl_cons, ih]; exact look_size _ _ _
/-- Wk and Con look at the line, the places, the ears, the room, the away -/
theorem Wk.congr {s s' : S} (w : Wk s) (h1 : s'.line = s.line) (h2 : s'.pl = s.pl) (h3 : s'.ears = s.ears) (h4 : s'.away.Nodup) : Wk s' :=
  ⟨by rw [h1]; exact w.nd, fun o ho x n => by rw [h1] at ho; rw [h2, h3]; exact w.old o ho x n, h4, by rw [h1]; exact w.nm, by rw [h1, h2]; exact w.op, by rw [h1, h2]; exact w.src, by rw [h1, h2, h3]; exact w.sn⟩
theorem Con.congr {s s' : S} {g : Str} (k : Con s g) (h1 : s'.line = s.line) (h2 : s'.pl = s.pl) (h3 : s'.size = s.size) : Con s' g :=
  con_other (g := g) h1 h3 (fun x _ => by rw [h2]) (by rw [h2]) k
end G
set_option Elab.async false
set_option linter.all false
set_option maxRecDepth 100000
set_option maxHeartbeats 4000000
namespace G
open PySem PySem.Spec PyProof.Rows L2
theorem heardAs_hit {s s' : S} (hl : s'.line = s.line) {g w : Str} {u : Option Nat} (ht : ∀ x, x ∈ front s g → hit w u (s'.pl x).told = hit w u (s.pl x).told) : heardAs s' g w u = heardAs s g w u := by
  have hf : front s' g = front s g := by unfold front; rw [hl]
  unfold heardAs
  rw [hf]
  exact List.filter_congr fun o ho => ht o ho
theorem given_hit {s s' : S} {g : Str} (hl : s'.line = s.line) (hs : s'.size = s.size) (hn : (s'.pl g).since = (s.pl g).since) (ht : ∀ x, x ∈ front s g → ∀ w : Str, hit w (some (s.pl g).since) (s'.pl x).told = hit w (some (s.pl g).since) (s.pl x).told) : given s' g true = given s g true := by
  show givenBy s' g (some (s'.pl g).since) = givenBy s g (some (s.pl g).since)
  rw [hn]
  unfold givenBy
  rw [heardAs_hit hl fun x hx => ht x hx "in", heardAs_hit hl fun x hx => ht x hx "out", hs, hl]
/-! ### a word heard -/
theorem heardW_pl (s : S) (g w o : Str) : (heardW s g w).pl o = if o = g then { (s.pl g) with told := some (w, s.ears + 1) } else s.pl o := rfl
theorem heardW_wk {s : S} (k : Wk s) (g w : Str) : Wk (heardW s g w) := by
  refine ⟨k.nd, old_heardW k.old g w, k.aw, k.nm, ?_, ?_, ?_⟩
  · intro o ho
    rw [heardW_pl]
    by_cases h : o = g
    · rw [if_pos h, ← h]; exact k.op o ho
    · rw [if_neg h]; exact k.op o ho
  · intro o ho
    rw [heardW_pl]
    by_cases h : o = g
    · rw [if_pos h, ← h]; exact k.src o ho
    · rw [if_neg h]; exact k.src o ho
  · intro o ho
    rw [heardW_pl]
    show _ ≤ s.ears + 1
    have := k.sn o ho
    by_cases h : o = g
    · rw [if_pos h, ← h]; exact Nat.le_succ_of_le this
    · rw [if_neg h]; exact Nat.le_succ_of_le this
theorem heardW_con {s : S} (k : Wk s) {g : Str} (w : Str) (et : (s.pl g).told = none) {o : Str} (ho : o ∈ s.line) (c : Con s o) : Con (heardW s g w) o := fun m hm => by
  have e1 : ((heardW s g w).pl o).mark = (s.pl o).mark := by
    rw [heardW_pl]
    by_cases h : o = g
    · rw [if_pos h, h]
    · rw [if_neg h]
  have e2 : ((heardW s g w).pl o).since = (s.pl o).since := by
    rw [heardW_pl]
    by_cases h : o = g
    · rw [if_pos h, h]
    · rw [if_neg h]
  rw [e1] at hm
  rw [given_hit (s := s) (s' := heardW s g w) rfl rfl e2 fun x _ w' => ?_]
  · exact c m hm
  · rw [heardW_pl]
    by_cases h : x = g
    · rw [if_pos h, h, et]
      show (decide (w = w') && decide (s.ears + 1 ≤ (s.pl o).since)) = false
      have := k.sn o ho
      rw [decide_eq_false (show ¬ s.ears + 1 ≤ (s.pl o).since by omega), Bool.and_false]
    · rw [if_neg h]
theorem look_calm {s : S} {g : Str} {c : Option Str} (k : Con s g) : (look s g c).2 = false := by
  unfold look
  split
  · rfl
  · split
    · rename_i m hm
      rw [if_pos (k m hm)]
    · split <;> rfl
theorem lookF_calm (c : Option Str) (l : List Str) : ∀ a : S × List Str, Wk a.1 → (∀ o, o ∈ a.1.line → Con a.1 o) → (∀ o, o ∈ l → o ∈ a.1.line) → (l.foldl (lookStep c) a).2 = a.2 := by
  induction l with
  | nil => intro a _ _ _; rfl
  | cons g l ih =>
    intro a k h hl
    have hg := hl g (List.mem_cons_self ..)
    rw [List.foldl_cons]
    have e : (lookStep c a g).2 = a.2 := by
      show (if (look a.1 g c).2 then a.2 ++ [g] else a.2) = a.2
      rw [look_calm (h g hg)]; rfl
    rw [ih (lookStep c a g) (look_wk k g c) ?_ ?_, e]
    · intro o ho
      have ho' : o ∈ a.1.line := by
        have ho2 : o ∈ (look a.1 g c).1.line := ho
        rw [look_line] at ho2; exact ho2
      show Con (look a.1 g c).1 o
      by_cases z : o = g
      · subst z; exact look_con_self k ho'
      · exact look_con_other z (h o ho')
    · intro o ho
      show o ∈ (look a.1 g c).1.line
      rw [look_line]; exact hl o (List.mem_cons_of_mem _ ho)
theorem Good.calm {s : S} (k : Good s) : Calm s := fun g w hg hw et => by
  exact lookF_calm (some g) (behind (heardW s g w) g) (heardW s g w, []) (heardW_wk k.toWk g w) (fun o ho => heardW_con k.toWk w et ho (k.con o ho)) fun o ho => List.mem_of_mem_drop ho
/-! ### the small deeds -/
theorem pay_pl (g : Str) (s : S) (o : Str) : (pay g s o).pl = s.pl ∧ (pay g s o).ears = s.ears ∧ (pay g s o).size = s.size ∧ (pay g s o).away = s.away := by
  unfold pay
  split
  · exact ⟨rfl, rfl, rfl, rfl⟩
  · split
    · split <;> exact ⟨rfl, rfl, rfl, rfl⟩
    · exact ⟨rfl, rfl, rfl, rfl⟩
theorem payF_pl (g : Str) (l : List Str) : ∀ s : S, (l.foldl (pay g) s).pl = s.pl ∧ (l.foldl (pay g) s).ears = s.ears ∧ (l.foldl (pay g) s).size = s.size ∧ (l.foldl (pay g) s).away = s.away := by
  induction l with
  | nil => intro s; exact ⟨rfl, rfl, rfl, rfl⟩
  | cons o l ih =>
    intro s
    rw [List.foldl_cons]
    obtain ⟨a, b, c, d⟩ := ih (pay g s o)
    obtain ⟨a', b', c', d'⟩ := pay_pl g s o
    exact ⟨a.trans a', b.trans b', c.trans c', d.trans d'⟩
theorem dealOne_keep (s : S) (g : Str) : (dealOne s g).pl = s.pl ∧ (dealOne s g).ears = s.ears ∧ (dealOne s g).size = s.size ∧ (s.away.Nodup → (dealOne s g).away.Nodup) := by
  unfold dealOne
  split
  · rename_i h
    refine ⟨rfl, rfl, rfl, fun nd => ?_⟩
    show (s.away ++ [g]).Nodup
    refine List.nodup_append.mpr ⟨nd, by simp, fun a ha b hb => ?_⟩
    rw [List.mem_singleton.mp hb]
    exact fun e => h.2.1 (by rw [← e]; exact ha)
  · exact ⟨rfl, rfl, rfl, id⟩
theorem dealF_keep (l : List Str) : ∀ s : S, (l.foldl dealOne s).pl = s.pl ∧ (l.foldl dealOne s).ears = s.ears ∧ (l.foldl dealOne s).size = s.size ∧ (s.away.Nodup → (l.foldl dealOne s).away.Nodup) := by
  induction l with
  | nil => intro s; exact ⟨rfl, rfl, rfl, id⟩
  | cons o l ih =>
    intro s
    rw [List.foldl_cons]
    obtain ⟨a, b, c, d⟩ := ih (dealOne s o)
    obtain ⟨a', b', c', d'⟩ := dealOne_keep s o
    exact ⟨a.trans a', b.trans b', c.trans c', fun nd => d (d' nd)⟩
theorem gone_good {s : S} (k : Wk s) (c : ∀ g, g ∈ s.line → Con s g) : Good (gone s).1 := by
  obtain ⟨e1, e2, e3, e4⟩ := dealF_keep s.line s
  have el : (gone s).1.line = s.line := dealF_line s.line s
  refine { k.congr (s' := (gone s).1) el e1 e2 (e4 k.aw) with con := fun g hg => ?_, go := rfl }
  rw [el] at hg
  exact (c g hg).congr el e1 e3
theorem noMore_wk {s : S} (k : Wk s) (g : Str) : Wk (noMore s g) := by
  obtain ⟨e1, e2, e3, e4⟩ := payF_pl g s.line s
  exact k.congr (noMore_line s g) e1 e2 (by show (noMore s g).away.Nodup; unfold noMore; rw [e4]; exact k.aw)
theorem noMore_con {s : S} {g o : Str} (c : Con s o) : Con (noMore s g) o := by
  obtain ⟨e1, e2, e3, e4⟩ := payF_pl g s.line s
  exact c.congr (noMore_line s g) e1 e3
theorem putIn_wk {s : S} (k : Wk s) {g : Str} (n : Nat) (hn : g ∉ s.line) (hg : isNm g = true) : Wk (putIn s g n) := by
  have hpl : ∀ o, (putIn s g n).pl o = if o = g then Pl.new else s.pl o := fun o => rfl
  have hm : ∀ o, o ∈ (putIn s g n).line → o = g ∨ o ∈ s.line := fun o ho => mem_ins.mp ho
  refine ⟨?_, old_putIn k.old g n, k.aw, ?_, ?_, ?_, ?_⟩
  · show (s.line.take n ++ [g] ++ s.line.drop n).Nodup
    have p : (s.line.take n ++ [g] ++ s.line.drop n).Perm (g :: s.line) := by
      have e : s.line = s.line.take n ++ s.line.drop n := (List.take_append_drop n s.line).symm
      have p2 : (s.line.take n ++ [g] ++ s.line.drop n).Perm (g :: (s.line.take n ++ s.line.drop n)) := by
        rw [List.append_assoc]
        exact List.perm_middle
      rw [← e] at p2
      exact p2
    exact p.nodup_iff.mpr (List.nodup_cons.mpr ⟨hn, k.nd⟩)
  · intro o ho
    rcases hm o ho with e | e
    · rw [e]; exact hg
    · exact k.nm o e
  · intro o ho
    rw [hpl]
    by_cases e : o = g
    · rw [if_pos e]; intro z; exact absurd rfl z
    · rw [if_neg e]; exact k.op o ((hm o ho).resolve_left e)
  · intro o ho
    rw [hpl]
    by_cases e : o = g
    · rw [if_pos e]; intro z; exact absurd rfl z
    · rw [if_neg e]; exact k.src o ((hm o ho).resolve_left e)
  · intro o ho
    rw [hpl]
    by_cases e : o = g
    · rw [if_pos e]; exact Nat.zero_le _
    · rw [if_neg e]; exact k.sn o ((hm o ho).resolve_left e)
theorem without_wk {s : S} (k : Wk s) (g : Str) : Wk (without s g) := by
  have hpl : ∀ o, ((without s g).pl o).mark = (s.pl o).mark ∧ ((without s g).pl o).since = (s.pl o).since ∧ ((without s g).pl o).opened = (s.pl o).opened ∧ (((without s g).pl o).source ≠ none → (s.pl o).source ≠ none) := fun o => by
    show (if (s.pl o).source = some g then ({ (s.pl o) with source := none } : Pl) else s.pl o).mark = _ ∧ (if (s.pl o).source = some g then ({ (s.pl o) with source := none } : Pl) else s.pl o).since = _ ∧ (if (s.pl o).source = some g then ({ (s.pl o) with source := none } : Pl) else s.pl o).opened = _ ∧ ((if (s.pl o).source = some g then ({ (s.pl o) with source := none } : Pl) else s.pl o).source ≠ none → _)
    split
    · exact ⟨rfl, rfl, rfl, fun z => absurd rfl z⟩
    · exact ⟨rfl, rfl, rfl, id⟩
  have hm : ∀ o, o ∈ (without s g).line → o ∈ s.line := fun o ho => List.mem_of_mem_erase ho
  refine ⟨k.nd.erase g, old_without k.old g, k.aw.sublist List.filter_sublist, fun o ho => k.nm o (hm o ho), ?_, ?_, ?_⟩
  · intro o ho
    rw [(hpl o).1, (hpl o).2.2.1]; exact k.op o (hm o ho)
  · intro o ho z
    rw [(hpl o).2.2.1]
    exact k.src o (hm o ho) ((hpl o).2.2.2 z)
  · intro o ho
    rw [(hpl o).2.1]; exact k.sn o (hm o ho)
end G
set_option Elab.async false
set_option linter.all false
set_option maxRecDepth 100000
set_option maxHeartbeats 4000000
namespace G
open PySem PySem.Spec PyProof.Rows L2
theorem idx_take {l : List Str} {g : Str} {n : Nat} (h : g ∈ l.take n) : l.idxOf g < n := by
  have e : l = l.take n ++ l.drop n := (List.take_append_drop n l).symm
  have e2 : l.idxOf g = (l.take n).idxOf g := by
    have z : (l.take n ++ l.drop n).idxOf g = (l.take n).idxOf g := by rw [List.idxOf_append, if_pos h]
    rw [← e] at z
    exact z
  rw [e2]
  have := List.idxOf_lt_length_of_mem h
  rw [List.length_take] at this
  omega
theorem behind_of_front {s : S} {g o : Str} (ho : o ∈ s.line) (h : g ∈ front s o) : o ∈ behind s g := by
  have h1 := idx_take h
  have h2 := List.idxOf_lt_length_of_mem ho
  have h3 : s.line[s.line.idxOf o]? = some o := (idx_first s.line o ho).1
  unfold behind
  refine List.mem_of_getElem? (i := s.line.idxOf o - (s.line.idxOf g + 1)) ?_
  rw [List.getElem?_drop, show s.line.idxOf g + 1 + (s.line.idxOf o - (s.line.idxOf g + 1)) = s.line.idxOf o from by omega]
  exact h3
theorem setPl_wk {s : S} (k : Wk s) (g : Str) (p : Pl) (ht : p.told = (s.pl g).told ∨ p.told = none) (ho : g ∈ s.line → p.mark ≠ none → p.opened = false) (hs : g ∈ s.line → p.source ≠ none → p.opened = true) (hn : g ∈ s.line → p.since ≤ s.ears) : Wk (s.setPl g p) := by
  refine ⟨k.nd, old_setPl k.old g p ht, k.aw, k.nm, ?_, ?_, ?_⟩
  · intro o h
    rw [setPl_pl]
    by_cases e : o = g
    · rw [if_pos e]; rw [e] at h; exact ho h
    · rw [if_neg e]; exact k.op o h
  · intro o h
    rw [setPl_pl]
    by_cases e : o = g
    · rw [if_pos e]; rw [e] at h; exact hs h
    · rw [if_neg e]; exact k.src o h
  · intro o h
    rw [setPl_pl]
    by_cases e : o = g
    · rw [if_pos e]; rw [e] at h; exact hn h
    · rw [if_neg e]; exact k.sn o h
/-! ### opened, heard -/
theorem hearOpen_good {s : S} (k : Good s) {g : Str} (hg : g ∈ s.line) : Wk (hearOpen s g) ∧ ∀ o, o ∈ (hearOpen s g).line → Con (hearOpen s g) o := by
  have k1 : Wk (s.setPl g { (s.pl g) with told := none }) := setPl_wk k.toWk g _ (.inr rfl) (fun h => k.op g h) (fun h => k.src g h) (fun h => k.sn g h)
  have c1 : ∀ o, o ∈ s.line → o ∉ behind s g → Con (s.setPl g { (s.pl g) with told := none }) o := fun o ho hn m hm => by
    have e1 : ((s.setPl g { (s.pl g) with told := none }).pl o).mark = (s.pl o).mark := by
      rw [setPl_pl]
      by_cases e : o = g
      · rw [if_pos e, e]
      · rw [if_neg e]
    have e2 : ((s.setPl g { (s.pl g) with told := none }).pl o).since = (s.pl o).since := by
      rw [setPl_pl]
      by_cases e : o = g
      · rw [if_pos e, e]
      · rw [if_neg e]
    rw [e1] at hm
    rw [given_hit (s := s) (s' := s.setPl g { (s.pl g) with told := none }) rfl rfl e2 fun x hx w' => ?_]
    · exact k.con o ho m hm
    · rw [setPl_pl]
      by_cases e : x = g
      · rw [e] at hx; exact absurd (behind_of_front ho hx) hn
      · rw [if_neg e]
  have wr := lookN_wk k1 (some g) (behind (s.setPl g { (s.pl g) with told := none }) g)
  have cr : ∀ o, o ∈ s.line → Con (lookN (s.setPl g { (s.pl g) with told := none }) (some g) (behind (s.setPl g { (s.pl g) with told := none }) g)).1 o := fun o ho => by
    by_cases h : o ∈ behind s g
    · exact lookF_con_all (some g) _ o (s.setPl g { (s.pl g) with told := none }, []) k1 h ho
    · exact lookF_con_keep (some g) _ o (s.setPl g { (s.pl g) with told := none }, []) k1 ho (c1 o ho h)
  have el := lookN_line (s.setPl g { (s.pl g) with told := none }) (some g) (behind (s.setPl g { (s.pl g) with told := none }) g)
  have eh : hearOpen s g = answer (lookN (s.setPl g { (s.pl g) with told := none }) (some g) (behind (s.setPl g { (s.pl g) with told := none }) g)).1 g (lookN (s.setPl g { (s.pl g) with told := none }) (some g) (behind (s.setPl g { (s.pl g) with told := none }) g)).2 := hearOpen_eq s g
  rw [eh]
  generalize lookN (s.setPl g { (s.pl g) with told := none }) (some g) (behind (s.setPl g { (s.pl g) with told := none }) g) = r at wr cr el
  have el' : r.1.line = s.line := el
  unfold answer
  split
  · exact ⟨wr.congr rfl rfl rfl wr.aw, fun o ho => (cr o (by rw [← el']; exact ho)).congr rfl rfl rfl⟩
  · exact ⟨wr.congr rfl rfl rfl wr.aw, fun o ho => (cr o (by rw [← el']; exact ho)).congr rfl rfl rfl⟩
theorem close_good {s : S} (k : Good s) {g : Str} (hg : g ∈ s.line) (hop : (s.pl g).opened = true) : Wk (close s g) ∧ ∀ o, o ∈ (close s g).line → Con (close s g) o := by
  have hmk : (s.pl g).mark = none := Classical.byContradiction fun z => by have := k.op g hg z; rw [hop] at this; cases this
  have k1 : Wk (s.setPl g { (s.pl g) with opened := false, source := none }) := setPl_wk k.toWk g _ (.inl rfl) (fun _ _ => rfl) (fun _ z => absurd rfl z) (fun h => k.sn g h)
  have c1 : ∀ o, o ∈ s.line → o ≠ g → Con (s.setPl g { (s.pl g) with opened := false, source := none }) o := fun o ho hn => by
    refine con_other (s := s) (s' := s.setPl g { (s.pl g) with opened := false, source := none }) (g := g) rfl rfl (fun x _ => ?_) ?_ (k.con o ho)
    · rw [setPl_pl]
      by_cases e : x = g
      · rw [if_pos e, e]
      · rw [if_neg e]
    · rw [setPl_pl, if_neg hn]
  have w2 := look_wk k1 g none
  refine ⟨noMore_wk w2 g, fun o ho => noMore_con ?_⟩
  have ho' : o ∈ s.line := by rw [close_line] at ho; exact ho
  by_cases e : o = g
  · subst e; exact look_con_self k1 ho'
  · exact look_con_other e (c1 o ho' e)
theorem look_opened {s : S} {g : Str} (c : Option Str) (h : (s.pl g).mark = none) (ho : (s.pl g).opened = false) : ((look s g c).1.pl g).opened = false := by
  unfold look
  rw [if_neg (by rw [ho]; exact Bool.false_ne_true), h]
  dsimp only
  cases given s g false with
  | none => exact ho
  | some m =>
    show ((settle s g m).pl g).opened = false
    rw [settle_pl, if_pos rfl]; exact ho
theorem close_opened {s : S} (k : Good s) {g : Str} (hg : g ∈ s.line) (hop : (s.pl g).opened = true) (x : Str) : ((close s g).pl x).opened = (if x = g then false else (s.pl x).opened) := by
  have hmk : (s.pl g).mark = none := Classical.byContradiction fun z => by have := k.op g hg z; rw [hop] at this; cases this
  obtain ⟨e1, _⟩ := payF_pl g (look (s.setPl g { (s.pl g) with opened := false, source := none }) g none).1.line (look (s.setPl g { (s.pl g) with opened := false, source := none }) g none).1
  have e0 : (close s g).pl = (look (s.setPl g { (s.pl g) with opened := false, source := none }) g none).1.pl := e1
  rw [e0]
  by_cases e : x = g
  · rw [if_pos e, e]
    exact look_opened none (by rw [setPl_pl, if_pos rfl]; exact hmk) (by rw [setPl_pl, if_pos rfl])
  · rw [if_neg e, look_pl _ _ _ _ e, setPl_pl, if_neg e]
theorem filter_lt {p q : Str → Bool} {g : Str} : ∀ {l : List Str}, (∀ x, q x = true → p x = true) → g ∈ l → p g = true → q g = false → (l.filter q).length < (l.filter p).length
  | [], _, h, _, _ => by cases h
  | x :: l, hi, h, hp, hq => by
    have le : ∀ l : List Str, (l.filter q).length ≤ (l.filter p).length := fun l => by
      induction l with
      | nil => exact Nat.le_refl _
      | cons y l ih =>
        rw [List.filter_cons, List.filter_cons]
        cases e : q y with
        | true => rw [if_pos rfl, if_pos (hi y e)]; exact Nat.succ_le_succ ih
        | false =>
          rw [if_neg Bool.false_ne_true]
          split
          · exact Nat.le_succ_of_le ih
          · exact ih
    rw [List.filter_cons, List.filter_cons]
    by_cases e : x = g
    · subst e
      rw [if_neg (by rw [hq]; exact Bool.false_ne_true), if_pos hp]
      exact Nat.lt_succ_of_le (le l)
    · have hm : g ∈ l := (List.mem_cons.mp h).resolve_left fun z => e z.symm
      have ih := filter_lt hi hm hp hq
      cases e2 : q x with
      | true => rw [if_pos rfl, if_pos (hi x e2)]; exact Nat.succ_lt_succ ih
      | false =>
        rw [if_neg Bool.false_ne_true]
        split
        · exact Nat.lt_succ_of_lt ih
        · exact ih
theorem gone_line (s : S) : (gone s).1.line = s.line := dealF_line s.line s
theorem gone_pl (s : S) : (gone s).1.pl = s.pl := (dealF_keep s.line s).1
theorem close_fewer {s : S} (k : Good s) {g : Str} (hg : g ∈ s.line) (hop : (s.pl g).opened = true) : (awaitedL (gone (close s g)).1).length < (awaitedL s).length := by
  unfold awaitedL
  rw [gone_line, gone_pl, close_line]
  refine filter_lt (g := g) (fun x hx => ?_) hg hop ?_
  · rw [close_opened k hg hop] at hx
    by_cases e : x = g
    · rw [if_pos e] at hx; cases hx
    · rw [if_neg e] at hx; exact hx
  · rw [close_opened k hg hop, if_pos rfl]
/-! ### any deed -/
theorem act_good {s s' : S} (k : Good s) {wh : What} (ho : WhatOk s wh) (e : act s wh = some s') : Wk s' ∧ ∀ g, g ∈ s'.line → Con s' g := by
  cases wh with
  | put g n =>
    have ea : act s (.put g n) = if g = s.own ∨ g ∈ s.line then none else if s.line.length < n then none else some (lookAll (putIn s g n)) := rfl
    rw [ea] at e
    split at e
    · cases e
    · rename_i hn
      split at e
      · cases e
      · cases e
        have w := putIn_wk k.toWk n (fun z => hn (.inr z)) ho
        exact ⟨lookN_wk w none _, lookAll_con w⟩
  | out g =>
    have ea : act s (.out g) = if g ∈ s.line then some (noMore (lookAll (without s g)) g) else none := rfl
    rw [ea] at e
    split at e
    · cases e
      have w := without_wk k.toWk g
      exact ⟨noMore_wk (lookN_wk w none _) g, fun o h => noMore_con (lookAll_con w o (by rw [noMore_line] at h; exact h))⟩
    · cases e
  | room n =>
    have ea : act s (.room n) = if n < s.away.length then none else some (lookAll { s with size := n }) := rfl
    rw [ea] at e
    split at e
    · cases e
    · cases e
      have w : Wk { s with size := n } := k.toWk.congr rfl rfl rfl k.aw
      exact ⟨lookN_wk w none _, lookAll_con w⟩
  | hear g l =>
    by_cases hg : g ∈ s.line
    case neg => rw [act_no s g l hg] at e; cases e
    unfold act at e
    dsimp only at e
    rw [if_pos hg] at e
    split at e
    · split at e
      · rename_i hw
        cases e
        have w := heardW_wk k.toWk g (l.getD 1 "")
        have cc : ∀ o, o ∈ s.line → Con (heardW s g (l.getD 1 "")) o := fun o h => heardW_con k.toWk _ hw.1 h (k.con o h)
        refine ⟨lookN_wk w (some g) _, fun o h => ?_⟩
        have h' : o ∈ s.line := by rw [hearWord_line] at h; exact h
        exact lookF_con_keep (some g) _ o (heardW s g (l.getD 1 ""), []) w h' (cc o h')
      · cases e
    · split at e
      · split at e
        · cases e
        · cases e; exact hearOpen_good k hg
      · split at e
        · split at e
          · rename_i hop
            cases e; exact close_good k hg hop
          · cases e
        · split at e
          · split at e
            · cases e
              exact ⟨k.toWk.congr rfl rfl rfl (k.aw.sublist List.filter_sublist), fun o h => (k.con o h).congr rfl rfl rfl⟩
            · cases e
          · cases e
theorem deed_good {s s' : S} {l : List Ltr} (k : Good s) {wh : What} (ho : WhatOk s wh) (e : deed s wh = some (s', l)) : Good s' := by
  obtain ⟨t, e1, e2⟩ := Option.map_eq_some_iff.mp e
  obtain ⟨w, c⟩ := act_good k ho e1
  have := gone_good w c
  rw [e2] at this
  exact this
theorem new_good (own : Str) (size : Nat) : Good (S.new own size) :=
  { nd := List.nodup_nil, old := fun o ho => (by cases ho), aw := List.nodup_nil, nm := fun o ho => (by cases ho), op := fun o ho => (by cases ho), src := fun o ho => (by cases ho), sn := fun o ho => (by cases ho), con := fun o ho => (by cases ho), go := rfl }
theorem Good.okMark {s : S} (k : Good s) {g : Str} (hg : g ∈ s.line) : okMark (s.pl g).mark := by
  cases e : (s.pl g).mark with
  | none => exact .inl rfl
  | some m =>
    have h := k.con g hg m e
    have h2 : givenBy s g (some (s.pl g).since) = some m := h
    unfold givenBy at h2
    split at h2
    · exact .inr (.inl h2.symm)
    · split at h2
      · exact .inr (.inr h2.symm)
      · cases h2
end G
set_option Elab.async false
set_option linter.all false
set_option maxRecDepth 100000
set_option maxHeartbeats 4000000
namespace G
open PySem PySem.Spec PyProof.Rows L2
/-! ### how many letters go, and which -/
def sent : List (List Str) := [lOpen, lHeard, lChair, lWord "clear", lWord "barred"]
structure LG (n : Nat) (s : S) : Prop where
  few : s.going.length ≤ n
  ok : ∀ x, x ∈ s.going → isNm x.1 = true ∧ x.2 ∈ sent
theorem LG.mono {n m : Nat} {s : S} (k : LG n s) (h : n ≤ m) : LG m s := ⟨Nat.le_trans k.few h, k.ok⟩
theorem LG.say {n : Nat} {s s' : S} {g : Str} {l : List Str} (k : LG n s) (hg : isNm g = true) (hl : l ∈ sent) (e : s'.going = s.going ++ [(g, l)]) : LG (n + 1) s' :=
  ⟨by rw [e, List.length_append]; exact Nat.succ_le_succ k.few, fun x hx => by
    rw [e, List.mem_append] at hx
    rcases hx with hx | hx
    · exact k.ok x hx
    · rw [List.mem_singleton.mp hx]; exact ⟨hg, hl⟩⟩
theorem LG.same {n : Nat} {s s' : S} (k : LG n s) (e : s'.going = s.going) : LG n s' := ⟨by rw [e]; exact k.few, fun x hx => k.ok x (by rw [← e]; exact hx)⟩
theorem given_sent {s : S} {g : Str} {b : Bool} {m : Str} (h : given s g b = some m) : lWord m ∈ sent := by
  have h2 : givenBy s g (upOf s g b) = some m := h
  unfold givenBy at h2
  split at h2
  · cases h2; decide
  · split at h2
    · cases h2; decide
    · cases h2
theorem look_LG {n : Nat} {s : S} {g : Str} (c : Option Str) (k : LG n s) (hg : isNm g = true) : LG (n + 1) (look s g c).1 := by
  unfold look
  split
  · exact k.mono (Nat.le_succ _)
  · split
    · split
      · exact k.mono (Nat.le_succ _)
      · exact k.say (g := g) (l := lOpen) hg (by decide) rfl
    · split
      · exact k.mono (Nat.le_succ _)
      · rename_i m hm
        exact k.say (g := g) (l := lWord m) hg (given_sent hm) rfl
theorem lookF_LG (c : Option Str) (l : List Str) : ∀ (n : Nat) (a : S × List Str), LG n a.1 → (∀ g, g ∈ l → isNm g = true) → LG (n + l.length) (l.foldl (lookStep c) a).1 := by
  induction l with
  | nil => intro n a k _; exact k
  | cons g l ih =>
    intro n a k h
    rw [List.foldl_cons, List.length_cons, show n + (l.length + 1) = (n + 1) + l.length from by omega]
    exact ih (n + 1) _ (look_LG c k (h g (List.mem_cons_self ..))) fun o ho => h o (List.mem_cons_of_mem _ ho)
theorem pay_LG {n : Nat} {g : Str} {s : S} {o : Str} (k : LG n s) (ho : isNm o = true) : LG (n + 1) (pay g s o) := by
  unfold pay
  split
  · exact k.mono (Nat.le_succ _)
  · split
    · split
      · exact k.say (g := o) (l := lHeard) ho (by decide) rfl
      · exact LG.mono (k.same rfl) (Nat.le_succ _)
    · exact k.mono (Nat.le_succ _)
theorem payF_LG (g : Str) (l : List Str) : ∀ (n : Nat) (s : S), LG n s → (∀ o, o ∈ l → isNm o = true) → LG (n + l.length) (l.foldl (pay g) s) := by
  induction l with
  | nil => intro n s k _; exact k
  | cons o l ih =>
    intro n s k h
    rw [List.foldl_cons, List.length_cons, show n + (l.length + 1) = (n + 1) + l.length from by omega]
    exact ih (n + 1) _ (pay_LG k (h o (List.mem_cons_self ..))) fun x hx => h x (List.mem_cons_of_mem _ hx)
theorem deal1_LG {n : Nat} {s : S} {g : Str} (k : LG n s) (hg : isNm g = true) : LG (n + 1) (dealOne s g) := by
  unfold dealOne
  split
  · exact k.say (g := g) (l := lChair) hg (by decide) rfl
  · exact k.mono (Nat.le_succ _)
theorem dealF_LG (l : List Str) : ∀ (n : Nat) (s : S), LG n s → (∀ g, g ∈ l → isNm g = true) → LG (n + l.length) (l.foldl dealOne s) := by
  induction l with
  | nil => intro n s k _; exact k
  | cons o l ih =>
    intro n s k h
    rw [List.foldl_cons, List.length_cons, show n + (l.length + 1) = (n + 1) + l.length from by omega]
    exact ih (n + 1) _ (deal1_LG k (h o (List.mem_cons_self ..))) fun x hx => h x (List.mem_cons_of_mem _ hx)
theorem LG.nil {s : S} (h : s.going = []) : LG 0 s := ⟨by rw [h]; exact Nat.le_refl _, fun x hx => by rw [h] at hx; cases hx⟩
theorem act_LG {s s' : S} (k : Good s) {wh : What} (ho : WhatOk s wh) (e : act s wh = some s') : LG (2 * s.line.length + 4) s' := by
  have k0 : LG 0 s := LG.nil k.go
  cases wh with
  | put g n =>
    have ea : act s (.put g n) = if g = s.own ∨ g ∈ s.line then none else if s.line.length < n then none else some (lookAll (putIn s g n)) := rfl
    rw [ea] at e
    split at e
    · cases e
    · rename_i hn
      split at e
      · cases e
      · cases e
        have w := putIn_wk k.toWk n (fun z => hn (.inr z)) ho
        have kk := lookF_LG none (putIn s g n).line 0 (putIn s g n, []) (k0.same rfl) w.nm
        have hl : (putIn s g n).line.length = s.line.length + 1 := len_ins
        exact kk.mono (by omega)
  | out g =>
    have ea : act s (.out g) = if g ∈ s.line then some (noMore (lookAll (without s g)) g) else none := rfl
    rw [ea] at e
    split at e
    · cases e
      have w := without_wk k.toWk g
      have hl : (without s g).line.length ≤ s.line.length := List.length_erase_le ..
      have kk := lookF_LG none (without s g).line 0 (without s g, []) (k0.same rfl) w.nm
      have e1 : (lookAll (without s g)).line = (without s g).line := lookAll_line' _
      have k2 := payF_LG g (lookAll (without s g)).line _ (lookAll (without s g)) kk (by rw [e1]; exact w.nm)
      rw [e1] at k2
      unfold noMore
      rw [e1]
      exact k2.mono (by omega)
    · cases e
  | room n =>
    have ea : act s (.room n) = if n < s.away.length then none else some (lookAll { s with size := n }) := rfl
    rw [ea] at e
    split at e
    · cases e
    · cases e
      exact (lookF_LG none s.line 0 ({ s with size := n }, []) (k0.same rfl) k.nm).mono (by omega)
  | hear g l =>
    by_cases hg : g ∈ s.line
    case neg => rw [act_no s g l hg] at e; cases e
    have hgn := k.nm g hg
    unfold act at e
    dsimp only at e
    rw [if_pos hg] at e
    split at e
    · split at e
      · cases e
        have h1 := behind_le (heardW s g (l.getD 1 "")) g
        have h2 : (heardW s g (l.getD 1 "")).line.length = s.line.length := rfl
        exact (lookF_LG (some g) (behind (heardW s g (l.getD 1 "")) g) 0 (heardW s g (l.getD 1 ""), []) (k0.same rfl) fun o h => k.nm o (List.mem_of_mem_drop h)).mono (by omega)
      · cases e
    · split at e
      · split at e
        · cases e
        · cases e
          have h1 := behind_le (s.setPl g { (s.pl g) with told := none }) g
          have h2 : (s.setPl g { (s.pl g) with told := none }).line.length = s.line.length := rfl
          have kk := lookF_LG (some g) (behind (s.setPl g { (s.pl g) with told := none }) g) 0 (s.setPl g { (s.pl g) with told := none }, []) (k0.same rfl) fun o h => k.nm o (List.mem_of_mem_drop h)
          have eh : hearOpen s g = answer (lookN (s.setPl g { (s.pl g) with told := none }) (some g) (behind (s.setPl g { (s.pl g) with told := none }) g)).1 g (lookN (s.setPl g { (s.pl g) with told := none }) (some g) (behind (s.setPl g { (s.pl g) with told := none }) g)).2 := hearOpen_eq s g
          rw [eh]
          have kk : LG _ (lookN (s.setPl g { (s.pl g) with told := none }) (some g) (behind (s.setPl g { (s.pl g) with told := none }) g)).1 := kk
          generalize lookN (s.setPl g { (s.pl g) with told := none }) (some g) (behind (s.setPl g { (s.pl g) with told := none }) g) = r at kk
          unfold answer
          split
          · exact (kk.say (g := g) (l := lHeard) hgn (by decide) rfl).mono (by omega)
          · exact LG.mono (kk.same rfl) (by omega)
      · split at e
        · split at e
          · cases e
            have kk := look_LG (n := 0) (s := s.setPl g { (s.pl g) with opened := false, source := none }) none (k0.same rfl) hgn
            have e1 : (look (s.setPl g { (s.pl g) with opened := false, source := none }) g none).1.line = s.line := look_line _ _ _
            have k2 := payF_LG g (look (s.setPl g { (s.pl g) with opened := false, source := none }) g none).1.line _ _ kk (by rw [e1]; exact k.nm)
            unfold close noMore
            refine k2.mono ?_
            rw [e1]; omega
          · cases e
        · split at e
          · split at e
            · cases e; exact LG.mono (k0.same (s' := back s g) rfl) (Nat.zero_le _)
            · cases e
          · cases e
theorem deed_LG {s s' : S} {l : List Ltr} (k : Good s) {wh : What} (ho : WhatOk s wh) (e : deed s wh = some (s', l)) : l.length ≤ 3 * s.line.length + 5 ∧ ∀ x, x ∈ l → isNm x.1 = true ∧ x.2 ∈ sent := by
  obtain ⟨t, e1, e2⟩ := Option.map_eq_some_iff.mp e
  have kk := act_LG k ho e1
  obtain ⟨w, c⟩ := act_good k ho e1
  have hl := act_len e1
  have k2 := dealF_LG t.line _ t kk w.nm
  have el : l = (deal t).going := by
    have : (gone t).2 = l := by rw [e2]
    exact this.symm
  have k3 : LG _ (deal t) := k2
  rw [el]
  exact ⟨Nat.le_trans k3.few (by omega), k3.ok⟩
/-! ### letters as data -/
def ltrD (x : Ltr) : PyData := .tuple [.str x.1, tS x.2]
def resD : Option (List Ltr) → PyData
  | none => .none
  | some l => .list (l.map ltrD)
theorem dp_ltr {K : PySem.W.Frag} {H : Hp} {x : Ltr} {v : V} (h : LtrV K H x v) : Dp K H v (ltrD x) := by
  obtain ⟨t, u, rfl, e, z⟩ := h
  exact .tup (SqT.of e) (.cons (.str _) (.cons (dp_tup z.sq) .nil))
theorem dp_ltrs {K : PySem.W.Frag} {H : Hp} : ∀ {l : List Ltr} {vs : List V}, Paired (LtrV K H) l vs → DpAll K H vs (l.map ltrD)
  | _, _, .nil => .nil
  | _, _, .cons a b => .cons (dp_ltr a) (dp_ltrs b)
theorem plain_ltrD (x : Ltr) : (ltrD x).plain = true := by
  unfold ltrD
  rw [PyData.plain, PyData.plainAll, PyData.plainAll, PyData.plainAll, plain_tS]; rfl
theorem depth_ltrD (x : Ltr) : (ltrD x).depth ≤ 2 := by
  unfold ltrD
  rw [PyData.depth, PyData.depthAll, PyData.depthAll, PyData.depthAll, depth_tS, PyData.depth]
  decide
theorem plain_resD (r : Option (List Ltr)) : (resD r).plain = true := by
  cases r with
  | none => rfl
  | some l => show (PyData.list (l.map ltrD)).plain = true; rw [PyData.plain, plainAll_map _ plain_ltrD]
theorem depth_resD (r : Option (List Ltr)) : (resD r).depth ≤ 3 := by
  cases r with
  | none => exact Nat.zero_le _
  | some l =>
    have := depthAll_map ltrD 2 depth_ltrD l
    show (PyData.list (l.map ltrD)).depth ≤ 3
    rw [PyData.depth]; omega
end G
set_option Elab.async false
set_option linter.all false
set_option maxRecDepth 100000
set_option maxHeartbeats 4000000
/-! Promises for callers within no repr: their guards are known to be none. -/
namespace G
open PySem PySem.Spec PyProof.Rows L2
structure FnG (P : Program) (w : World) (K : PySem.W.Frag) (mg : Str → Option Value) (base : Heap) (k : Nat) (f : Addr) (fd : FuncData) (ps : List Str) (sp : Sp) : Prop where
  len : ∀ vs H Q E, sp vs H Q E → vs.length = ps.length
  go : ∀ (A : Around) (out : List Env) (s : Shared) (H : Hp) (ar : Args) (us : List Value) (vs : List V) (Q : VK) (E : XK), A.guards = some [] → Room k A → Env0 P w K mg base A out s H → Vals vs us → BindsTo s fd ar (ps.zip us) → sp vs H Q E →
    codeAny (model P w) A (.call (.ref f) ar) (CR CX0 out P w H s Q E) s
section
variable {P : Program} {w : World} {K : PySem.W.Frag} {mg : Str → Option Value} {base : Heap}
theorem fnG_of {x qual : Str} {pr : Arguments} {bd : List Stmt} {sc : Scope} {f : Addr} {fd : FuncData} {N ps : List Str} {k : Nat} {sp : Sp} (F : FunD K x qual pr bd sc [] [] f fd) (S : FnScope N ps sc) (len : ∀ vs H Q E, sp vs H Q E → vs.length = ps.length)
    (hbd : ∀ (cdv : Value) (A : Around) (out : List Env) (s : Shared) (H : Hp) (vs : List V) (Q : VK) (E : XK), A.guards = some [] → Room k (A.deeper (envOfC qual sc s.heap.objs.size f cdv)) → sp vs H Q E →
      ∃ t, PSs (cxOf CX0 P w K mg base N qual sc f cdv A out s H E).nox bd t ∧ t { nx := fun _ H' => Q .non H', rt := Q } (start N vs) H) : FnG P w K mg base (k + 1) f fd ps sp := by
  obtain ⟨_, _, dV, kV, doc, pm, an, cdv, ct, _, rfl, lk, hcd, _, _⟩ := F.ex
  refine ⟨len, fun A out s H ar us vs Q E hgd hr e0 rv hb hsp => ?_⟩
  have kin : K.In s.heap := e0.mod.kin.keeps fun a o e => (e0.bs a o e).1
  have places : ∀ y ∈ ps.zip us, sc.names.lookup y.1 = some .local ∨ (sc.names.lookup y.1 = some .cell ∧ ((cellsFrom (s.heap.objs.size + 1) sc.names []).lookup y.1).isSome = true) := by
    rintro ⟨y, v⟩ hy
    exact (S.par y (List.of_mem_zip hy).1).imp id fun q => ⟨q, PySem.W.cellsFrom_some _ _ _ (.inl q)⟩
  refine codeAny_call_function hr.depth (kin _ _ lk) rfl S.co S.gen rfl (PySem.W.codeRec_of kin hcd) (hb _ _ _ _ (wpAny_newFunctionEnv_cells S.kind places fun env he s1 x => ?_))
  subst he
  refine ⟨(e0.mod.nolimit.keeps fun a o e => (e0.bs a o e).1).keeps x.toInCall.keep, codeAny_func ?_⟩
  obtain ⟨t, h1, h2⟩ := hbd cdv A out s H vs Q E hgd (hr.deeper _) hsp
  have I0 : Inv (cxOf CX0 P w K mg base N qual sc f cdv A out s H E) [] (start N vs) H s1 := inv_start S hr.hd e0 (len _ _ _ _ hsp) rv x
  refine wpAny_mono (h1.nox.run [] s1 (start N vs) H _ I0 h2) (fun fl s2 hs => ?_) fun _ _ z => z
  have leave : ∀ {σ2 : L2.St} {H2 : Hp} {v : V} {u : Value}, Inv (cxOf CX0 P w K mg base N qual sc f cdv A out s H E) [] σ2 H2 s2 → RelV v u → Q v H2 → CE out P w H s Q u s2 := fun J r q => ⟨_, _, J.os, J.bare, J.base, J.hok, r, q⟩
  cases fl with
  | brk => exact hs.elim fun _ z => z.elim fun _ z => z.2.elim
  | cont => exact hs.elim fun _ z => z.elim fun _ z => z.2.elim
  | next =>
    obtain ⟨_, _, J, q⟩ := hs
    exact leave (v := V.non) (u := Value.none) J rfl q
  | ret u =>
    obtain ⟨_, _, _, J, r, q⟩ := hs
    exact leave J r q
section
variable {X : Cx} {k : Nat} {f : Addr} {fd : FuncData} {ps : List Str} {sp : Sp} {x : Str} {p pos : Pos} {e : Expr} {es : List Expr} {t : TA}
theorem pe_callG (F : FnG X.prog X.w X.K X.mg X.base k f fd ps sp) (hgd : X.A.guards = some []) (hr : Room k X.A) (hg : Gl X x) (hm : X.mg x = some (.ref f)) (hk : PySem.W.keepIn X.K (.ref f) = true) (hb : Binds X.K fd ps []) (hp : Passes CX0 X E0)
    (ha : PA X (e :: es) t) (hdb : (x == ("__debug__" : Str)) = false := by decide) (h1 : starEach (e :: es) X.env = (false, eval e X.env) :: starEach es X.env := by rfl) (h2 : (backTo pos (starEach es X.env)).any (·.1) = false := by rfl) :
    PE X (.Call (.Name x p) (e :: es) [] pos) (tCall sp [] E0 t) := by
  refine ⟨fun pins s σ H Q I h => wpAny_Call_Name_kw (ld_glob I hg hm (PySem.W.callWith_K (h₀ := X.base) I.ok.mod.kin hk (thn (ha.run pos pins s σ H _ I h) fun us s1 ⟨vs, H1, I1, r, q⟩ => ⟨I1.kIn, ?_⟩) h1 h2) hdb)⟩
  have q : sp vs H1 Q E0 := by have z : sp (vs ++ []) H1 Q E0 := q; rw [List.append_nil] at z; exact z
  have lu : us.length = ps.length := by rw [← r.length]; exact F.len _ _ _ _ q
  have bn := hb s1 us I1.kIn (by rw [List.append_nil]; exact lu)
  rw [List.append_nil] at bn
  refine wpAny_call (codeAny_mono (F.go X.A X.stack s1 H1 ⟨us, []⟩ us vs Q E0 hgd hr I1.env0 r bn q) fun fl s2 z => ?_)
  cases fl with
  | error er => exact hp pins σ H1 s1 er s2 I1 z
  | ok g =>
    cases g with
    | ret u => exact I1.after z
    | next => exact z.elim
    | brk => exact z.elim
    | cont => exact z.elim
end
end
end G
set_option Elab.async false
set_option linter.all false
set_option maxRecDepth 100000
set_option maxHeartbeats 4000000
/-! The end: the law's call at the claim's caller. -/
namespace G
open PySem PySem.Spec PyProof.Rows L2
/-- what of H may stand: the script alone -/
def Lone (K : PySem.W.Frag) (a : Addr) (H : Hp) : Prop := ∀ b, H b = none ∨ (b = a ∧ K.lookup a = none ∧ ∃ o xs, H b = some (.frz o (.lst xs)))
section
variable {P : Program} {w : World} {K : PySem.W.Frag} {mg mb : Str → Option Value} {k : Nat} {fa a : Addr} {fd : FuncData} {x : Str} {sp : Sp} {s1 : Shared} {vs : List Value} {ns : List Int}
theorem endG (KX : K.In s1.heap) (gn : s1.heap.Ns mainGlobals mg) (bn : s1.heap.Ns builtinsNs mb) (bb : ∀ x : Str, x ≠ "__name__" → mb x = bootBuiltins x) (nl : s1.heap.NoLimit) (gs : s1.gens = #[])
    (ha : s1.heap.get? a = some { cls := .type "list", data := .seq vs.toArray }) (hr : Room k callerA) (F : ∀ base : Heap, K.In base → base.Ns mainGlobals mg → FnG P w K mg base k fa fd [x] sp) (bi : ∀ (s : Shared) (u : Value), BindsTo s fd ⟨[u], []⟩ [(x, u)])
    {H : Hp} (lo : Lone K a H) (ok : HOk P w H s1.heap) (hs : sp [.ref a] H (fun v _ => v = .bl true) E0) :
    codeAny (model P w) callerA (.call (.ref fa) ⟨[.ref a], []⟩) (fun r s2 => r = .ok (.ret (.bool true)) ∧ OldK s1.heap s2.heap ∧ s2.os = s1.os ∧ AllBare s2.gens) s1 := by
  have keepd : ∀ {b : Addr} {o : Obj}, s1.heap.get? b = some o → H b = none → (hidT s1.heap H).get? b = some o := fun z n => hidT_get z n
  have dictless : ∀ {b : Addr} {o : Obj} {es : Array DictEntry} {n : Nat}, s1.heap.get? b = some o → o.data = .dict es n → H b = none := by
    intro b o es n z d
    rcases lo b with q | ⟨rfl, _, _⟩
    · exact q
    · rw [ha] at z
      cases z
      exact absurd d (by intro y; cases y)
  have spaces : ∀ {b : Addr} {m : Str → Option Value}, s1.heap.Ns b m → (hidT s1.heap H).Ns b m := by
    rintro b m ⟨o, es, n, z, d, r⟩
    exact ⟨o, es, n, keepd z (dictless z d), d, r⟩
  have kin : K.In (hidT s1.heap H) := by
    intro b o z
    refine keepd (KX b o z) ?_
    rcases lo b with q | ⟨rfl, q, _⟩
    · exact q
    · rw [q] at z; cases z
  have md : Mod K mg (hidT s1.heap H) := ⟨kin, spaces gn, ⟨mb, spaces bn, bb⟩, nl.imp fun _ z => ⟨spaces z.1, z.2⟩⟩
  have env : Env0 P w K mg (hidT s1.heap H) callerA [] s1 H := ⟨rfl, md, fun b o z => of_hidT z, Nat.le_of_eq (hidT_size _ _), trivial, fun b z => (List.not_mem_nil z).elim, ok, .of_eq gs⟩
  refine codeAny_mono ((F _ kin (spaces gn)).go callerA [] s1 H ⟨[.ref a], []⟩ [.ref a] [.ref a] _ _ rfl hr env (.cons rfl .nil) (bi s1 (.ref a)) hs) fun r s2 z => ?_
  cases r with
  | error er => exact z.elim
  | ok fl =>
    cases fl with
    | next => exact z.elim
    | brk => exact z.elim
    | cont => exact z.elim
    | ret u =>
      obtain ⟨v, H2, os, bare, un, ok2, rv, ev⟩ := z
      have ev : v = .bl true := ev
      subst ev
      have eu : u = Value.bool true := rv
      subst eu
      refine ⟨rfl, OldK.of_keep fun b o g => ?_, os, bare⟩
      rcases lo b with q | ⟨rfl, _, ob, xs, q⟩
      · exact un.keep b o g q (fun z => (List.not_mem_nil z).elim) (by simp)
      · have q2 := un.frzs b ob _ q
        have g1 := (ok b _ q).1
        rw [g] at g1
        cases g1
        exact (ok2 b _ q2).1
/-- either way the script is read as its numbers -/
theorem startG (KX : K.In s1.heap) (ha : s1.heap.get? a = some { cls := .type "list", data := .seq vs.toArray }) (hi : IntsAre vs ns) (hl : ns.length ≤ sizeLine) : ∃ H : Hp, Lone K a H ∧ HOk P w H s1.heap ∧ SqL K H a (ns.map V.int) := by
  have rv := vals_ints hi
  cases hk : K.lookup a with
  | some o =>
    have z := KX a o hk
    rw [ha] at z
    cases z
    refine ⟨fun _ => none, fun _ => .inl rfl, fun b u z => (by have y : (none : Option HO) = some u := z; cases y), .inr ⟨_, vs.toArray, _, hk, rfl, rfl, rfl, ?_, by simpa using rv⟩⟩
    rw [List.size_toArray, hi.length]
    exact hl
  | none =>
    refine ⟨fun b => if b = a then some (.frz { cls := .type "list", data := .seq vs.toArray } (.lst (ns.map V.int))) else none, fun b => ?_, fun b u z => ?_, .inl (.inr ⟨{ cls := .type "list", data := .seq vs.toArray }, if_pos rfl⟩)⟩
    · by_cases e : b = a
      · exact .inr ⟨e, hk, _, _, if_pos e⟩
      · exact .inl (if_neg e)
    · dsimp only at z
      by_cases e : b = a
      · rw [if_pos e] at z
        cases z
        subst e
        exact ⟨ha, by rw [List.length_map]; exact hl, vs, _, rv, ha⟩
      · rw [if_neg e] at z; cases z
end
/-- the goal that a head leaves -/
theorem walkG {l : PySem.W.OpenLaw} {n k : Nat} {q : Program} {loose : List Str} {XP : (Str → Option Value) → Heap → Prop} {YP : World → Heap → Prop} {d : DefRec} {x : Str} (hn : l.most = some n) (h2 : n ≤ sizeLine) (hdf : d.params.defaults = []) (hr : Room k callerA)
    (F : ∀ (w : World) (mg : Str → Option Value) (fa : Addr) (h : Heap), YP w h → h.Ns mainGlobals mg → mg d.name = some (.ref fa) →
      ∃ (K : PySem.W.Frag) (fd : FuncData) (sp : Sp), K.In h ∧ (∀ (s : Shared) (u : Value), BindsTo s fd ⟨[u], []⟩ [(x, u)]) ∧ (∀ (H : Hp) (a : Addr) (ns : List Int), ns.length ≤ n → Lone K a H → SqL K H a (ns.map V.int) → sp [.ref a] H (fun v _ => v = .bl true) E0) ∧
        ∀ base : Heap, K.In base → base.Ns mainGlobals mg → FnG l.prog w K mg base k fa fd [x] sp) :
    PySem.W.WalkO q loose XP YP l.row.toRowW d [] (fun f vs => PySem.call f vs) := by
  refine Att.attach_call hn hdf fun w s0 s1 mg mb fa o pm cd doc a vs ns T Y _ _ _ hmg hobj hints hlen hgn => ?_
  obtain ⟨K, fd, sp, KX, hb, hsp, hF⟩ := F w mg fa _ Y T.T.g hmg
  obtain ⟨H, lo, ok, sq⟩ := startG (P := l.prog) (w := w) KX hobj hints (Nat.le_trans hlen h2)
  exact endG KX T.T.g T.T.b T.T.builtins T.T.nolimit hgn hobj hr hF hb lo ok (hsp H a ns hlen lo sq)
end G
set_option Elab.async false
set_option linter.all false
set_option maxRecDepth 100000
set_option maxHeartbeats 4000000
namespace G
open PySem PySem.Spec PyProof.Rows L2
/-! ### how the answers are shown -/
def pairD (r : Option (List Ltr)) : PyData := .list [resD r, resD r]
theorem show_strs : ∀ l : List Str, PyData.showableAll (l.map .str) = true
  | [] => rfl
  | x :: l => by rw [List.map_cons, PyData.showableAll, show_strs l]; rfl
theorem nod_strs : ∀ l : List Str, PyData.hasDictAll (l.map .str) = false
  | [] => rfl
  | x :: l => by rw [List.map_cons, PyData.hasDictAll, nod_strs l]; rfl
theorem show_ltrD (x : Ltr) : (ltrD x).showable = true := by
  unfold ltrD tS
  rw [PyData.showable, PyData.showableAll, PyData.showableAll, PyData.showableAll, PyData.showable, PyData.showable, show_strs]; rfl
theorem nod_ltrD (x : Ltr) : (ltrD x).hasDict = false := by
  unfold ltrD tS
  rw [PyData.hasDict, PyData.hasDictAll, PyData.hasDictAll, PyData.hasDictAll, PyData.hasDict, PyData.hasDict, nod_strs]; rfl
theorem showAll_map {α : Type} (f : α → PyData) (h : ∀ x, (f x).showable = true) : ∀ l : List α, PyData.showableAll (l.map f) = true
  | [] => rfl
  | x :: l => by rw [List.map_cons, PyData.showableAll, showAll_map f h l, h x]; rfl
theorem nodAll_map {α : Type} (f : α → PyData) (h : ∀ x, (f x).hasDict = false) : ∀ l : List α, PyData.hasDictAll (l.map f) = false
  | [] => rfl
  | x :: l => by rw [List.map_cons, PyData.hasDictAll, nodAll_map f h l, h x]; rfl
theorem show_resD (r : Option (List Ltr)) : (resD r).showable = true := by
  cases r with
  | none => rfl
  | some l => show (PyData.list (l.map ltrD)).showable = true; rw [PyData.showable, showAll_map _ show_ltrD]
theorem nod_resD (r : Option (List Ltr)) : (resD r).hasDict = false := by
  cases r with
  | none => rfl
  | some l => show (PyData.list (l.map ltrD)).hasDict = false; rw [PyData.hasDict, nodAll_map _ nod_ltrD]
theorem show_pairD (r : Option (List Ltr)) : (pairD r).showable = true := by
  unfold pairD
  rw [PyData.showable, PyData.showableAll, PyData.showableAll, PyData.showableAll, show_resD]; rfl
theorem nod_pairD (r : Option (List Ltr)) : (pairD r).hasDict = false := by
  unfold pairD
  rw [PyData.hasDict, PyData.hasDictAll, PyData.hasDictAll, PyData.hasDictAll, nod_resD]; rfl
theorem depth_pairD (r : Option (List Ltr)) : (pairD r).depth ≤ 60 := by
  have := depth_resD r
  unfold pairD
  rw [PyData.depth, PyData.depthAll, PyData.depthAll, PyData.depthAll]
  omega
theorem plain_pairD (r : Option (List Ltr)) : (pairD r).plain = true := by
  unfold pairD
  rw [PyData.plain, PyData.plainAll, PyData.plainAll, PyData.plainAll, plain_resD]; rfl
/-- few letters, short ones -/
def FewL (r : Option (List Ltr)) : Prop := ∀ l, r = some l → l.length ≤ 1000 ∧ ∀ x, x ∈ l → isNm x.1 = true ∧ x.2 ∈ sent
theorem nm_short {g : Str} (h : isNm g = true) : (PyData.str g).leavesShort 8 = true ∧ g.cps.size ≤ 8 := by
  unfold isNm at h
  simp only [Bool.and_eq_true, decide_eq_true_eq, List.all_eq_true] at h
  obtain ⟨h1, h2, h3⟩ := h
  refine ⟨?_, ?_⟩
  · rw [PyData.leavesShort]
    refine List.all_eq_true.mpr fun c hc => decide_eq_true ?_
    have hb : ∀ c, c ∈ abcS.cps.toList → c < 16 ^ 8 := by decide +kernel
    exact hb c (h3 c hc)
  · have : g.length = g.cps.size := rfl
    omega
theorem sent_short {l : List Str} (h : l ∈ sent) : (tS l).leavesShort 8 = true ∧ (tS l).bulk ≤ 20 := by
  have hb : ∀ l, l ∈ sent → (tS l).leavesShort 8 = true ∧ (tS l).bulk ≤ 20 := by decide +kernel
  exact hb l h
theorem ltr_short {x : Ltr} (h : isNm x.1 = true ∧ x.2 ∈ sent) : (ltrD x).leavesShort 8 = true ∧ (ltrD x).bulk ≤ 40 := by
  obtain ⟨a1, a2⟩ := nm_short h.1
  obtain ⟨b1, b2⟩ := sent_short h.2
  refine ⟨?_, ?_⟩
  · unfold ltrD
    rw [PyData.leavesShort, PyData.leavesShortAll, PyData.leavesShortAll, PyData.leavesShortAll, a1, b1]; rfl
  · unfold ltrD
    rw [PyData.bulk, PyData.bulkAll, PyData.bulkAll, PyData.bulkAll, PyData.bulk]
    omega
theorem ltrs_short : ∀ {l : List Ltr}, (∀ x, x ∈ l → isNm x.1 = true ∧ x.2 ∈ sent) → PyData.leavesShortAll 8 (l.map ltrD) = true ∧ PyData.bulkAll (l.map ltrD) ≤ 41 * l.length
  | [], _ => ⟨rfl, Nat.zero_le _⟩
  | x :: l, h => by
    obtain ⟨a1, a2⟩ := ltr_short (h x (List.mem_cons_self ..))
    obtain ⟨b1, b2⟩ := ltrs_short (l := l) fun y hy => h y (List.mem_cons_of_mem _ hy)
    refine ⟨?_, ?_⟩
    · rw [List.map_cons, PyData.leavesShortAll, a1, b1]; rfl
    · rw [List.map_cons, PyData.bulkAll, List.length_cons]; omega
theorem pair_shown {r : Option (List Ltr)} (h : FewL r) : (pairD r).shown.length ≤ sizeLine := by
  have res : (resD r).leavesShort 8 = true ∧ (resD r).bulk ≤ 41000 := by
    cases r with
    | none => exact ⟨rfl, Nat.zero_le _⟩
    | some l =>
      obtain ⟨h1, h2⟩ := h l rfl
      obtain ⟨a, b⟩ := ltrs_short h2
      refine ⟨?_, ?_⟩
      · show (PyData.list (l.map ltrD)).leavesShort 8 = true
        rw [PyData.leavesShort]; exact a
      · show (PyData.list (l.map ltrD)).bulk ≤ _
        rw [PyData.bulk]; omega
  have k1 : (pairD r).leavesShort 8 = true := by
    unfold pairD
    rw [PyData.leavesShort, PyData.leavesShortAll, PyData.leavesShortAll, PyData.leavesShortAll, res.1]; rfl
  have k2 : (pairD r).bulk ≤ 82010 := by
    unfold pairD
    rw [PyData.bulk, PyData.bulkAll, PyData.bulkAll, PyData.bulkAll]
    omega
  have k3 := PyData.shown_le_bulk 8 (by decide) (pairD r) k1
  have k4 := smallSz (n := 4000000) (Nat.le_refl _)
  omega
theorem dp_pair {K : PySem.W.Frag} {H : Hp} {a : Addr} {u v : V} {r : Option (List Ltr)} (h : H a = some (.lst [u, v])) (hu : Dp K H u (resD r)) (hv : Dp K H v (resD r)) : Dp K H (.ref a) (pairD r) := .lst (SqL.of h) (.cons hu (.cons hv .nil))
end G
set_option Elab.async false
set_option linter.all false
set_option maxRecDepth 100000
set_option maxHeartbeats 4000000
namespace G
open PySem PySem.Spec PyProof.Rows L2
/-- what stands without a role, and stays -/
def Fr (H0 : Hp) (rl : Rl) (H : Hp) : Prop := ∀ b o, H0 b = some o → H b = some o ∧ rl b = none
theorem Fr.step {H0 : Hp} {rl rl' : Rl} {H H' : Hp} {i : Nat} (f : Fr H0 rl H) (k : Step i rl H rl' H') : Fr H0 rl' H' := fun b o e => by
  obtain ⟨h1, h2⟩ := f b o e
  have nr : ∀ r, rl b ≠ some (i, r) := fun r z => by rw [h2] at z; cases z
  exact ⟨k.keep b o h1 (.inl nr), by rw [k.role b (by rw [h1]; simp) nr]; exact h2⟩
theorem Fr.same {H0 : Hp} {rl : Rl} {H H' : Hp} (f : Fr H0 rl H) (s : Same H H') : Fr H0 rl H' := fun b o e => ⟨s _ _ (f b o e).1, (f b o e).2⟩
/-- all that has no role now -/
def freeH (rl : Rl) (H : Hp) : Hp := fun b => if rl b = none then H b else none
theorem free_fr (rl : Rl) (H : Hp) : Fr (freeH rl H) rl H := fun b o e => by
  unfold freeH at e
  by_cases c : rl b = none
  · rw [if_pos c] at e; exact ⟨e, c⟩
  · rw [if_neg c] at e; cases e
theorem freeH_of {rl : Rl} {H : Hp} {b : Addr} {o : HO} (h : H b = some o) (r : rl b = none) : freeH rl H b = some o := by
  unfold freeH; rw [if_pos r]; exact h
theorem Fr.up {H0 : Hp} {rl rl' : Rl} {H H' : Hp} (f : Fr H0 rl H) (g : Fr (freeH rl H) rl' H') : Fr H0 rl' H' := fun b o e => g b o (freeH_of (f b o e).1 (f b o e).2)
structure RS (K : PySem.W.Frag) (pH pM q p0 : Addr) (rl : Rl) (H : Hp) (b n : Nat) (s : S) (hH hM : HA) (m : MA) (gs : List Ltr) : Prop where
  x : House K 0 rl H pH b s hH
  y : House K 1 rl H pM b s hM
  z : Mine K 2 rl H q b { s with going := gs } m
  pt : Pot 3 rl H p0 n
  good : Good s
theorem cut {te : TE} {σ : L2.St} {H : Hp} {Q : VK} (Pp : VK) (h1 : ∀ x H', Pp x H' → Q x H') (h2 : ∀ R : VK, (∀ x H', Pp x H' → R x H') → te σ H R) : te σ H Q := h2 Q h1
theorem paired_at {α β : Type} {F : α → β → Prop} {l : List α} {m : List β} (p : Paired F l m) : ∀ {i : Nat} {a : α}, l[i]? = some a → ∃ b, m[i]? = some b ∧ F a b := by
  induction p with
  | nil => intro i a h; simp at h
  | cons x t ih =>
    intro i a h
    cases i with
    | zero =>
      have e := Option.some.inj (by simpa using h : some _ = some a)
      subst e
      exact ⟨_, rfl, x⟩
    | succ i => exact ih (by simpa using h)
section
variable {P : Program} {w : World} {K : PySem.W.Frag} {mg : Str → Option Value} {base : Heap}
theorem RS.same {pH pM q p0 : Addr} {rl : Rl} {H H' : Hp} {b n : Nat} {s : S} {hH hM : HA} {m : MA} {gs : List Ltr} (r : RS K pH pM q p0 rl H b n s hH hM m gs) (k : Same H H') : RS K pH pM q p0 rl H' b n s hH hM m gs :=
  ⟨r.x.same k, r.y.same k, r.z.same k, r.pt.same k, r.good⟩

/-! ### _law_right -/
def spRight (K : PySem.W.Frag) : Sp := fun vs H Q _ => ∃ (p0 na : Addr) (n size : Nat) (own : Str) (gs : List Str), vs = [.ref p0, .ref na, .int size] ∧ (∃ a b c : Int, H p0 = some (.lst [.int a, .int b, .int c]) ∧ 0 ≤ b ∧ b < 2 ^ 200 ∧ 0 ≤ c ∧ c ≤ n) ∧ n < 1000 ∧ p0 ≠ na ∧
  H na = some (.lst ((own :: gs).map .str)) ∧ isNm own = true ∧ gs ≠ [] ∧ gs.length ≤ 50 ∧ (∀ g, g ∈ gs → isNm g = true) ∧ ∀ H', Same (hid p0 H) H' → Q (.bl true) H'
abbrev nRight : List Str := ["_law_pot_here", "_law_names_here", "_law_room", "_law_house", "_law_mate", "_law_mine", "_law_whats", "_law_turn", "_law_what_here", "_law_due", "_law_told", "_law_guest"]
theorem sc_right : FnScope nRight ["_law_pot_here", "_law_names_here", "_law_room"] (defScope s_L_right) := ⟨rfl, rfl, rfl, by decide +kernel, rfl, by decide +kernel, by decide +kernel⟩
theorem ok_right (T : Txt K mg) : ∃ fd, FnG P w K mg base 8 (He.fAd K ("_law_right", none)) fd ["_law_pot_here", "_law_names_here", "_law_room"] (spRight K) ∧ Binds K fd ["_law_pot_here", "_law_names_here", "_law_room"] [] ∧ PySem.W.keepIn K (.ref (He.fAd K ("_law_right", none))) = true := by
  obtain ⟨fd1, G1, b1, k1⟩ := (ok_dip (P := P) (w := w) (base := base) T).ex
  obtain ⟨fd2, G2, b2, k2⟩ := (ok_House (P := P) (w := w) (base := base) T).ex
  obtain ⟨fd3, G3, b3, k3⟩ := (ok_Lnew (P := P) (w := w) (base := base) T).ex
  obtain ⟨fd4, G4, b4, k4⟩ := (ok_next (P := P) (w := w) (base := base) T).ex
  obtain ⟨fd5, G5, b5, k5⟩ := (ok_Ldid (P := P) (w := w) (base := base) T).ex
  obtain ⟨fd6, G6, b6, k6⟩ := (ok_done (P := P) (w := w) (base := base) T).ex
  obtain ⟨fd7, G7, b7, k7⟩ := (ok_Lalike (P := P) (w := w) (base := base) T).ex
  obtain ⟨fd8, G8, b8, k8⟩ := (ok_Ltold (P := P) (w := w) (base := base) T).ex
  obtain ⟨fd9, G9, b9, k9⟩ := (ok_awaited (P := P) (w := w) (base := base) T).ex
  obtain ⟨fd10, G10, b10, k10⟩ := (ok_hear (P := P) (w := w) (base := base) T).ex
  obtain ⟨fd, F⟩ := T.f_L_right
  refine ⟨fd, fnG_of F sc_right (fun vs H Q E h => by obtain ⟨_, _, _, _, _, _, rfl, _⟩ := h; rfl) (fun cdv A outer s H vs Q E hgd hr h => ?_), F.bindsN (fun _ _ _ _ _ _ us hl => match us, hl with | [_, _, _], _ => rfl), F.kp⟩
  obtain ⟨p0, na, n, size, own, gs, rfl, hpot, hn, hpn, hna, hown, hgs, hgl, hnm, k⟩ := h
  have hu := hu_of hr
  have hu2 := hr.units
  have nd := sc_right.nd
  have hr1 : Room 1 _ := hr.mono (by decide)
  have hr3 : Room 3 _ := hr.mono (by decide)
  have hr4 : Room 4 _ := hr.mono (by decide)
  have hr5 : Room 5 _ := hr.mono (by decide)
  have hr6 : Room 6 _ := hr.mono (by decide)
  refine ⟨_, (pss_cons (ps_par (by rfl) nd (i := 3) (j := 4) rfl rfl (by decide) rfl rfl (pa_cons (pe_make T.mk_House G2 hr3 (by rfl) T.g_House b2 .nil pass0 (pa_cons (pe_ix ix_list (pv 1) pe_int (fun _ _ => rfl)) (pa_cons (pv 2) pa_nil))) (pa_cons (pe_make T.mk_House G2 hr3 (by rfl) T.g_House b2 .nil pass0 (pa_cons (pe_ix ix_list (pv 1) pe_int (fun _ _ => rfl)) (pa_cons (pv 2) pa_nil))) pa_nil)) (by rfl))
      (pss_cons (ps_set (i := 5) nd rfl (Or.inl rfl) (pe_call G3 hr1 (by rfl) T.g_L_new k3 b3 .nil pass0 (pa_cons (pe_ix ix_list (pv 1) pe_int (fun _ _ => rfl)) (pa_cons (pv 2) pa_nil))))
      (pss_cons (ps_setLc (i := 6) (own := [("_law_guest", 11)]) (g := gName 11) (tt := tTest (tOp (rI0 fun i j => V.bl (decide (i > j))) (tCB (fun xs H_1 Q => ∃ p ys, xs = [V.ref p] ∧ (SqL K H_1 p ys ∨ SqT K H_1 p ys) ∧ Q (V.int ys.length) H_1) (tCons (tVar 1) tNil)) (tC (V.int 20)))) (te := tTup (tCons (tC (V.str "put")) (tCons (tVar 11) (tCons (tC (V.int 0)) tNil)))) rfl nd rfl rfl (sw_true rfl rfl rfl (by decide +kernel)) (pi_list (pe_slice sl_list (pv 1) (po_some pe_int) po_none)) (blkOk_by (N := nRight) (sc := defScope s_L_right) (by decide +kernel))
        (fun _ _ _ _ _ => pg_name (i := 11) nd rfl (Or.inl rfl)) (fun _ _ _ _ _ => pts_one (pt_cmpR op_gt (pe_callB call_len_seq (by rfl) T.n_len PySem.boot_len (pa_cons (pv 1) pa_nil)) pe_int (nomark _))) (fun _ _ _ _ _ => pe_tup (pa_cons (pe_str) (pa_cons (pv 11) (pa_cons (pe_int) pa_nil)))))
      (pss_cons (ps_for PassesOwn.never rfl (pi_range1 (by rfl) T.n_range (pa_cons (pe_op op_add (pe_callB call_len_seq (by rfl) T.n_len PySem.boot_len (pa_cons (pv 6) pa_nil)) (pe_call G1 hr1 (by rfl) T.g_L_dip k1 b1 .nil pass0 (pa_cons (pv 0) (pa_cons (pe_ix ix_list (pe_lst (pa_cons (pe_int) (pa_cons (pe_int) pa_nil))) (pe_callTy call_int1 (by rfl) T.n_int (by decide +kernel) (pa_cons (pe_cmpR op_gt (pe_callB call_len_seq (by rfl) T.n_len PySem.boot_len (pa_cons (pv 1) pa_nil)) pe_int (nomark _)) pa_nil)) (fun _ _ => rfl)) pa_nil)))) pa_nil)) (pg_name (i := 7) nd rfl (Or.inl rfl)) (pss_cons (ps_set (i := 8) nd rfl (Or.inl rfl) (pe_ifExp (pt_cmpR op_lt (pv 7) (pe_callB call_len_seq (by rfl) T.n_len PySem.boot_len (pa_cons (pv 6) pa_nil)) (nomark _)) (pe_ix ix_list (pv 6) (pv 7) (fun _ _ => rfl)) (pe_call G4 hr5 (by rfl) T.g_L_next k4 b4 .nil pass0 (pa_cons (pv 0) (pa_cons (pv 3) (pa_cons (pv 1) pa_nil))))))
      (pss_cons (ps_set (i := 9) nd rfl (Or.inl rfl) (pe_call G5 hr5 (by rfl) T.g_L_did k5 b5 .nil pass0 (pa_cons (pv 5) (pa_cons (pv 8) pa_nil))))
      (pss_cons (ps_set (i := 10) nd rfl (Or.inl rfl) (pe_lst (pa_cons (pe_call G6 hr (by rfl) T.g_L_done k6 b6 .nil pass0 (pa_cons (pv 3) (pa_cons (pv 8) pa_nil))) (pa_cons (pe_call G6 hr (by rfl) T.g_L_done k6 b6 .nil pass0 (pa_cons (pv 4) (pa_cons (pv 8) pa_nil))) pa_nil))))
      (pss_cons (ps_if (PW.pt (pw_or (pt_cmpR op_ne (pe_callB (call_repr_data hgd hu2) (by rfl) T.n_repr (by decide +kernel) (pa_cons (pv 10) pa_nil)) (pe_callB (call_repr_data hgd hu2) (by rfl) T.n_repr (by decide +kernel) (pa_cons (pe_lst (pa_cons (pv 9) (pa_cons (pv 9) pa_nil))) pa_nil)) (nomark _)) (pw_or1 (pt_not (pt_val (pe_call G7 hr4 (by rfl) T.g_L_alike k7 b7 .nil pass0 (pa_cons (pv 3) (pa_cons (pv 5) pa_nil)))))))) (pss_one (ps_ret pe_bl)) pss_nil)
      (pss_one (ps_if (PW.pt (pw_and (pt_cmpR op_eq (pe_op op_mod (pv 7) (pe_ix ix_list (pe_lst (pa_cons (pe_int) (pa_cons (pe_int) pa_nil))) (pe_callTy call_int1 (by rfl) T.n_int (by decide +kernel) (pa_cons (pe_cmpR op_gt (pe_callB call_len_seq (by rfl) T.n_len PySem.boot_len (pa_cons (pv 1) pa_nil)) pe_int (nomark _)) pa_nil)) (fun _ _ => rfl))) pe_int (nomark _)) (pw_and1 (pt_not (pt_val (pe_call G8 hr4 (by rfl) T.g_L_told_alike k8 b8 .nil pass0 (pa_cons (pv 3) (pa_cons (pv 5) pa_nil)))))))) (pss_one (ps_ret pe_bl)) pss_nil)))))))
      (pss_cons (ps_while PassesOwn.never (pt_cmpR (op_neP hu2) (pe_meth0 (pv 3) T.cls_House T.m_awaited G9 hr1 b9 .nil pass0) (pe_lst pa_nil) (nomark _)) (pss_cons (ps_set (i := 8) nd rfl (Or.inl rfl) (pe_tup (pa_cons (pe_str) (pa_cons (pe_ix ix_list (pe_meth0 (pv 3) T.cls_House T.m_awaited G9 hr1 b9 .nil pass0) pe_int (fun _ _ => rfl)) (pa_cons (pe_tup (pa_cons (pe_str) pa_nil)) pa_nil)))))
      (pss_cons (ps_set (i := 10) nd rfl (Or.inl rfl) (pe_meth (pv 3) T.cls_House T.m_hear G10 hr6 b10 .nil (passes_call (E := E0) takes0 fun _ _ _ _ h => h) (pa_cons (pe_ix ix_tup (pv 8) pe_int (fun _ _ => rfl)) (pa_cons (pe_ix ix_tup (pv 8) pe_int (fun _ _ => rfl)) pa_nil))))
      (pss_one (ps_if (PW.pt (pw_or (pt_cmpR (op_neP hu2) (pv 10) (pe_call G5 hr5 (by rfl) T.g_L_did k5 b5 .nil pass0 (pa_cons (pv 5) (pa_cons (pv 8) pa_nil))) (nomark _)) (pw_or1 (pt_not (pt_val (pe_call G7 hr4 (by rfl) T.g_L_alike k7 b7 .nil pass0 (pa_cons (pv 3) (pa_cons (pv 5) pa_nil)))))))) (pss_one (ps_ret pe_bl)) pss_nil)))))
      (pss_one (ps_ret (pe_call G8 hr4 (by rfl) T.g_L_told_alike k8 b8 .nil pass0 (pa_cons (pv 3) (pa_cons (pv 5) pa_nil)))))))))), ?_⟩
  obtain ⟨pa, pb, pc, hp0, pB⟩ := hpot
  have cutE : cutV ((own :: gs).map V.str) (some 1) none = gs.map V.str := by
    have := cut_from ((own :: gs).map V.str) 1
    rw [show ((1 : Nat) : Int) = 1 from rfl] at this
    rw [this]; rfl
  -- the start
  have f0 : Fr (hid p0 H) (fun a => if a = p0 then some (3, R.self) else none) H := fun b o e => by
    by_cases c : b = p0
    · rw [show hid p0 H b = none from if_pos c] at e; cases e
    · rw [hid_ne c] at e; exact ⟨e, if_neg c⟩
  have pt0 : Pot 3 (fun a => if a = p0 then some (3, R.self) else none) H p0 n := ⟨pa, pb, pc, ⟨if_pos rfl, hp0⟩, pB⟩
  generalize (fun a => if a = p0 then some (3, R.self) else none : Rl) = rl0 at f0 pt0
  have hna0 : hid p0 H na = some (.lst ((own :: gs).map .str)) := by rw [hid_ne hpn.symm]; exact hna
  -- the house
  refine ⟨_, rfl, na, _, _, V.str own, rfl, rfl, SqL.of hna, atI_nat (j := 0) rfl, _, rfl, fun pH dH hpH hdH ndH => ?_⟩
  have tA : Step 0 rl0 H (setR rl0 pH (some (0, R.self))) (upd (upd H dH (.own pH)) pH (.ins (CH K) dH [])) := (Step.same (same_upd hdH)).trans (Step.own (by rw [upd_ne ndH.symm]; exact hpH))
  refine ⟨0, setR rl0 pH (some (0, R.self)), pH, dH, own, size, rfl, ⟨setR_same, upd_same⟩, hown, nm_len hown, fun rl1 H1 hH t1 x1 => ⟨rfl, ?_⟩⟩
  have u1 := tA.trans t1
  have f1 := f0.step u1
  have pt1 : Pot 3 rl1 H1 p0 n := by obtain ⟨a, b, c, e, z⟩ := pt0; exact ⟨a, b, c, e.step u1 (by decide), z⟩
  -- the mate
  refine ⟨_, rfl, na, _, _, V.str own, rfl, rfl, SqL.of (f1 _ _ hna0).1, atI_nat (j := 0) rfl, _, rfl, fun pM dM hpM hdM ndM => ?_⟩
  have tB : Step 1 rl1 H1 (setR rl1 pM (some (1, R.self))) (upd (upd H1 dM (.own pM)) pM (.ins (CH K) dM [])) := (Step.same (same_upd hdM)).trans (Step.own (by rw [upd_ne ndM.symm]; exact hpM))
  refine ⟨1, setR rl1 pM (some (1, R.self)), pM, dM, own, size, rfl, ⟨setR_same, upd_same⟩, hown, nm_len hown, fun rl2 H2 hM t2 y2 => ⟨rfl, _, _, rfl, ?_⟩⟩
  have u2 := tB.trans t2
  have f2 := f1.step u2
  have x2 := x1.step u2 (by decide)
  have pt2 : Pot 3 rl2 H2 p0 n := by obtain ⟨a, b, c, e, z⟩ := pt1; exact ⟨a, b, c, e.step u2 (by decide), z⟩
  -- the law's own
  refine ⟨_, rfl, na, _, _, V.str own, rfl, rfl, SqL.of (f2 _ _ hna0).1, atI_nat (j := 0) rfl, _, rfl, 2, rl2, own, size, rfl, fun rl3 H3 q m t3 z3 _ => ?_⟩
  have f3 := f2.step t3
  have x3 := x2.step t3 (by decide)
  have y3 := y2.step t3 (by decide)
  have pt3 : Pot 3 rl3 H3 p0 n := by obtain ⟨a, b, c, e, z⟩ := pt2; exact ⟨a, b, c, e.step t3 (by decide), z⟩
  have r3 : RS K pH pM q p0 rl3 H3 0 n (S.new own size) hH hM m [] := ⟨x3, y3, z3, pt3, new_good own size⟩
  clear x1 x2 y2 x3 y3 z3 pt0 pt1 pt2 pt3 tA tB t1 t2 t3 u1 u2 f0 f1 f2
  -- what comes first
  refine ⟨_, rfl, _, rfl, na, _, rfl, SqL.of (f3 _ _ hna0).1, fun Sl hS => ?_⟩
  rw [cutE]
  refine ⟨Sl, rfl, ⟨_, SqL.of upd_same⟩, fun D hD => ?_⟩
  have sS := same_upd (o := HO.lst (gs.map V.str)) hS
  have eS : upd H3 Sl (.lst (gs.map V.str)) Sl = some (.lst (gs.map V.str)) := upd_same
  generalize upd H3 Sl (.lst (gs.map V.str)) = H4 at sS eS hD ⊢
  have r4 := r3.same sS
  have f4 := f3.same sS
  obtain ⟨big, hbig⟩ : ∃ big : Bool, big = decide ((own :: gs).length > 20) := ⟨_, rfl⟩
  have hbigE : ∀ H', Same H4 H' → True := fun _ _ => trivial
  refine lc_list (K := K) (a := Sl) (xs := gs.map V.str) (fun j H5 => Same H4 H5 ∧ ∃ ts, H5 D = some (.lst ts) ∧ Paired (fun g v => ∃ t, v = V.ref t ∧ H5 t = some (.tup [V.str "put", V.str g, V.int 0])) (if big then gs.take j else []) ts) ⟨same_upd hD, [], upd_same, ?_⟩ (fun j H5 _ ⟨s5, _⟩ => SqL.of (s5 _ _ eS)) ?_ ?_
  · cases big <;> exact .nil
  · rintro j v H5 hj ⟨s5, ts, e5, p5⟩
    rw [List.getElem?_map] at hj
    obtain ⟨g, hg, rfl⟩ := Option.map_eq_some_iff.mp hj
    have hjl : j < gs.length := (List.getElem?_eq_some_iff.mp hg).1
    have f5 := f4.same s5
    refine ⟨rfl, _, rfl, na, _, rfl, .inl (SqL.of (f5 _ _ hna0).1), _, _, rfl, rfl, _, rfl, ?_⟩
    rw [List.length_map]
    have eb : decide ((((own :: gs).length : Nat) : Int) > 20) = big := by
      rw [hbig]
      exact decide_eq_decide.mpr ⟨fun z => by omega, fun z => by omega⟩
    rw [eb]
    cases big with
    | false => exact iteF ⟨s5, ts, e5, p5⟩
    | true =>
      refine iteT ⟨_, rfl, (by show 3 ≤ sizeLine; decide), fun t ht => ?_⟩
      have st := same_upd (o := HO.tup [V.str "put", V.str g, V.int 0]) ht
      have ntD : t ≠ D := fun e => by rw [e, e5] at ht; cases ht
      have lts := paired_length p5
      have ltk := List.length_take_le j gs
      refine ⟨ts, st _ _ e5, ?_, same_side (s5.trans st) hD, ts ++ [V.ref t], upd_same, ?_⟩
      · rw [lts, if_pos rfl]; exact lim_lt (b := 50) (by omega) (by decide)
      · rw [if_pos rfl] at p5 ⊢
        rw [take_succ_at hg]
        refine paired_snoc (L2.Paired.mapP p5 fun g' v' z => ?_) ⟨t, rfl, by rw [upd_ne ntD]; exact upd_same⟩
        obtain ⟨t', e1, e2⟩ := z
        refine ⟨t', e1, ?_⟩
        rw [upd_ne fun e => by rw [e, e5] at e2; cases e2]
        exact st _ _ e2
  rintro H5 ⟨s5, ts, e5, p5⟩
  rw [List.length_map, List.take_length] at p5
  have lts := paired_length p5
  obtain ⟨whs, hwhs⟩ : ∃ whs : List Str, whs = if big then gs else [] := ⟨_, rfl⟩
  rw [← hwhs] at p5 lts
  have hwn : ∀ g, g ∈ whs → isNm g = true := fun g hg => by
    rw [hwhs] at hg
    cases big with
    | true => exact hnm g hg
    | false => cases hg
  have hwl : whs.length ≤ 50 := by
    rw [hwhs]
    cases big with
    | true => exact hgl
    | false => exact Nat.zero_le _
  -- all that stays
  have r5 : RS K pH pM q p0 (setR rl3 D none) H5 0 n (S.new own size) hH hM m [] := ⟨r4.x.tr (fun _ _ _ z => (z.role hD).same s5) (sameTk s5), r4.y.tr (fun _ _ _ z => (z.role hD).same s5) (sameTk s5), r4.z.tr (fun _ _ _ z => (z.role hD).same s5) (sameTk s5), by obtain ⟨a, b, c, e, z⟩ := r4.pt; exact ⟨a, b, c, (e.role hD).same s5, z⟩, r4.good⟩
  have f5 : Fr (hid p0 H) (setR rl3 D none) H5 := fun b o e => by
    obtain ⟨z1, z2⟩ := f4 b o e
    exact ⟨s5 _ _ z1, by rw [setR_ne (ne_of_none z1 hD)]; exact z2⟩
  have rD : setR rl3 D none D = none := setR_same
  generalize setR rl3 D none = rl5 at r5 f5 rD
  clear r3 r4 f3 f4 sS eS
  have hnaB := freeH_of (f5 _ _ hna0).1 (f5 _ _ hna0).2
  have hDB := freeH_of e5 rD
  have fB := free_fr rl5 H5
  have len20 : ∀ (H' : Hp) (rl' : Rl), Fr (freeH rl5 H5) rl' H' → H' na = some (.lst ((own :: gs).map .str)) ∧ rl' na = none ∧ H' D = some (.lst ts) ∧ rl' D = none := fun H' rl' f => ⟨(f _ _ hnaB).1, (f _ _ hnaB).2, (f _ _ hDB).1, (f _ _ hDB).2⟩
  have eb : decide ((((own :: gs).length : Nat) : Int) > 20) = big := by
    rw [hbig]
    exact decide_eq_decide.mpr ⟨fun z => by omega, fun z => by omega⟩
  -- how many turns
  refine ⟨_, rfl, D, _, rfl, .inl (SqL.of e5), _, rfl, (by show 2 ≤ sizeLine; decide), fun L1 hL1 => ?_⟩
  have sL := same_upd (o := HO.lst [V.int 101, V.int 41]) hL1
  refine ⟨_, rfl, na, _, rfl, .inl (SqL.of (sL _ _ (len20 H5 rl5 fB).1)), _, _, rfl, rfl, .inr ⟨_, rfl, ?_⟩⟩
  rw [List.length_map, eb]
  have ix1 : ∀ bb : Bool, ∃ M : Nat, 0 < M ∧ M ≤ 101 ∧ atI ([V.int 101, V.int 41] : List V) (if bb = true then 1 else 0 : Int) = some (.int M) := fun bb => by
    cases bb with
    | true => exact ⟨41, by decide, by decide, rfl⟩
    | false => exact ⟨101, by decide, by decide, rfl⟩
  have ix2 : ∀ bb : Bool, ∃ M : Nat, 0 < M ∧ atI ([V.int 4, V.int 40] : List V) (if bb = true then 1 else 0 : Int) = some (.int M) := fun bb => by
    cases bb with
    | true => exact ⟨40, by decide, rfl⟩
    | false => exact ⟨4, by decide, rfl⟩
  obtain ⟨M, hM0, hM1, hM2⟩ := ix1 big
  refine ⟨L1, _, _, V.int M, rfl, rfl, SqL.of upd_same, hM2, 3, rl5, p0, n, M, rfl, r5.pt.same sL, by omega, hM0, by omega, fun H6 r hrM t6 pt6 => ?_⟩
  have u6 := (Step.same sL : Step 3 rl5 H5 rl5 _).trans t6
  have r6 : RS K pH pM q p0 rl5 H6 0 (n + 1) (S.new own size) hH hM m [] := ⟨r5.x.step u6 (by decide), r5.y.step u6 (by decide), r5.z.step u6 (by decide), pt6, r5.good⟩
  have f6 := fB.step u6
  have k6 := u6.tk
  clear r5 u6 t6 pt6
  refine ⟨_, _, rfl, rfl, _, rfl, by omega, by omega, ?_⟩
  refine for_range (lo := 0) (n := ts.length + r) (fun j σ H7 => ∃ (rl7 : Rl) (b : Nat) (s : S) (hH : HA) (hM : HA) (m : MA) (gl : List Ltr) (v7 v8 v9 v10 : Option V), σ = [some (.ref p0), some (.ref na), some (.int size), some (.ref pH), some (.ref pM), some (.ref q), some (.ref D), v7, v8, v9, v10, none] ∧
      RS K pH pM q p0 rl7 H7 b (n + 1 + 12 * j) s hH hM m gl ∧ Fr (freeH rl5 H5) rl7 H7 ∧ TK H5 H7 ∧ s.line.length ≤ j ∧ b ≤ 2000 * j) ⟨rl5, 0, _, hH, hM, m, [], none, none, none, none, rfl, r6, f6, k6, Nat.zero_le _, Nat.zero_le _⟩ ?_ ?_
  · rintro j σ H7 hj ⟨rl7, b, s, hH, hM, m, gl, v7, v8, v9, v10, rfl, r7, f7, k7, hsl, hbj⟩
    have hj2 : j ≤ 150 := by omega
    rw [show (0 : Int) + (j : Int) = (j : Int) from Int.zero_add _]
    have hcD : costD s = 9 * s.line.length + 40 := rfl
    have hcS : cost s = 6 * s.line.length + 20 := rfl
    show tIf _ _ _ _ _ _
    refine cut (fun x H8 => ∃ wa wh rl8, x = V.ref wa ∧ RS K pH pM q p0 rl8 H8 b (n + 1 + 12 * (j + 1)) s hH hM m gl ∧ Fr (freeH rl5 H5) rl8 H8 ∧ TK H5 H8 ∧ WhatV H8 wa wh ∧ WhatOk s wh) ?_ ?_
    case refine_2 =>
      intro R hR
      obtain ⟨a1, a2, a3, a4⟩ := len20 H7 rl7 f7
      refine ⟨_, rfl, _, rfl, D, _, rfl, .inl (SqL.of a3), _, _, rfl, rfl, _, rfl, ?_⟩
      by_cases c : j < ts.length
      · rw [decide_eq_true (show ((j : Nat) : Int) < (ts.length : Int) by omega)]
        have hjw : j < whs.length := by rw [← lts]; exact c
        obtain ⟨v, hv, t, e1, e2⟩ := paired_at p5 (List.getElem?_eq_getElem hjw)
        subst e1
        refine iteT ⟨_, rfl, _, rfl, D, _, _, V.ref t, rfl, rfl, SqL.of a3, atI_nat hv, ?_⟩
        exact hR _ _ ⟨t, .put (whs[j]'hjw) 0, rl7, rfl, ⟨r7.x, r7.y, r7.z, r7.pt.mono (by omega), r7.good⟩, f7, k7, ⟨k7 _ _ e2, Nat.zero_le _⟩, hwn _ (List.getElem_mem hjw)⟩
      · rw [decide_eq_false (show ¬ ((j : Nat) : Int) < (ts.length : Int) by omega)]
        refine iteF ⟨_, rfl, _, rfl, _, rfl, 0, 3, rl7, p0, pH, na, n + 1 + 12 * j, b, s, hH, own, gs, rfl, r7.pt, r7.x, by decide, a1, a2, hgs, by omega, hnm, by omega, by omega, fun rl8 H8 wa wh t8 pt8 hw ho => ?_⟩
        exact hR _ _ ⟨wa, wh, rl8, rfl, ⟨r7.x.step t8 (by decide), r7.y.step t8 (by decide), r7.z.step t8 (by decide), pt8.mono (by omega), r7.good⟩, f7.step t8, k7.trans t8.tk, hw, ho⟩
    rintro x H8 ⟨wa, wh, rl8, rfl, r8, f8, k8, hw8, ho⟩
    -- what is due
    show tAsg (tCall (spLDid K) [] E0 (tCons (tVar 5) (tCons (tVar 8) tNil))) (gName 9) _ _ _
    show tCall (spLDid K) [] E0 (tCons (tVar 5) (tCons (tVar 8) tNil)) _ _ _
    refine cut (fun x H9 => ∃ rl9 m9 s9 gl9 rr, House K 0 rl9 H9 pH b s hH ∧ House K 1 rl9 H9 pM b s hM ∧ Mine K 2 rl9 H9 q (b + costD s) { s9 with going := gl9 } m9 ∧ Pot 3 rl9 H9 p0 (n + 1 + 12 * (j + 1)) ∧ Fr (freeH rl5 H5) rl9 H9 ∧ TK H5 H9 ∧ WhatV H9 wa wh ∧ Good s9 ∧ s9.line.length ≤ j + 1 ∧ FewL rr ∧
      ((act s wh = none ∧ s9 = s ∧ rr = none ∧ x = .non) ∨ ∃ s', act s wh = some s' ∧ s9 = (gone s').1 ∧ gl9 = (G.deal s').going ∧ rr = some gl9 ∧ x = .ref m9.ou)) ?_ ?_
    case refine_2 =>
      intro R hR
      refine ⟨_, rfl, _, rfl, 2, rl8, q, b, s, m, gl, wa, wh, rfl, r8.z, r8.good.go, hw8, by unfold Lim; omega, r8.good.old, r8.good.nd, r8.good.aw, r8.good.calm, fun e rl9 H9 m9 t9 z9 => ?_, fun s' e rl9 H9 m9 t9 z9 => ?_⟩
      · have pt9 : Pot 3 rl9 H9 p0 (n + 1 + 12 * (j + 1)) := by obtain ⟨a, b, c, e, z⟩ := r8.pt; exact ⟨a, b, c, e.step t9 (by decide), z⟩
        have es : ({ s with going := [] } : S) = s := by rw [← r8.good.go]
        exact hR _ _ ⟨rl9, m9, s, [], none, r8.x.step t9 (by decide), r8.y.step t9 (by decide), by rw [es]; exact z9, pt9, f8.step t9, k8.trans t9.tk, hw8.tk t9.tk, r8.good, by omega, (fun l h => by cases h), .inl ⟨e, rfl, rfl, rfl⟩⟩
      · have pt9 : Pot 3 rl9 H9 p0 (n + 1 + 12 * (j + 1)) := by obtain ⟨a, b, c, e, z⟩ := r8.pt; exact ⟨a, b, c, e.step t9 (by decide), z⟩
        have ed : deed s wh = some ((gone s').1, (G.deal s').going) := by unfold deed; rw [e]; rfl
        obtain ⟨hl1, hl2⟩ := deed_LG r8.good ho ed
        have hal := act_len e
        refine hR _ _ ⟨rl9, m9, (gone s').1, (G.deal s').going, some (G.deal s').going, r8.x.step t9 (by decide), r8.y.step t9 (by decide), z9, pt9, f8.step t9, k8.trans t9.tk, hw8.tk t9.tk, deed_good r8.good ho ed, by rw [gone_line]; omega, (fun l h => ?_), .inr ⟨s', e, rfl, rfl, rfl, rfl⟩⟩
        cases h
        exact ⟨by omega, hl2⟩
    rintro vd H9 ⟨rl9, m9, s9, gl9, rr, x9, y9, z9, pt9, f9, k9, hw9, good9, hl9, few9, hres⟩
    have gS := r8.good
    clear r8 f8 k8 hw8 r7 f7 k7
    show tAsg (tLst (tCons (tCall (spDone K) [] E0 (tCons (tVar 3) (tCons (tVar 8) tNil))) (tCons (tCall (spDone K) [] E0 (tCons (tVar 4) (tCons (tVar 8) tNil))) tNil))) (gName 10) _ _ _
    show tLst (tCons (tCall (spDone K) [] E0 (tCons (tVar 3) (tCons (tVar 8) tNil))) (tCons (tCall (spDone K) [] E0 (tCons (tVar 4) (tCons (tVar 8) tNil))) tNil)) _ _ _
    refine cut (fun x H10 => ∃ TL rl10 hH10 hM10, x = V.ref TL ∧ RS K pH pM q p0 rl10 H10 (b + costD s) (n + 1 + 12 * (j + 1)) s9 hH10 hM10 m9 gl9 ∧ Fr (freeH rl5 H5) rl10 H10 ∧ TK H5 H10 ∧ Dp K H10 (.ref TL) (pairD rr) ∧ Dp K H10 vd (resD rr)) ?_ ?_
    case refine_2 =>
      intro R hR
      rcases hres with ⟨ea, e1, rfl, rfl⟩ | ⟨s', ea, e1, rfl, rfl, rfl⟩
      · have ed : deed s wh = none := by unfold deed; rw [ea]; rfl
        refine ⟨_, rfl, _, rfl, 0, rl9, pH, b, s, hH, wa, wh, rfl, x9, hw9, ho, gS.nd, by unfold Lim; omega, ⟨fun _ Ha sa => ?_, fun s' l e => by rw [ed] at e; cases e⟩⟩
        refine ⟨_, rfl, _, rfl, 1, rl9, pM, b, s, hM, wa, wh, rfl, y9.same sa, hw9.tk (sameTk sa), ho, gS.nd, by unfold Lim; omega, ⟨fun _ Hb sb => ?_, fun s' l e => by rw [ed] at e; cases e⟩⟩
        refine ⟨(by show 2 ≤ sizeLine; decide), fun TL hTL => ?_⟩
        have ss := (sa.trans sb).trans (same_upd (o := HO.lst [V.non, V.non]) hTL)
        have x10 := (x9.same ss).mono (show b ≤ b + costD s by omega)
        have y10 := (y9.same ss).mono (show b ≤ b + costD s by omega)
        rw [← e1] at x10 y10
        exact hR _ _ ⟨TL, rl9, hH, hM, rfl, ⟨by rw [e1] at x10 ⊢; exact x10, by rw [e1] at y10 ⊢; exact y10, z9.same ss, pt9.same ss, good9⟩, f9.same ss, k9.trans (sameTk ss), dp_pair upd_same .non .non, .non⟩
      · have ed : deed s wh = some ((gone s').1, (G.deal s').going) := by unfold deed; rw [ea]; rfl
        refine ⟨_, rfl, _, rfl, 0, rl9, pH, b, s, hH, wa, wh, rfl, x9, hw9, ho, gS.nd, by unfold Lim; omega, ⟨fun e => (by rw [ed] at e; cases e), fun s2 l e rla Ha ha aa va ta xa ra hva pva => ?_⟩⟩
        rw [ed] at e
        cases e
        refine ⟨_, rfl, _, rfl, 1, rla, pM, b, s, hM, wa, wh, rfl, y9.step ta (by decide), hw9.tk ta.tk, ho, gS.nd, by unfold Lim; omega, ⟨fun e => (by rw [ed] at e; cases e), fun s2 l e rlb Hb hb ab vb tb xb rb hvb pvb => ?_⟩⟩
        rw [ed] at e
        cases e
        refine ⟨(by show 2 ≤ sizeLine; decide), fun TL hTL => ?_⟩
        have sc := same_upd (o := HO.lst [V.ref aa, V.ref ab]) hTL
        have hva2 := sc _ _ (tb.keep _ _ hva (.inl fun r z => by rw [ra] at z; cases z))
        have pva2 : Paired (LtrV K (upd Hb TL (.lst [V.ref aa, V.ref ab]))) (G.deal s').going va := L2.Paired.mapP pva fun _ _ z => (z.tk tb.tk).tk (sameTk sc)
        have pvb2 : Paired (LtrV K (upd Hb TL (.lst [V.ref aa, V.ref ab]))) (G.deal s').going vb := L2.Paired.mapP pvb fun _ _ z => z.tk (sameTk sc)
        have zz := ((z9.step ta (by decide)).step tb (by decide)).same sc
        have ptz : Pot 3 rlb (upd Hb TL (.lst [V.ref aa, V.ref ab])) p0 (n + 1 + 12 * (j + 1)) := by obtain ⟨a, b, c, e, z⟩ := pt9; exact ⟨a, b, c, ((e.step ta (by decide)).step tb (by decide)).same sc, z⟩
        have xx := ((xa.step tb (by decide)).same sc).mono (show b + cost s ≤ b + costD s by omega)
        have yy := (xb.same sc).mono (show b + cost s ≤ b + costD s by omega)
        exact hR _ _ ⟨TL, rlb, ha, hb, rfl, ⟨by rw [e1]; exact xx, by rw [e1]; exact yy, zz, ptz, good9⟩, ((f9.step ta).step tb).same sc, ((k9.trans ta.tk).trans tb.tk).trans (sameTk sc),
          dp_pair upd_same (.lst (SqL.of hva2) (dp_ltrs pva2)) (.lst (SqL.of (sc _ _ hvb)) (dp_ltrs pvb2)), .lst (SqL.of zz.ou.h) (dp_ltrs zz.ov)⟩
    rintro xT H10 ⟨TL, rl10, hH10, hM10, rfl, r10, f10, k10, dT, dV⟩
    clear hres x9 y9 z9 pt9 f9 k9 hw9
    have hB : b + costD s ≤ Lim := by unfold Lim; omega
    have hBj : b + costD s ≤ 2000 * (j + 1) := by omega
    generalize b + costD s = B at r10 hB hBj
    have condA : ∀ g, g ∈ s9.line → isNm g = true ∧ ((s9.pl g).source ≠ none → (s9.pl g).opened = true) := fun g hg => ⟨good9.nm g hg, good9.src g hg⟩
    have condT : ∀ g, g ∈ s9.line → isNm g = true ∧ okMark (s9.pl g).mark := fun g hg => ⟨good9.nm g hg, good9.okMark hg⟩
    refine ⟨_, rfl, TL, pairD rr, rfl, dT, show_pairD rr, nod_pairD rr, depth_pairD rr, pair_shown few9, _, rfl, _, rfl, (by show 2 ≤ sizeLine; decide), fun DL hDL => ?_⟩
    have sd := same_upd (o := HO.lst [vd, vd]) hDL
    have r11 := r10.same sd
    have f11 := f10.same sd
    have k11 := k10.trans (sameTk sd)
    refine ⟨DL, pairD rr, rfl, dp_pair upd_same (dp_same sd _ _ dV) (dp_same sd _ _ dV), show_pairD rr, nod_pairD rr, depth_pairD rr, pair_shown few9, rfl, _, rfl, ?_⟩
    rw [decide_eq_true rfl]
    generalize upd H10 DL (.lst [vd, vd]) = H11 at r11 f11 k11 ⊢
    refine iteF ⟨_, rfl, _, rfl, 0, 2, rl10, pH, q, B, s9, hH10, m9, gl9, rfl, r11.x, r11.z, hB, condA, fun H12 s12 => ⟨_, rfl, iteF ?_⟩⟩
    have r12 := r11.same s12
    have f12 := f11.same s12
    have k12 := k11.trans (sameTk s12)
    have nxt : ∀ H', Same H12 H' → ∀ (v7' v8' v9' v10' : Option V), ∃ (rl7 : Rl) (b : Nat) (s : S) (hH : HA) (hM : HA) (m : MA) (gl : List Ltr) (v7 v8 v9 v10 : Option V), ([some (.ref p0), some (.ref na), some (.int size), some (.ref pH), some (.ref pM), some (.ref q), some (.ref D), v7', v8', v9', v10', none] : L2.St) = [some (.ref p0), some (.ref na), some (.int size), some (.ref pH), some (.ref pM), some (.ref q), some (.ref D), v7, v8, v9, v10, none] ∧
        RS K pH pM q p0 rl7 H' b (n + 1 + 12 * (j + 1)) s hH hM m gl ∧ Fr (freeH rl5 H5) rl7 H' ∧ TK H5 H' ∧ s.line.length ≤ j + 1 ∧ b ≤ 2000 * (j + 1) := fun H' s' v7' v8' v9' v10' =>
      ⟨rl10, B, s9, hH10, hM10, m9, gl9, v7', v8', v9', v10', rfl, r12.same s', f12.same s', k12.trans (sameTk s'), hl9, hBj⟩
    refine ⟨_, rfl, (by show 2 ≤ sizeLine; decide), fun L2 hL2 => ?_⟩
    have sl := same_upd (o := HO.lst [V.int 4, V.int 40]) hL2
    refine ⟨_, rfl, na, _, rfl, .inl (SqL.of (sl _ _ (len20 H12 rl10 f12).1)), _, _, rfl, rfl, .inr ⟨_, rfl, ?_⟩⟩
    rw [List.length_map, eb]
    obtain ⟨M2, hM20, hM2'⟩ := ix2 big
    refine ⟨L2, _, _, V.int M2, rfl, rfl, SqL.of upd_same, hM2', _, _, rfl, rfl, by show (0 : Int) < (M2 : Int); omega, rfl, _, rfl, ?_⟩
    have r13 := r12.same sl
    generalize decide (V.int (((j : Nat) : Int) % ((M2 : Nat) : Int)) = V.int 3) = bb
    cases bb with
    | false => exact iteF (iteF (nxt _ sl _ _ _ _))
    | true => exact iteT ⟨_, rfl, _, rfl, 0, 2, rl10, pH, q, B, s9, hH10, m9, gl9, rfl, r13.x, r13.z, hB, condT, fun H14 s14 => ⟨_, rfl, iteF (nxt _ (sl.trans s14) _ _ _ _)⟩⟩
  · rintro σ H7 ⟨rl7, b, s, hH, hM, m, gl, v7, v8, v9, v10, rfl, r7, f7, k7, hsl, hbj⟩
    have hM1' : ts.length + r ≤ 151 := by omega
    -- the answers that are awaited
    refine ⟨fun n1 σ H8 => ∃ (rl8 : Rl) (b : Nat) (s : G.S) (hH : HA) (m : MA) (gl : List Ltr) (v7 v8 v9 v10 : Option V), σ = [some (.ref p0), some (.ref na), some (.int size), some (.ref pH), some (.ref pM), some (.ref q), some (.ref D), v7, v8, v9, v10, none] ∧
      House K 0 rl8 H8 pH b s hH ∧ Mine K 2 rl8 H8 q b { s with going := gl } m ∧ Good s ∧ Fr (freeH rl5 H5) rl8 H8 ∧ (awaitedL s).length = n1 ∧ s.line.length ≤ 151 ∧ b + 2000 * n1 ≤ 700000, ⟨(awaitedL s).length, rl7, b, s, hH, m, gl, v7, v8, v9, v10, rfl, r7.x, r7.z, r7.good, f7, rfl, by omega, ?_⟩, ?_⟩
    · have : (awaitedL s).length ≤ s.line.length := List.length_filter_le _ _
      omega
    clear r7 f7 k7 hsl hbj
    rintro n1 σ H8 ⟨rl8, b, s, hH, m, gl, v7, v8, v9, v10, rfl, x8, z8, good, f8, hn1, hsl, hbn⟩
    have hcD : costD s = 9 * s.line.length + 40 := rfl
    have hcS : cost s = 6 * s.line.length + 20 := rfl
    have hbL : b ≤ Lim := by unfold Lim; omega
    have condT : ∀ g, g ∈ s.line → isNm g = true ∧ okMark (s.pl g).mark := fun g hg => ⟨good.nm g hg, good.okMark hg⟩
    refine ⟨_, rfl, pH, hH.dx, _, rfl, x8.self.h, rfl, 0, rl8, pH, b, s, hH, rfl, x8, hbL, fun H9 a9 s9 n9 e9 => ?_⟩
    refine ⟨(by show 0 ≤ sizeLine; decide), fun el hel => ?_⟩
    have sl := same_upd (o := HO.lst []) hel
    refine ⟨lS (awaitedL s), lS [], dp_lst (SqL.of (sl _ _ e9)), dp_lst (SqL.of upd_same), plain_lS _, plain_lS _, by rw [depth_lS]; decide, _, rfl, ?_⟩
    rw [eqv_lS]
    have s10 := s9.trans sl
    have x10 := x8.same s10
    have z10 := z8.same s10
    have f10 := f8.same s10
    generalize upd H9 el (.lst []) = H10 at s10 x10 z10 f10 ⊢
    cases eaw : awaitedL s with
    | nil =>
      rw [decide_eq_true rfl]
      refine iteF ⟨_, rfl, _, rfl, 0, 2, rl8, pH, q, b, s, hH, m, gl, rfl, x10, z10, hbL, condT, fun H11 s11 => ?_⟩
      refine k H11 fun c o e => ?_
      exact s11 _ _ ((f5.up f10) c o e).1
    | cons g lr =>
      rw [decide_eq_false (by intro z; cases z)]
      have hgm : g ∈ awaitedL s := by rw [eaw]; exact List.mem_cons_self ..
      obtain ⟨hgl8, hop⟩ := List.mem_filter.mp hgm
      have hgn := good.nm g hgl8
      have eact : act s (.hear g lHeard) = some (close s g) := by rw [act_heard s g hgl8, if_pos hop]
      have edeed : deed s (.hear g lHeard) = some ((gone (close s g)).1, (G.deal (close s g)).going) := by unfold deed; rw [eact]; rfl
      have good2 := deed_good good (wh := .hear g lHeard) hgn edeed
      have fewer := close_fewer good hgl8 hop
      refine iteT ⟨fun σ' H' => ∃ m', m' < n1 ∧ ∃ (rl8 : Rl) (b : Nat) (s : G.S) (hH : HA) (m : MA) (gl : List Ltr) (v7 v8 v9 v10 : Option V), σ' = [some (.ref p0), some (.ref na), some (.int size), some (.ref pH), some (.ref pM), some (.ref q), some (.ref D), v7, v8, v9, v10, none] ∧
        House K 0 rl8 H' pH b s hH ∧ Mine K 2 rl8 H' q b { s with going := gl } m ∧ Good s ∧ Fr (freeH rl5 H5) rl8 H' ∧ (awaitedL s).length = m' ∧ s.line.length ≤ 151 ∧ b + 2000 * m' ≤ 700000, fun σ' H' h => h, ?_⟩
      refine ⟨_, rfl, pH, hH.dx, _, rfl, x10.self.h, rfl, 0, rl8, pH, b, s, hH, rfl, x10, hbL, fun H11 a11 s11 n11 e11 => ?_⟩
      refine ⟨a11, _, _, V.str g, rfl, rfl, SqL.of e11, atI_nat (j := 0) (by rw [List.getElem?_map, eaw]; rfl), (by show 1 ≤ sizeLine; decide), fun u hu => ⟨(by show 3 ≤ sizeLine; decide), fun t ht => ?_⟩⟩
      have su := same_upd (o := HO.tup [V.str "heard"]) hu
      have st := same_upd (o := HO.tup [V.str "hear", V.str g, V.ref u]) ht
      have nut : u ≠ t := ne_of_none upd_same ht
      have et : upd (upd H11 u (.tup [V.str "heard"])) t (.tup [V.str "hear", V.str g, V.ref u]) t = some (.tup [V.str "hear", V.str g, V.ref u]) := upd_same
      have eu : upd (upd H11 u (.tup [V.str "heard"])) t (.tup [V.str "hear", V.str g, V.ref u]) u = some (.tup (lHeard.map V.str)) := by rw [upd_ne nut]; exact upd_same
      have s12 := s11.trans (su.trans st)
      have x12 := x10.same s12
      have z12 := z10.same s12
      have f12 := f10.same s12
      generalize upd (upd H11 u (.tup [V.str "heard"])) t (.tup [V.str "hear", V.str g, V.ref u]) = H12 at et eu s12 x12 z12 f12 ⊢
      have hw12 : WhatV H12 t (.hear g lHeard) := ⟨u, et, eu, by decide⟩
      refine ⟨_, rfl, pH, hH.dx, _, rfl, x12.self.h, rfl, _, rfl, t, _, _, _, rfl, rfl, SqT.of et, rfl, _, rfl, t, _, _, _, rfl, rfl, SqT.of et, rfl, 0, rl8, pH, b, s, hH, g, u, lHeard, rfl, x12, hgn, good.nd, eu, by decide, by unfold Lim; omega, ?_⟩
      rw [edeed]
      intro rl13 H13 h13 a13 v13 t13 x13 ra13 ha13 p13
      have z13 := z12.step t13 (by decide)
      refine ⟨_, rfl, _, rfl, _, rfl, 2, rl13, q, b, s, m, gl, t, .hear g lHeard, rfl, z13, good.go, hw12.tk t13.tk, by unfold Lim; omega, good.old, good.nd, good.aw, good.calm, fun e => (by rw [eact] at e; cases e), fun s' e rl14 H14 m14 t14 z14 => ?_⟩
      rw [eact] at e
      cases e
      have ha14 := t14.keep _ _ ha13 (.inl fun r z => by rw [ra13] at z; cases z)
      have p14 : Paired (LtrV K H14) (G.deal (close s g)).going v13 := L2.Paired.mapP p13 fun _ _ z => z.tk t14.tk
      have x14 := (x13.step t14 (by decide)).mono (show b + cost s ≤ b + costD s by omega)
      refine ⟨resD (some (G.deal (close s g)).going), resD (some (G.deal (close s g)).going), .lst (SqL.of ha14) (dp_ltrs p14), .lst (SqL.of z14.ou.h) (dp_ltrs z14.ov), plain_resD _, plain_resD _, Nat.le_trans (depth_resD _) (by decide), _, rfl, ?_⟩
      rw [PySem.SeqAt.eqv_refl_plain _ (plain_resD _)]
      have condA : ∀ g', g' ∈ (gone (close s g)).1.line → isNm g' = true ∧ (((gone (close s g)).1.pl g').source ≠ none → ((gone (close s g)).1.pl g').opened = true) := fun g' hg' => ⟨good2.nm g' hg', good2.src g' hg'⟩
      have zz : Mine K 2 rl14 H14 q (b + costD s) { (gone (close s g)).1 with going := (G.deal (close s g)).going } m14 := z14
      have hl2 : (gone (close s g)).1.line.length ≤ 151 := by rw [gone_line, close_line]; exact hsl
      refine iteF ⟨_, rfl, _, rfl, 0, 2, rl14, pH, q, b + costD s, (gone (close s g)).1, h13, m14, (G.deal (close s g)).going, rfl, x14, zz, by unfold Lim; omega, condA, fun H15 s15 => ⟨_, rfl, iteF ?_⟩⟩
      exact ⟨(awaitedL (gone (close s g)).1).length, by omega, rl14, b + costD s, (gone (close s g)).1, h13, m14, (G.deal (close s g)).going, _, _, _, _, rfl, x14.same s15, zz.same s15, good2, ((f12.step t13).step t14).same s15, rfl, hl2, by omega⟩
end
end G
set_option Elab.async false
set_option linter.all false
set_option maxRecDepth 100000
set_option maxHeartbeats 4000000
namespace G
open PySem PySem.Spec PyProof.Rows L2
section
variable {P : Program} {w : World} {K : PySem.W.Frag} {mg : Str → Option Value} {base : Heap}
/-! ### law -/
def spLaw (K : PySem.W.Frag) : Sp := fun vs H Q _ => ∃ (a : Addr) (ns : List Int), vs = [.ref a] ∧ SqL K H a (ns.map V.int) ∧ ∀ H', Q (.bl true) H'
theorem sc_law : FnScope ["_law_script", "_law_k", "_law_pot_here", "_law_names_here"] ["_law_script"] (defScope s_law) := ⟨rfl, rfl, rfl, by decide +kernel, rfl, by decide +kernel, by decide +kernel⟩
theorem ok_law (T : Txt K mg) {fd : FuncData} (F : FunD K "law" "law" (defArgs s_law) (defBody s_law) (defScope s_law) [] [] (He.fAd K ("law", none)) fd) : FnG P w K mg base 9 (He.fAd K ("law", none)) fd ["_law_script"] (spLaw K) := by
  obtain ⟨fd1, G1, b1, k1⟩ := (ok_dip (P := P) (w := w) (base := base) T).ex
  obtain ⟨fd2, G2, b2, k2⟩ := (ok_pot (P := P) (w := w) (base := base) T).ex
  obtain ⟨fd3, G3, b3, k3⟩ := (ok_names (P := P) (w := w) (base := base) T).ex
  obtain ⟨fd4, G4, b4, k4⟩ := (ok_long (P := P) (w := w) (base := base) T).ex
  obtain ⟨fd5, G5, b5, k5⟩ := ok_right (P := P) (w := w) (base := base) T
  refine fnG_of F sc_law (fun vs H Q E h => by obtain ⟨_, _, rfl, _⟩ := h; rfl) (fun cdv A outer s H vs Q E hgd hr h => ?_)
  obtain ⟨a, ns, rfl, hs, k⟩ := h
  have nd := sc_law.nd
  have hr1 : Room 1 _ := hr.mono (by decide)
  have hr2 : Room 2 _ := hr.mono (by decide)
  refine ⟨_, (pss_cons (ps_for PassesOwn.never rfl (pi_range1 (by rfl) T.n_range (pa_cons (pe_callB (call_max2 rfl) (by rfl) T.n_max (by decide +kernel) (pa_cons (pe_int) (pa_cons (pe_callB (call_min2 rfl) (by rfl) T.n_min (by decide +kernel) (pa_cons (pe_int) (pa_cons (pe_op op_add (pe_callB call_len_seq (by rfl) T.n_len PySem.boot_len (pa_cons (pv 0) pa_nil)) pe_int) pa_nil))) pa_nil))) pa_nil)) (pg_name (i := 1) nd rfl (Or.inl rfl)) (pss_cons (ps_set (i := 2) nd rfl (Or.inl rfl) (pe_call G2 hr1 (by rfl) T.g_L_pot k2 b2 .nil pass0 (pa_cons (pv 0) (pa_cons (pv 1) pa_nil))))
      (pss_cons (ps_set (i := 3) nd rfl (Or.inl rfl) (pe_call G3 hr2 (by rfl) T.g_L_names k3 b3 .nil pass0 (pa_cons (pv 2) (pa_cons (pe_op op_add pe_int (pe_call G1 hr1 (by rfl) T.g_L_dip k1 b1 .nil pass0 (pa_cons (pv 2) (pa_cons (pe_int) pa_nil)))) pa_nil))))
      (pss_one (ps_if (pt_not (pt_val (pe_callG G5 hgd hr (by rfl) T.g_L_right k5 b5 pass0 (pa_cons (pv 2) (pa_cons (pv 3) (pa_cons (pe_ix ix_list (pe_lst (pa_cons (pe_int) (pa_cons (pe_int) (pa_cons (pe_int) (pa_cons (pe_int) (pa_cons (pe_int) pa_nil)))))) (pe_call G1 hr1 (by rfl) T.g_L_dip k1 b1 .nil pass0 (pa_cons (pv 2) (pa_cons (pe_int) pa_nil))) (fun _ _ => rfl)) pa_nil)))))) (pss_one (ps_ret pe_bl)) pss_nil)))))
      (pss_cons (ps_set (i := 2) nd rfl (Or.inl rfl) (pe_call G2 hr1 (by rfl) T.g_L_pot k2 b2 .nil pass0 (pa_cons (pv 0) (pa_cons (pe_int) pa_nil))))
      (pss_one (ps_ret (pe_or (pe_cmpR op_gt (pe_call G1 hr1 (by rfl) T.g_L_dip k1 b1 .nil pass0 (pa_cons (pv 2) (pa_cons (pe_int) pa_nil))) pe_int (nomark _)) (pe_one (pe_callG G5 hgd hr (by rfl) T.g_L_right k5 b5 pass0 (pa_cons (pv 2) (pa_cons (pe_call G4 hr2 (by rfl) T.g_L_long k4 b4 .nil pass0 (pa_cons (pv 2) pa_nil)) (pa_cons (pe_call G1 hr1 (by rfl) T.g_L_dip k1 b1 .nil pass0 (pa_cons (pv 2) (pa_cons (pe_int) pa_nil))) pa_nil)))))))))), ?_⟩
  have start3 : ∀ (H3 : Hp) (p : Addr), Same H H3 → H p = none → (∃ x y : Int, H3 p = some (.lst [.int x, .int y, .int 0]) ∧ 0 ≤ y ∧ y < 2 ^ 200) → ∃ rl : Rl, Pot 3 rl H3 p 0 ∧ Fr H rl H3 := fun H3 p s3 np ⟨x, y, e, y0, y1⟩ =>
    ⟨fun b => if b = p then some (3, R.self) else none, ⟨x, y, 0, ⟨if_pos rfl, e⟩, y0, y1, Int.le_refl _, Int.le_refl _⟩, fun b o z => ⟨s3 _ _ z, if_neg (ne_of_none z np)⟩⟩
  have hX : ∀ l : Nat, ∃ z : Int, z = (if (if (l : Int) + 1 < 5 then (l : Int) + 1 else 5) > 1 then (if (l : Int) + 1 < 5 then (l : Int) + 1 else 5) else 1) ∧ 1 ≤ z ∧ z ≤ 5 := fun l => ⟨_, rfl, by split <;> split <;> omega, by split <;> split <;> omega⟩
  refine ⟨_, rfl, a, _, rfl, .inl hs, _, _, rfl, rfl, _, _, rfl, _, _, rfl, ?_⟩
  obtain ⟨z, hz, hz1, hz5⟩ := hX (ns.map V.int).length
  refine ⟨z, by rw [hz], by omega, by omega, ?_⟩
  refine for_range (lo := 0) (n := z.toNat) (fun j σ H2 => ∃ v1 v2 v3, σ = [some (.ref a), v1, v2, v3] ∧ Same H H2) ⟨none, none, none, rfl, Same.refl H⟩ ?_ ?_
  · rintro j σ H2 hj ⟨v1, v2, v3, rfl, s2⟩
    have hj5 : j < 5 := by omega
    rw [show (0 : Int) + (j : Int) = (j : Int) from Int.zero_add _]
    refine ⟨_, rfl, _, rfl, a, ns, j, rfl, s2.seq hs, by omega, fun H3 p s3 np hp => ?_⟩
    have s03 := s2.trans s3
    obtain ⟨rl, pt3, f3⟩ := start3 H3 p s03 (s2.free np) hp
    refine ⟨_, rfl, _, rfl, 3, rl, p, 0, 12, rfl, pt3, by decide, by decide, by decide, fun H4 r hr4 t4 pt4 => ?_⟩
    have f4 := f3.step t4
    refine ⟨_, _, rfl, rfl, 3, rl, p, 1, 2 + r, rfl, pt4, by omega, by omega, fun rl5 H5 D nms t5 pt5 rD hD eD hlen hnd hnm => ?_⟩
    have f5 := f4.step t5
    obtain ⟨own, gs, rfl⟩ : ∃ own gs, nms = own :: gs := by
      cases nms with
      | nil =>
        have : (0 : Nat) = 2 + r := hlen
        omega
      | cons x y => exact ⟨x, y, rfl⟩
    refine ⟨_, rfl, _, rfl, (by show 5 ≤ sizeLine; decide), fun L hL => ?_⟩
    have nDL : D ≠ L := ne_of_none eD hL
    have t6 : Step 3 rl5 H5 (setR rl5 L none) (upd H5 L (.lst [V.int 1, V.int 0, V.int 1, V.int 2, V.int 3])) := Step.own hL
    have pt6 := pt5.own hL (o' := .lst [V.int 1, V.int 0, V.int 1, V.int 2, V.int 3])
    have f6 := f5.step t6
    have eD6 : upd H5 L (.lst [V.int 1, V.int 0, V.int 1, V.int 2, V.int 3]) D = _ := (same_upd hL) _ _ eD
    have rD6 : setR rl5 L none D = none := by rw [setR_ne nDL]; exact rD
    have eL : upd H5 L (.lst [V.int 1, V.int 0, V.int 1, V.int 2, V.int 3]) L = some (.lst [V.int 1, V.int 0, V.int 1, V.int 2, V.int 3]) := upd_same
    have rL : setR rl5 L none L = none := setR_same
    generalize upd H5 L (.lst [V.int 1, V.int 0, V.int 1, V.int 2, V.int 3]) = H6 at t6 pt6 f6 eD6 eL ⊢
    generalize setR rl5 L none = rl6 at t6 pt6 f6 rD6 rL
    refine ⟨_, rfl, 3, rl6, p, 1 + (2 + r), 5, rfl, pt6, by omega, by decide, by decide, fun H7 r7 hr7 t7 pt7 => ?_⟩
    have f7 := f6.step t7
    have eD7 := t7.keep _ _ eD6 (.inl fun r e => by rw [rD6] at e; cases e)
    have eL7 := t7.keep _ _ eL (.inl fun r e => by rw [rL] at e; cases e)
    obtain ⟨sz, hsz⟩ : ∃ sz : Nat, ([V.int 1, V.int 0, V.int 1, V.int 2, V.int 3] : List V)[r7]? = some (.int sz) := by
      match r7, hr7 with
      | 0, _ => exact ⟨1, rfl⟩
      | 1, _ => exact ⟨0, rfl⟩
      | 2, _ => exact ⟨1, rfl⟩
      | 3, _ => exact ⟨2, rfl⟩
      | 4, _ => exact ⟨3, rfl⟩
    obtain ⟨pa, pb, pc, cp, pz⟩ := pt7
    have npD : p ≠ D := fun e => by
      have z1 := cp.h
      rw [e, eD7] at z1
      cases z1
    refine ⟨L, _, _, V.int sz, rfl, rfl, SqL.of eL7, atI_nat hsz, p, D, 1 + (2 + r) + 1, sz, own, gs, rfl, ⟨pa, pb, pc, cp.h, pz⟩, by omega, npD, eD7, hnm own (List.mem_cons_self ..), ?_, ?_, fun g hg => hnm g (List.mem_cons_of_mem _ hg), fun H8 s8 => ⟨_, rfl, iteF ⟨_, _, _, rfl, fun b o e => ?_⟩⟩⟩
    · intro e
      rw [e] at hlen
      have : (1 : Nat) = 2 + r := hlen
      omega
    · have : gs.length + 1 = 2 + r := hlen
      omega
    · have nb : b ≠ p := ne_of_none e (s2.free np)
      exact s8 _ _ (by rw [hid_ne nb]; exact (f7 b o e).1)
  · rintro σ H2 ⟨v1, v2, v3, rfl, s2⟩
    refine ⟨_, rfl, a, ns, 1, rfl, s2.seq hs, by decide, fun H3 p s3 np hp => ?_⟩
    have s03 := s2.trans s3
    obtain ⟨rl, pt3, f3⟩ := start3 H3 p s03 (s2.free np) hp
    refine ⟨_, rfl, 3, rl, p, 0, 3, rfl, pt3, by decide, by decide, by decide, fun H4 r hr4 t4 pt4 => ?_⟩
    refine ⟨_, _, rfl, rfl, _, rfl, ?_⟩
    by_cases c : ((r : Nat) : Int) > 0
    · rw [decide_eq_true c]
      exact iteT (k H4)
    · rw [decide_eq_false c]
      refine iteF ⟨_, rfl, _, rfl, 3, rl, p, 1, rfl, pt4, by decide, fun rl5 H5 D gsl t5 pt5 rD hD eD l1 l2 hnd hnm => ?_⟩
      refine ⟨_, rfl, 3, rl5, p, 61, 60, rfl, pt5, by decide, by decide, by decide, fun H6 r6 hr6 t6 pt6 => ?_⟩
      have eD6 := t6.keep _ _ eD (.inl fun r e => by rw [rD] at e; cases e)
      obtain ⟨pa, pb, pc, cp, pz⟩ := pt6
      have npD : p ≠ D := fun e => by
        have z1 := cp.h
        rw [e, eD6] at z1
        cases z1
      exact ⟨p, D, 62, r6, "zz", gsl, rfl, ⟨pa, pb, pc, cp.h, pz⟩, by decide, npD, eD6, (show isNm "zz" = true by decide +kernel), (fun e => by rw [e] at l1; exact absurd l1 (by decide)), l2, hnm, fun H7 s7 => k H7⟩
end
end G
set_option maxHeartbeats 0
namespace G
open PySem PySem.Spec PyProof.Rows L2
def nm1 : List PySem.Str := ["ChairError", "NoName", "NoRoom", "NoSpot", "NoRoad", "NoLetter", "Twice", "Taken", "LETTERS", "MOST_LETTERS", "is_count", "is_name", "IN", "OUT", "CLEAR", "BARRED", "WORD", "OPEN", "HEARD", "CHAIR", "BACK", "is_letter", "Place"]
def nm2 : List PySem.Str := ["House", "_law_pot", "_law_dip", "_law_names", "_law_done", "_law_what", "_law_new", "_law_given", "_law_look", "_law_look_all", "_law_paid", "_law_put", "_law_out", "_law_behind", "_law_hears", "_law_did", "_law_reason", "_law_told_alike", "_law_alike", "_law_long", "_law_next", "_law_right"]
abbrev nms : List PySem.Str := nm1 ++ nm2
abbrev RowK : PySem.W.OpenRow := PySem.W.OpenLaw.row PySem.Challenge.rw_heardahead_k35_whole_a_house_by_the_rule
abbrev hk : PySem.W.Hook := He.hookX 6 fa fn [] [] ex
def ob (s : PySem.W.SharedT) : He.AlX := He.obsX 6 fa fn [] [] ex (HandSHeadRun.getT s)
theorem ob_eq (s : PySem.W.SharedT) : ob s = hk.obs s.abs := He.obsX_eq (HandSHeadRun.getT_eq s)
theorem run (w : World) : HandSHeadRun.RunEq RowK (PySem.W.view RowK.prog [50]) hk ob 6000 nms w := by
  intro os
  kernel_rfl
theorem facts {P : Program} {w : World} {K : PySem.W.Frag} {h : Heap} {mg : Str → Option Value} {f : Addr} (kin : K.In h) (gn : h.Ns mainGlobals mg) (hf : mg "law" = some (.ref f)) (c : He.SaysX fa fn [] [] ex w h K) :
    ∃ fd : FuncData, (∀ (s : Shared) (v : Value), BindsTo s fd ⟨[v], []⟩ [("_law_script", v)]) ∧ ∀ base : Heap, K.In base → base.Ns mainGlobals mg → FnG P w K mg base 9 f fd ["_law_script"] (spLaw K) := by
  have T : Txt K mg := ⟨c.t.d, c.more, fun x v e => PySem.W.mg_of kin gn e, fun x e => PySem.W.mg_none_of kin gn e⟩
  have e := hf.symm.trans T.g_law
  cases e
  obtain ⟨fd, F⟩ := T.f_law
  have b := FunD.bindsA (ps := ["_law_script"]) F fun _ _ _ _ _ _ us hl => match us, hl with | [_], _ => rfl
  exact ⟨fd, fun s v => b s [v] rfl, fun base _ _ => ok_law T F⟩
end G
open PySem PySem.W PySem.Calls PyProof.Rows
theorem PySem.Challenge.cw_heardahead_k35_whole_a_house_by_the_rule_holds : PySem.Challenge.rw_heardahead_k35_whole_a_house_by_the_rule.Holds := by
  w_on; o_law
  refine HandSHeadRun.head_any (r := OpenLaw.row PySem.Challenge.rw_heardahead_k35_whole_a_house_by_the_rule) (q := view (OpenLaw.row PySem.Challenge.rw_heardahead_k35_whole_a_house_by_the_rule).prog [50]) (H := G.hk) (ob := G.ob) (M := 6000) (loose := G.nms) (d := HandSHeadRun.topDef (OpenLaw.row PySem.Challenge.rw_heardahead_k35_whole_a_house_by_the_rule).prog 50) (kwd := []) G.ob_eq
    (by kernel_rfl) (fun s => by kernel_rfl) G.run (by kernel_rfl) (by kernel_rfl) (by kernel_rfl) (by rfl) (by first | assumption | decide +kernel) (by decide +kernel) ⟨rfl, rfl, rfl, rfl, rfl, by decide +kernel⟩ ?hw ?hc
  case hw => w_witness2
  case hc =>
    refine G.walkG (l := PySem.Challenge.rw_heardahead_k35_whole_a_house_by_the_rule) (n := 63) (k := 9) (x := "_law_script") rfl (by decide) (by kernel_rfl) ⟨rfl, by decide, by decide⟩ ?F
    intro w mg fa h Y gn hmg0
    obtain ⟨K, kin, c⟩ := Y
    have hmg : mg ("law" : PySem.Str) = some (.ref fa) := by
      have e : (HandSHeadRun.topDef (OpenLaw.row PySem.Challenge.rw_heardahead_k35_whole_a_house_by_the_rule).prog 50).name = ("law" : PySem.Str) := by kernel_rfl
      rw [← e]; exact hmg0
    obtain ⟨fd, hb, hF⟩ := G.facts (P := (PySem.Challenge.rw_heardahead_k35_whole_a_house_by_the_rule).prog) (w := w) kin gn hmg c
    exact ⟨K, fd, G.spLaw K, kin, hb, fun H a ns _ _ hS => ⟨a, ns, rfl, hS, fun _ => rfl⟩, hF⟩
