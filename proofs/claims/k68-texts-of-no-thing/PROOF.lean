import PyProof.Rows.All
import Wide.All
import OpenK.AllK
import Wide.FinOn
import PyProof.EqAt
import PyProof.EqKinds
import PyProof.TupleCall
import KE.KUnpackStar
import HandS.ForMost
import HandS.ForExc
import HandS.ExcInit
import HandS.IsInst
import HandS.Wide
import HandS.Evl
import HandS.EndBits
import HandS.WideBits
import HandS.ExcIs
import HandS.ExcField
import HandS.Style
import HandS.Walk
import PySem.Challenge.RW_wiretongue_k68_texts_of_no_thing
/-! ## A1 -/
set_option Elab.async false
set_option linter.all false
set_option maxRecDepth 100000
namespace Q1
open PySem PySem.W PySem.Calls PySem.NumText PyProof.Rows
/-- the run's limit of figures, where nothing was set -/
theorem digits_lim {M : Model} {A : Around} {E : Value → Shared → Prop} {s : Shared} {Q : Nat → Shared → Prop} (hn : s.heap.NoDigits) (h : Q 4300 s) : wpAny M A Builtin.intMaxStrDigits Q E s := by
  obtain ⟨mc, hns, hnone⟩ := hn
  unfold Builtin.intMaxStrDigits
  refine wpAny_bind (wpAny_nsGet hns ?_)
  rw [hnone]
  exact wpAny_pure h

theorem long_text {M : Model} {A : Around} {E : Value → Shared → Prop} {s : Shared} {Q : Value → Shared → Prop} {v : Value} {text : List Nat} {n : Int} (hn : s.heap.NoDigits)
    (hs : ¬ (text.takeWhile (· != 0)).length ≤ 640) (hr : (int_private% "readNumeral") 4300 10 (text.takeWhile (· != 0)) = (int_private% "Numeral.value") n)
    (ha : ((text.takeWhile (· != 0)).length == text.length) = true) (h : Q (.int n s.toks) { s with toks := s.toks + 1 }) :
    wpAny M A ((int_private% "intFromText") v text 10) Q E s := by
  obtain ⟨hp, g, d, tk, os⟩ := s
  have hs' : decide ((text.takeWhile (· != 0)).length ≤ 640) = false := decide_eq_false hs
  repeat (any_goals (first
    | assumption
    | (with_reducible refine digits_lim hn ?_)
    | (with_reducible refine wpAny_ite_true (decide_eq_true ha) ?_)
    | wp_step))
  all_goals (try rw [hr])
  all_goals (try dsimp only)
  repeat (any_goals (first
    | assumption
    | (with_reducible refine wpAny_ite_true (decide_eq_true ha) ?_)
    | wp_step))

structure Hid (p : Prop) : Prop where
  out : p
set_option maxHeartbeats 4000000 in
theorem meets_long {x : PySem.Str} {u : Tok} {n : Int} (hl : ¬ (numSeenOf x).length ≤ 640) (hx : x.length ≤ sizeLine) (hn : PySem.intText? x = some n) :
    Meets (Builtin.«int.__new__» ⟨[.type "int", .str x u], []⟩) (fun _ R s => s.heap.NoDigits ∧ R (.ok (.ret (.int n s.toks))) { s with toks := s.toks + 1 }) := by
  intro prog w A R s h
  obtain ⟨hp, g, d, tk, os⟩ := s
  obtain ⟨nd, h⟩ := h
  have f1 := F.conv_sub_int
  have f2 := F.madeHere_int
  have f3 := KIN.str_int
  have f4 := KIN.str_idx
  have f5 := KIN.str_trunc
  have f6 : typeOf (.str x u) = pure (.type "str") := rfl
  have hr : (int_private% "readNumeral") 4300 10 (numSeenOf x) = (int_private% "Numeral.value") n ∧ ((numSeenOf x).length == (numTextOf x).length) = true := by
    rcases read4300 x hx with ⟨m, h1, h2, h3⟩ | ⟨h1, _⟩
    · have e : n = m := Option.some.inj (hn.symm.trans h1)
      subst e
      exact ⟨h3, h2⟩
    · exact absurd (hn.symm.trans h1) (by simp)
  have hk := Hid.mk (And.intro hl hr)
  clear hr hl hn hx
  repeat (any_goals (first
    | assumption
    | ((with_reducible show wpAny _ _ ((int_private% "intFromText") _ _ _) _ _ _); refine long_text nd hk.out.1 hk.out.2.1 hk.out.2.2 ?_)
    | wp_step))
  all_goals first | exact h | skip

section
variable {prog : Program} {w : World} {A : Around} {E : Value → Shared → Prop} {s : Shared} {Q : Value → Shared → Prop} {x : PySem.Str} {t : Tok} {n : Int}
theorem int_of_text (nd : s.heap.NoDigits) (hn : PySem.intText? x = some n) (hx : x.length ≤ sizeLine) (h : Q (.int n s.toks) { s with toks := s.toks + 1 }) : wpAny (model prog w) A (call (.type "int") [.str x t]) Q E s := by
  by_cases hl : (numSeenOf x).length ≤ 640
  · have hs := Hid.mk hl
    refine call_int_1 (?_ : Meets _ (fun _ R s => R (.ok (.ret (.int n s.toks))) { s with toks := s.toks + 1 })) ⟨rfl, h⟩
    intro prog w A R s h
    obtain ⟨hp, g, d, tk, os⟩ := s
    have f1 := F.conv_sub_int
    have f2 := F.madeHere_int
    have f3 := KIN.str_int
    have f4 := KIN.str_idx
    have f5 := KIN.str_trunc
    have f6 : typeOf (.str x t) = pure (.type "str") := rfl
    have hr : (int_private% "readNumeral") 0 10 (numSeenOf x) = (int_private% "Numeral.value") n ∧ ((numSeenOf x).length == (numTextOf x).length) = true := by
      rcases read0 x hl with ⟨m, h1, h2, h3⟩ | ⟨h1, _⟩
      · have e : n = m := Option.some.inj (hn.symm.trans h1)
        subst e
        exact ⟨h3, h2⟩
      · exact absurd (hn.symm.trans h1) (by simp)
    have hk := Hid.mk hr
    clear hr hl hn hx
    repeat (any_goals (first
      | assumption
      | ((with_reducible show wpAny _ _ ((int_private% "intFromText") _ _ _) _ _ _); refine KIN.wp_text hs.out hk.out.1 hk.out.2 ?_)
      | wp_step))
    all_goals first | exact h | skip
  · exact call_int_1 (meets_long hl hx hn) ⟨nd, rfl, h⟩
end
end Q1

/-! ## A2 -/
set_option Elab.async false
set_option linter.all false
set_option maxRecDepth 100000
namespace Q2
open PySem PySem.Spec PyProof.Rows L2
open PySem.Calls
/-! ### what is shown: numbers to 4,300 figures -/
mutual
def can : PyData → Bool
  | .none => true
  | .bool _ => true
  | .str _ => true
  | .int i => decide (i.natAbs < 10 ^ 4300)
  | .list xs => canAll xs
  | .tuple xs => canAll xs
  | .dict _ => false
def canAll : List PyData → Bool
  | [] => true
  | d :: ds => can d && canAll ds
end
section
variable {prog : Program} {w : World} {h₀ : Heap}
theorem repr_int_big {A : Around} {E : Value → Shared → Prop} {s : Shared} {Q : Value → Shared → Prop} {a : Int} {t : Tok} (nd : s.heap.NoDigits) (lt : a.natAbs < 10 ^ 4300)
    (h : Q (.str (toString a) s.toks) { s with toks := s.toks + 1 }) : wpAny (model prog w) A (pyReprObj (.int a t)) Q E s := by
  have fit := int_text_fits10 lt
  unfold pyReprObj
  simp only [cRoomFor, show ([Value.int a t].any Value.onHeap) = false from rfl, Bool.false_eq_true, if_false, pure_bind]
  refine wpAny_bind (wpAny_specialOf (T := "int") (name := Str.ofString "__repr__") (typeIs_int s a t) F.slot_int_repr.lookup ?_)
  refine wpAny_bind (m := callSpecialIfBound? (.int a t) (Str.ofString "__repr__")) (wpAny_callSpecialIfBound?_slot (name := Str.ofString "__repr__") (typeIs_int s a t) F.slot_int_repr ?_)
  refine wpAny_call (codeAny_call_builtin F.slot_int_repr.plain F.entry_int_repr (F.slot_int_repr.check _ _ _ _ _ _ _ _ (typeIs_int s a t) (F.args_int_repr_1 _) ?_))
  unfold Builtin.«int.__repr__»
  show wpAny _ _ (Builtin.overDigitLimit? a >>= fun r => _) _ _ s
  refine wpAny_bind (overDigitLimit_any nd (fun _ => ?_) fun ge => absurd lt (Nat.not_lt.mpr ge))
  refine wpAny_bind (wpAny_mkStr (wpAny_pure ?_) fit)
  exact wpAny_bind (wpAny_isInstance (T := "str") (b := true) rfl isSubtype_str_str (wpAny_pure h))
theorem reprK_int {as : List Addr} {n : Nat} {a : Int} {t : Tok} (nd : h₀.NoDigits) (lt : a.natAbs < 10 ^ 4300) : ReprK prog w as h₀ n (.int a t) (toString a) := by
  intro b hb A g E s Q _ _ _ hk hq
  rw [pyReprUnder_leaf (v := .int a t) (by omega) fun _ e => nomatch e]
  unfold pyRepr
  exact wpAny_bind (repr_int_big (nd.keeps hk) lt (wpAny_pure (hq s.heap _ fun _ _ e => e)))
mutual
theorem shows {v : Value} : ∀ {d : PyData} {as : List Addr}, h₀.NoDigits → Reads h₀ v d as → can d = true → d.shown.length ≤ sizeLine →
    ∃ l, ReadAtMost h₀ d.depth l ∧ ReprK prog w l h₀ d.depth v d.shown
  | .none, _, _, .none, _, _ => ⟨[], nofun, .of_is ReprIs.none _ _ _⟩
  | .bool _, _, _, .bool b, _, _ => ⟨[], nofun, by
      simp only [PyData.shown]
      exact .of_is (ReprIs.bool b) _ _ _⟩
  | .int _, _, nd, .int i t, hc, _ => ⟨[], nofun, by
      simp only [PyData.shown]
      exact reprK_int nd (of_decide_eq_true (by simpa only [can] using hc))⟩
  | .str _, _, _, .str x t, _, hz => ⟨[], nofun, by
      simp only [PyData.shown] at hz ⊢
      exact .of_is (ReprIs.str x t hz) _ _ _⟩
  | .list ds, _, nd, .list (a := a) (vs := vs) o1 o2 o3 rs, hc, hz => by
    have hz1 : (listText (PyData.shownAll ds)).length ≤ sizeLine := by
      simpa only [PyData.shown] using hz
    obtain ⟨l, m, k⟩ := showsAll nd rs (by simpa only [can] using hc) fun t ht => Nat.le_trans (listText_mem_le ht) hz1
    have rd : Reads h₀ (.ref a) (.list ds) _ := .list o1 o2 o3 rs
    have deep : PyData.depthAll ds < (PyData.list ds).depth := by
      simp only [PyData.depth]
      omega
    refine ⟨a :: l, ReadAtMost.cons rd (Nat.le_of_lt deep) m, ?_⟩
    have out := not_mem_of_deeper rd deep m
    simp only [PyData.depth, PyData.shown]
    obtain ⟨its⟩ := vs
    cases its with
    | nil =>
      have rs' : ReadsAll h₀ [] ds _ := rs
      cases rs'
      simp only [PyData.shownAll, listText_nil]
      exact ReprK.listEmpty o1 o2 o3
    | cons z its => exact ReprK.list o1 o2 o3 out (by simpa using k.length_eq) fun i y e => k.item i y (by simpa using e)
  | .tuple ds, _, nd, .tuple (a := a) o1 o2 o3 rs, hc, hz => by
    have hz1 : (tupleText (PyData.shownAll ds)).length ≤ sizeLine := by
      simpa only [PyData.shown] using hz
    obtain ⟨l, m, k⟩ := showsAll nd rs (by simpa only [can] using hc) fun t ht => Nat.le_trans (tupleText_mem_le ht) hz1
    have rd : Reads h₀ (.ref a) (.tuple ds) _ := .tuple o1 o2 o3 rs
    have deep : PyData.depthAll ds < (PyData.tuple ds).depth := by
      simp only [PyData.depth]
      omega
    refine ⟨a :: l, ReadAtMost.cons rd (Nat.le_of_lt deep) m, ?_⟩
    simp only [PyData.depth, PyData.shown]
    exact ReprK.tuple o1 o2 o3 (not_mem_of_deeper rd deep m) k
  | .dict _, _, _, _, hc, _ => absurd hc (by simp [can])
theorem showsAll {vs : List Value} : ∀ {ds : List PyData} {as : List Addr}, h₀.NoDigits → ReadsAll h₀ vs ds as → canAll ds = true → (∀ t ∈ PyData.shownAll ds, t.length ≤ sizeLine) →
    ∃ l, ReadAtMost h₀ (PyData.depthAll ds) l ∧ ReprAllK prog w l h₀ (PyData.depthAll ds) vs (PyData.shownAll ds)
  | [], _, _, .nil, _, _ => ⟨[], nofun, by
      simp only [PyData.shownAll]
      exact .nil⟩
  | d :: ds, _, nd, .cons r rs, hc, hz => by
    have hc1 : can d = true ∧ canAll ds = true := by simpa only [canAll, Bool.and_eq_true] using hc
    simp only [PyData.shownAll] at hz ⊢
    obtain ⟨l1, m1, k1⟩ := shows nd r hc1.1 (hz _ (List.mem_cons_self ..))
    obtain ⟨l2, m2, k2⟩ := showsAll nd rs hc1.2 fun t ht => hz t (List.mem_cons_of_mem _ ht)
    simp only [PyData.depthAll]
    exact ⟨l1 ++ l2, (m1.mono (Nat.le_max_left _ _)).append (m2.mono (Nat.le_max_right _ _)),
      .cons ((k1.more fun b hb => List.mem_append_left _ hb).level_le (Nat.le_max_left _ _)) (k2.more_le (fun b hb => List.mem_append_right _ hb) (Nat.le_max_right _ _))⟩
end
/-- repr of a tuple of data -/
theorem repr_tuple {A : Around} {E : Value → Shared → Prop} {s : Shared} {Q : Value → Shared → Prop} {a : Addr} {ds : List PyData} {as : List Addr} (nd : s.heap.NoDigits) (r : Reads s.heap (.ref a) (.tuple ds) as) (hc : canAll ds = true)
    (hz : (PyData.tuple ds).shown.length ≤ sizeLine) (hg : A.guards = some []) (hu : A.units + ((PyData.tuple ds).depth + 1) < cLine)
    (hq : ∀ h' u tk, (∀ b o, s.heap.get? b = some o → h'.get? b = some o) → Q (.str (PyData.tuple ds).shown u) { s with heap := h', toks := tk }) :
    wpAny (model prog w) A (call (.builtin "repr") [.ref a]) Q E s := by
  cases r with
  | tuple o1 o2 o3 rs =>
    rename_i o vs n
    have hz1 : (tupleText (PyData.shownAll ds)).length ≤ sizeLine := by
      simpa only [PyData.shown] using hz
    obtain ⟨l, m, k⟩ := showsAll (prog := prog) (w := w) nd rs hc fun t ht => Nat.le_trans (tupleText_mem_le ht) hz1
    have rd : Reads s.heap (.ref a) (.tuple ds) _ := .tuple o1 o2 o3 rs
    have deep : PyData.depthAll ds < (PyData.tuple ds).depth := by
      simp only [PyData.depth]
      omega
    have out := not_mem_of_deeper rd deep m
    simp only [PyData.depth] at hu
    simp only [PyData.shown] at hq
    refine call_repr_slot (by omega) ⟨o, o1, o2⟩ F.slot_tuple_repr ?_
    exact call_tuple_reprK o1 o2 o3 out k (A := A.in1) hg (fun b _ => Clear.nil b) (by show A.units + 1 + _ < cLine; omega) (fun _ _ e => e) (fun h' u tk hk => ⟨_, _, rfl, hq h' u tk hk⟩) hz1
end
end Q2
namespace L2
open PySem PySem.Spec PyProof.Rows
section
variable {X : Cx}
theorem nd_of {pins : List (Addr × Obj)} {σ : St} {H : Hp} {s : Shared} (I : Inv X pins σ H s) (nd : X.base.NoDigits) : s.heap.NoDigits := nd.keeps fun b o e => (I.bs b o e).1
/-- int(text), to 4,300 figures -/
def rIntT : List V → Hp → VK → Prop := fun xs H Q => ∃ a n, xs = [.str a] ∧ PySem.intText? a = some n ∧ a.length ≤ sizeLine ∧ Q (.int n) H
theorem call_intT (nd : X.base.NoDigits) : CallR X (.type "int") rIntT := by
  intro pins s σ H xs us Q I rs h
  obtain ⟨a, n, rfl, hn, hl, q⟩ := h
  obtain ⟨u, rfl, t, rfl⟩ := vals1 rs
  exact Q1.int_of_text (nd_of I nd) hn hl ⟨.int n, H, I.tok _, ⟨_, rfl⟩, q⟩
/-- repr of a tuple of data -/
def rReprT (K : PySem.W.Frag) (room : Nat) : List V → Hp → VK → Prop := fun xs H Q => ∃ a ds, xs = [.ref a] ∧ Dp K H (.ref a) (.tuple ds) ∧ Q2.canAll ds = true ∧ (PyData.tuple ds).shown.length ≤ sizeLine ∧ (PyData.tuple ds).depth ≤ room ∧ Q (.str (PyData.tuple ds).shown) H
theorem call_reprT {room : Nat} (nd : X.base.NoDigits) (hg : X.A.guards = some []) (hu : X.A.units + (room + 1) < cLine) : CallR X (.builtin "repr") (rReprT X.K room) := by
  intro pins s σ H xs us Q I rs h
  obtain ⟨a, ds, rfl, hd, hc, hz, hr, q⟩ := h
  obtain ⟨u, rfl, ru⟩ := vals1 rs
  obtain ⟨as, rd⟩ := Dp.reads I _ _ _ hd ru
  cases ru
  exact Q2.repr_tuple (nd_of I nd) rd hc hz hg (by omega) fun h' u tk hk => ⟨.str (PyData.tuple ds).shown, H, I.kept (t' := tk) hk, ⟨_, rfl⟩, q⟩
/-- text * number -/
def repS (x : Str) (n : Int) : Str := ⟨(List.replicate n.toNat x.cps).foldl (· ++ ·) #[]⟩
def rMulS : R2 := fun x y H Q => ∃ z n, x = .str z ∧ y = .int n ∧ 2 ≤ n ∧ n ≤ 100000 ∧ 1 ≤ z.length ∧ z.length ≤ 100 ∧ Q (.str (repS z n)) H
theorem op_mulS : OpR X (binaryOp .Mult) rMulS := by
  intro pins s σ H x y v u Q I rx ry h
  obtain ⟨z, n, rfl, rfl, h1, h2, h3, h4, q⟩ := h
  obtain ⟨t, rfl⟩ := rx
  obtain ⟨t', rfl⟩ := ry
  have e1 : (n == 1 || z.length == 0) = false := by
    have a1 : (n == 1) = false := by simpa using (show n ≠ 1 by omega)
    have a2 : (z.length == 0) = false := by simpa using (show z.length ≠ 0 by omega)
    rw [a1, a2]
    rfl
  have e2 : z.length * n.toNat ≤ 100 * 100000 := Nat.mul_le_mul h4 (by omega)
  refine PySem.P.mul_str ?_ (fun _ _ => ?_) (fun _ _ => ?_) ?_
  · rw [decide_eq_false (by omega), decide_eq_false (by omega)]
    rfl
  · have : (100 : Int) ≤ (2 ^ 63 - 1) / n := by
      refine Int.le_ediv_of_mul_le (by omega) ?_
      omega
    omega
  · unfold Builtin.Str.tooLong
    exact decide_eq_false (by rw [sizeLine_eq]; omega)
  · rw [if_neg (by omega), if_neg (by rw [e1]; decide)]
    refine ⟨?_, ⟨.str (repS z n), H, I.tok _, ⟨_, rfl⟩, q⟩⟩
    have e3 : ∀ (k : Nat) (c : Array Nat), ((List.replicate k z.cps).foldl (· ++ ·) c).size = c.size + z.length * k := by
      intro k
      induction k with
      | zero => intro c; simp
      | succ k ih =>
        intro c
        rw [List.replicate_succ, List.foldl_cons, ih, Array.size_append, Nat.mul_succ]
        show _ + z.cps.size + _ = _ + (_ + z.cps.size)
        omega
    show ((List.replicate n.toNat z.cps).foldl (· ++ ·) #[]).size ≤ sizeLine
    rw [e3, sizeLine_eq]
    simp only [List.size_toArray, List.length_nil]
    omega
end
end L2

/-! ## A3 -/
set_option Elab.async false
set_option linter.all false
set_option maxRecDepth 100000
namespace Q3
open PySem PySem.W PySem.Spec PySem.Calls PyProof.Rows
section
variable {prog : Program} {w : World} {A : Around} {E : Value → Shared → Prop} {s : Shared} {l : Addr} {items : Array Value} {i : Nat} {Q : List Value → Shared → Prop}
/-- a, .., *rest = an object: its first ones, then a new list of the others; it: the iterator made, St: how it stands -/
theorem star_end {it : Addr} {h₁ : Heap} (hi : i ≤ items.size) (hz : items.size ≤ sizeLine) (old : ∀ b o, s.heap.get? b = some o → h₁.get? b = some o)
    (hq : ∀ (h' : Heap) (tk : Nat), (∀ b o, s.heap.get? b = some o → h'.get? b = some o) → Q (items.toList.take i ++ [.ref h'.objs.size]) { s with heap := h'.push { cls := .type "list", data := .seq (items.toList.drop i).toArray }, toks := tk })
    (hit : s.heap.get? it = none)
    (col : ∀ (R : List Value → Shared → Prop), (∀ (h' : Heap) (tk : Nat), (∀ b o, b ≠ it → h₁.get? b = some o → h'.get? b = some o) → R (items.toList.drop i) { s with heap := h', toks := tk }) → wpAny (model prog w) A (collect (.ref it)) R E { s with heap := h₁ }) :
    wpAny (model prog w) A (do
      if (items.toList.take i).length < i then
        rule "unpack.star.too-few-before"
        raiseError "ValueError" s!"not enough values to unpack (expected at least {i + 1 - 1}, got {(items.toList.take i).length})"
      let rest ← holding (items.toList.take i) (collect (.ref it))
      let after := i + 1 - 1 - i
      if rest.length < after then
        rule "unpack.star.too-few"
        raiseError "ValueError" s!"not enough values to unpack (expected at least {i + 1 - 1}, got {i + rest.length})"
      let mid := rest.length - after
      return (items.toList.take i) ++ [← newList (rest.take mid)] ++ rest.drop mid) Q E { s with heap := h₁ } := by
  have len1 : (items.toList.take i).length = i := by
    rw [List.length_take, Array.length_toList]
    omega
  have len2 : (items.toList.drop i).length = items.size - i := by rw [List.length_drop, Array.length_toList]
  rw [if_neg (by omega)]
  refine wpAny_bind (wpAny_holding (col _ fun h' tk k => ?_))
  have a0 : i + 1 - 1 - i = 0 := by omega
  show wpAny _ _ (if (items.toList.drop i).length < i + 1 - 1 - i then _ else _) _ _ _
  rw [if_neg (by omega)]
  show wpAny _ _ (newList ((items.toList.drop i).take ((items.toList.drop i).length - (i + 1 - 1 - i))) >>= fun d => pure (items.toList.take i ++ [d] ++ (items.toList.drop i).drop ((items.toList.drop i).length - (i + 1 - 1 - i)))) _ _ _
  rw [a0, Nat.sub_zero, List.take_length, List.drop_length]
  have kept : ∀ b o, s.heap.get? b = some o → h'.get? b = some o := fun b o e => k b o (fun z => by rw [z, hit] at e; cases e) (old b o e)
  refine wpAny_bind (wpAny_newObj_type (hd := ?_) (wpAny_pure ?_))
  · rw [List.append_nil]
    exact hq h' tk kept
  · show (items.toList.drop i).toArray.size ≤ sizeLine
    rw [List.size_toArray, len2]
    omega
theorem star_list (hh : A.handled = none) (hl : s.heap.IsList l items) (hi : i ≤ items.size) (hz : items.size ≤ sizeLine)
    (hq : ∀ (h' : Heap) (tk : Nat), (∀ b o, s.heap.get? b = some o → h'.get? b = some o) → Q (items.toList.take i ++ [.ref h'.objs.size]) { s with heap := h'.push { cls := .type "list", data := .seq (items.toList.drop i).toArray }, toks := tk }) :
    wpAny (model prog w) A (unpackItems (.ref l) (i + 1) (some i)) Q E s := by
  have lt : l < s.heap.objs.size := hl.elim fun o ho => Heap.lt_size ho.1
  have ne : l ≠ s.heap.objs.size := Nat.ne_of_lt lt
  have none0 : s.heap.get? s.heap.objs.size = none := by
    cases e : s.heap.get? s.heap.objs.size with
    | none => rfl
    | some o => exact absurd (Heap.lt_size e) (Nat.lt_irrefl _)
  unfold unpackItems notIterableAtAll
  refine wpAny_bind (wpAny_bind (wpAny_specialOf hl.typeIs slot_list_iter.lookup (wpAny_pure ?_)))
  simp only [Bool.false_eq_true, if_false]
  refine wpAny_bind (wpAny_holding (wpAny_pyIter_list hl (wpAny_bind (wpAny_holding (kun_draw ne i 0 _ _ ⟨_, Heap.get?_push_size _ rfl, rfl, rfl⟩ (hl.push _) (by omega) fun h₁ t1 b1 => ?_)))))
  have l1 : h₁.IsList l items := (hl.push _).extBut b1.extBut ne
  rw [Nat.zero_add] at t1
  rw [List.drop_zero]
  have oi : s.heap.objs.size < h₁.objs.size := t1.elim fun o ho => Heap.lt_size ho.1
  have ol : l < h₁.objs.size := l1.elim fun o ho => Heap.lt_size ho.1
  exact star_end (s := s) hi hz (fun b o e => b1.extBut b o (Nat.ne_of_lt (Heap.lt_size e)) (Heap.get?_push_of_some _ e)) hq none0
    fun R hR => kun_collect (s := { s with heap := h₁ }) (T := "list_iterator") (.inr (.inr (.inl rfl))) (Walks.list (A := A.in1) hh s.heap.objs.size l ne items) (fun j u st => st.1.typeIs) (k := i) hi ⟨t1, l1⟩ oi ol hR hz
theorem star_tuple (hh : A.handled = none) (hl : IsTup s.heap l items) (hi : i ≤ items.size) (hz : items.size ≤ sizeLine)
    (hq : ∀ (h' : Heap) (tk : Nat), (∀ b o, s.heap.get? b = some o → h'.get? b = some o) → Q (items.toList.take i ++ [.ref h'.objs.size]) { s with heap := h'.push { cls := .type "list", data := .seq (items.toList.drop i).toArray }, toks := tk }) :
    wpAny (model prog w) A (unpackItems (.ref l) (i + 1) (some i)) Q E s := by
  have lt : l < s.heap.objs.size := hl.elim fun o ho => Heap.lt_size ho.1
  have ne : l ≠ s.heap.objs.size := Nat.ne_of_lt lt
  have none0 : s.heap.get? s.heap.objs.size = none := by
    cases e : s.heap.get? s.heap.objs.size with
    | none => rfl
    | some o => exact absurd (Heap.lt_size e) (Nat.lt_irrefl _)
  unfold unpackItems notIterableAtAll
  refine wpAny_bind (wpAny_bind (wpAny_specialOf hl.typeIs slot_tuple_iter.lookup (wpAny_pure ?_)))
  simp only [Bool.false_eq_true, if_false]
  refine wpAny_bind (wpAny_holding (iter_tuple hl (wpAny_bind (wpAny_holding (draw_tuple ne i 0 _ _ ⟨_, Heap.get?_push_size _ rfl, rfl, rfl⟩ (hl.push _) (by omega) fun h₁ t1 b1 => ?_)))))
  have l1 : IsTup h₁ l items := (hl.push _).extBut b1.extBut ne
  rw [Nat.zero_add] at t1
  rw [List.drop_zero]
  have oi : s.heap.objs.size < h₁.objs.size := t1.elim fun o ho => Heap.lt_size ho.1
  have ol : l < h₁.objs.size := l1.elim fun o ho => Heap.lt_size ho.1
  exact star_end (s := s) hi hz (fun b o e => b1.extBut b o (Nat.ne_of_lt (Heap.lt_size e)) (Heap.get?_push_of_some _ e)) hq none0
    fun R hR => kun_collect (s := { s with heap := h₁ }) (T := "tuple_iterator") (.inr (.inr (.inr rfl))) (Walks.tuple (A := A.in1) hh s.heap.objs.size l ne items) (fun j u st => st.1.typeIs) (k := i) hi ⟨t1, l1⟩ oi ol hR hz
end
end Q3
namespace L2
open PySem PySem.Spec PyProof.Rows
section
variable {X : Cx} {pos p : Pos}
/-- *rest, the last target -/
theorem pgs_star {e : Expr} {t : TG} (h : PG X e t) (hs : (assignEach [.Starred e p] X.env).map (·.2) = [assign e X.env] := by rfl) : PGs X [.Starred e p] (gCons t gNil) := by
  refine ⟨fun pins s σ H vs us Q I r q => ?_⟩
  obtain ⟨v, vr, rfl, q⟩ := q
  cases r with
  | cons r rr =>
    rw [hs]
    refine assignInOrder_cons (thn (h.run pins s σ H _ _ _ I r q) fun _ s1 ⟨σ1, H1, I1, e1, q1⟩ => ?_)
    subst e1
    cases rr
    exact assignInOrder_nil ⟨σ1, H1, I1, q1⟩
/-- a, .., *rest = a list | a tuple -/
def gStar (K : PySem.W.Frag) (i : Nat) (t : TGs) : TG := fun v σ H Q => ∃ a xs, v = .ref a ∧ (SqL K H a xs ∨ SqT K H a xs) ∧ i ≤ xs.length ∧ ∀ p, H p = none → t (xs.take i ++ [.ref p]) σ (upd H p (.lst (xs.drop i))) Q
theorem pg_star {es : List Expr} {k : Nat} {t : TGs} {i : Nat} (hc : X.calm = true) (h : PGs X es t)
    (hn : (assignEach es X.env).length = i + 1 := by rfl) (hst : (assignEach es X.env).findIdx? (·.1) = some i := by rfl) : PG X (.Tuple es k pos) (gStar X.K i t) := by
  refine ⟨fun pins s σ H v u Q I r q => ?_⟩
  obtain ⟨a, xs, rfl, hq, hi, q⟩ := q
  cases r
  rw [assign_Tuple]
  refine wpAny_bind (wpAny_standAt ?_)
  unfold unpack
  rw [hn, hst]
  have go : ∀ its : List Value, Vals xs its → xs.length ≤ sizeLine → ∀ (h' : Heap) (tk : Nat), (∀ b o, s.heap.get? b = some o → h'.get? b = some o) →
      wpAny (model X.prog X.w) X.A (assignInOrder ((assignEach es X.env).map (·.2)) (its.toArray.toList.take i ++ [.ref h'.objs.size])) (fun _ s' => ∃ σ' H', Inv X pins σ' H' s' ∧ Q σ' H') X.xe
        { s with heap := h'.push { cls := .type "list", data := .seq (its.toArray.toList.drop i).toArray }, toks := tk } := fun its rv hz h' tk k => by
    have I1 : Inv X pins σ H { s with heap := h', toks := tk } := I.kept k
    have hf : H h'.objs.size = none := I1.hok.fresh (Nat.le_refl _)
    refine h.run pins _ σ _ _ _ Q (I1.laid (a := h'.objs.size) (o := .lst (xs.drop i)) (t' := tk) (fun b u e => Heap.get?_push_of_some _ e) (Nat.le_refl _) ?_) ?_ (q _ hf)
    · exact ⟨by rw [List.length_drop]; omega, its.drop i, 0, rv.drop i, Heap.get?_push_size _ rfl⟩
    · exact (rv.take i).append (.cons rfl .nil)
  rcases hq with hq | hq
  · obtain ⟨its, rv, ⟨o, n, e1, e2, _, e4⟩, hz⟩ := I.list hq
    have e := rv.length
    exact wpAny_bind (wpAny_holding (Q3.star_list (I.ok.hd hc) ⟨o, e1, e2, n, e4⟩ (by rw [List.size_toArray]; omega) (by rw [List.size_toArray]; omega) (go its rv hz)))
  · obtain ⟨its, rv, ht, hz⟩ := I.tuple hq
    have e := rv.length
    exact wpAny_bind (wpAny_holding (Q3.star_tuple (I.ok.hd hc) ht (by rw [List.size_toArray]; omega) (by rw [List.size_toArray]; omega) (go its rv hz)))
end
end L2

/-! ## A4 -/
set_option Elab.async false
set_option linter.all false
set_option maxRecDepth 100000
namespace L2
open PySem PySem.Spec PyProof.Rows
/-! ### defs that are called where nothing is shown: FnG is FnOk with that known -/
structure FnG (P : Program) (w : World) (K : PySem.W.Frag) (mg : Str → Option Value) (base : Heap) (CX : CXT) (k : Nat) (f : Addr) (fd : FuncData) (ps : List Str) (sp : Sp) : Prop where
  len : ∀ vs H Q E, sp vs H Q E → vs.length = ps.length
  run : ∀ (A : Around) (outer : List Env) (s : Shared) (H : Hp) (args : Args) (us : List Value) (vs : List V) (Q : VK) (E : XK), Room k A → A.guards = some [] → Env0 P w K mg base A outer s H → BindsTo s fd args (ps.zip us) → Vals vs us →
    sp vs H Q E → codeAny (model P w) A (.call (.ref f) args) (CR CX outer P w H s Q E) s
theorem FnOk.toG {P : Program} {w : World} {K : PySem.W.Frag} {mg : Str → Option Value} {base : Heap} {CX : CXT} {k : Nat} {f : Addr} {fd : FuncData} {ps : List Str} {sp : Sp} (F : FnOk P w K mg base CX k f fd ps sp) : FnG P w K mg base CX k f fd ps sp :=
  ⟨F.len, fun A outer s H args us vs Q E hr _ e0 hb rv hsp => F.run A outer s H args us vs Q E hr e0 hb rv hsp⟩
section
variable {X : Cx} {CX : CXT} {k : Nat} {f : Addr} {fd : FuncData} {ps : List Str} {sp : Sp} {dvs : List V} {ds : List Value} {E : XK} {x : Str} {p pos : Pos} {e : Expr} {es : List Expr} {t : TA}
theorem pe_callG (F : FnG X.prog X.w X.K X.mg X.base CX k f fd ps sp) (gd : X.A.guards = some []) (hr : Room k X.A) (hg : Gl X x) (hm : X.mg x = some (.ref f)) (hk : PySem.W.keepIn X.K (.ref f) = true) (hb : Binds X.K fd ps ds) (hd : Vals dvs ds)
    (hx : Passes CX X E) (ha : PA X (e :: es) t) (hdb : (x == ("__debug__" : Str)) = false := by decide) (he : starEach (e :: es) X.env = (false, eval e X.env) :: starEach es X.env := by rfl) (hpl : (backTo pos (starEach es X.env)).any (·.1) = false := by rfl) :
    PE X (.Call (.Name x p) (e :: es) [] pos) (tCall sp dvs E t) := by
  refine ⟨fun pins s σ H Q I h => wpAny_Call_Name_kw (ld_glob I hg hm ?_ hdb)⟩
  refine PySem.W.callWith_K (h₀ := X.base) I.ok.mod.kin hk (thn (ha.run pos pins s σ H _ I h) fun us s1 ⟨vs, H1, I1, rv, q⟩ => ⟨I1.kIn, ?_⟩) he hpl
  have all : Vals (vs ++ dvs) (us ++ ds) := rv.append hd
  have many : (us ++ ds).length = ps.length := all.length.symm.trans (F.len _ _ _ _ q)
  refine wpAny_call (codeAny_mono (F.run X.A X.stack s1 H1 ⟨us, []⟩ (us ++ ds) (vs ++ dvs) Q E hr gd I1.env0 (hb s1 us I1.kIn many) all q) fun r s' out => ?_)
  match r, out with
  | .error e, out => exact hx pins σ H1 s1 e s' I1 out
  | .ok (.ret u), out => exact I1.after out
end
section
variable {P : Program} {w : World} {K : PySem.W.Frag} {mg : Str → Option Value} {base : Heap}
theorem Fun.okG {x qual : Str} {st : Stmt} {f : Addr} {fd : FuncData} {N ps : List Str} {k : Nat} {sp : Sp} (F : Fun K x qual st f fd) (S : FnScope N ps (defScope st)) (len : ∀ vs H Q E, sp vs H Q E → vs.length = ps.length)
    (hbody : ∀ (cdv : Value) (A : Around) (outer : List Env) (s : Shared) (H : Hp) (vs : List V) (Q : VK) (E : XK), Room k (A.deeper (envOfC qual (defScope st) s.heap.objs.size f cdv)) → (A.deeper (envOfC qual (defScope st) s.heap.objs.size f cdv)).guards = some [] →
      sp vs H Q E → ∃ t, PSs (cxOf CX0 P w K mg base N qual (defScope st) f cdv A outer s H E).nox (defBody st) t ∧ t { nx := fun _ H' => Q .non H', rt := Q } (start N vs) H) : FnG P w K mg base CX0 (k + 1) f fd ps sp := by
  obtain ⟨oc, od, kV, doc, pm, an, cdv, ct, osl, rfl, lk, hcd⟩ := F.ex
  refine ⟨len, fun A outer s H args us vs Q E hr gd e0 bound rv hsp => ?_⟩
  have old : ∀ b o, base.get? b = some o → s.heap.get? b = some o := fun b o e => (e0.bs b o e).1
  have inK : K.In s.heap := e0.mod.kin.keeps old
  have lim : s.heap.NoLimit := e0.mod.nolimit.keeps old
  obtain ⟨t, der, rd⟩ := hbody cdv A outer s H vs Q E (hr.deeper _) gd hsp
  refine codeAny_call_function hr.depth (inK _ _ lk) rfl S.co S.gen rfl (PySem.W.codeRec_of inK hcd) (bound _ _ _ _ (wpAny_newFunctionEnv_cells S.kind (fun ⟨n, v⟩ hy => ?_) fun env he s1 ic => ?_))
  · cases S.par n (List.of_mem_zip hy).1 with
    | inl q => exact .inl q
    | inr q => exact .inr ⟨q, PySem.W.cellsFrom_some _ _ _ (.inl q)⟩
  · subst he
    have I := inv_start (CX := CX0) (E := E) S hr.hd e0 (len _ _ _ _ hsp) rv ic
    refine ⟨lim.keeps ic.toInCall.keep, codeAny_func (wpAny_mono (der.nox.run [] s1 (start N vs) H _ I rd) (fun fl s' out => ?_) fun _ _ out => out)⟩
    match fl, out with
    | .ret u, ⟨v, σ', H', J, ru, q⟩ => exact ⟨v, H', J.os, J.bare, J.base, J.hok, ru, q⟩
    | .next, ⟨σ', H', J, q⟩ => exact ⟨.non, H', J.os, J.bare, J.base, J.hok, rfl, q⟩
    | .brk, ⟨_, _, _, q⟩ => exact q.elim
    | .cont, ⟨_, _, _, q⟩ => exact q.elim
end
/-- the law's call, at the heap behind the top -/
theorem enterG {P : Program} {w : World} {K : PySem.W.Frag} {mg mb : Str → Option Value} {k : Nat} {fa a : Addr} {fd : FuncData} {x : Str} {sp : Sp} {s₁ : Shared} {vs : List Value} {ns : List Int}
    (inK : K.In s₁.heap) (glob : s₁.heap.Ns mainGlobals mg) (blt : s₁.heap.Ns builtinsNs mb) (boot : ∀ x : Str, x ≠ "__name__" → mb x = bootBuiltins x) (lim : s₁.heap.NoLimit) (dig : s₁.heap.NoDigits) (gens : s₁.gens = #[])
    (obj : s₁.heap.get? a = some { cls := .type "list", data := .seq vs.toArray }) (nums : IntsAre vs ns) (few : ns.length ≤ sizeLine) (hr : Room k callerA)
    (F : ∀ base : Heap, K.In base → base.Ns mainGlobals mg → base.NoDigits → FnG P w K mg base CX0 k fa fd [x] sp) (bound : ∀ (s : Shared) (u : Value), BindsTo s fd ⟨[u], []⟩ [(x, u)])
    (keep : ∀ H : Hp, Only H → SqL K H a (ns.map V.int) → sp [.ref a] H (fun v _ => v = .bl true) fun _ _ _ => False) :
    codeAny (model P w) callerA (.call (.ref fa) ⟨[.ref a], []⟩) (fun r s' => r = .ok (.ret (.bool true)) ∧ OldK s₁.heap s'.heap ∧ s'.os = s₁.os ∧ AllBare s'.gens) s₁ := by
  have rv := vals_ints nums
  have same := nums.length
  have main : ∀ H : Hp, Only H → SqL K H a (ns.map V.int) → HOk P w H s₁.heap → (∀ b o, s₁.heap.get? b = some o → (∀ es n, o.data = .dict es n → H b = none)) → (∀ b o, K.lookup b = some o → H b = none) →
      codeAny (model P w) callerA (.call (.ref fa) ⟨[.ref a], []⟩) (fun r s' => r = .ok (.ret (.bool true)) ∧ OldK s₁.heap s'.heap ∧ s'.os = s₁.os ∧ AllBare s'.gens) s₁ := by
    intro H only seq ok nodict noK
    have ns_of : ∀ {b : Addr} {m : Str → Option Value}, s₁.heap.Ns b m → (hidT s₁.heap H).Ns b m := fun {b m} ⟨o, es, n, e, d, r⟩ => ⟨o, es, n, hidT_get e (nodict b o e es n d), d, r⟩
    have kb : K.In (hidT s₁.heap H) := fun b o e => hidT_get (inK b o e) (noK b o e)
    have md : Mod K mg (hidT s₁.heap H) := ⟨kb, ns_of glob, ⟨mb, ns_of blt, boot⟩, lim.elim fun m z => ⟨m, ns_of z.1, z.2⟩⟩
    have e0 : Env0 P w K mg (hidT s₁.heap H) callerA [] s₁ H := ⟨rfl, md, fun b o e => of_hidT e, Nat.le_of_eq (hidT_size _ _), trivial, nofun, ok, .of_eq gens⟩
    have go := (F _ kb (ns_of glob) (dig.elim fun m z => ⟨m, ns_of z.1, z.2⟩)).run callerA [] s₁ H ⟨[.ref a], []⟩ [.ref a] [.ref a] _ _ hr rfl e0 (bound s₁ (.ref a)) (.cons rfl .nil) (keep H only seq)
    refine codeAny_mono go fun r s' out => ?_
    match r, out with
    | .ok (.ret u), ⟨v, H', os, bare, un, ok', ru, q⟩ =>
      have q' : v = .bl true := q
      subst q'
      obtain rfl : u = Value.bool true := ru
      refine ⟨rfl, OldK.of_keep fun b o e => ?_, os, bare⟩
      rcases only b with z | ⟨ob, xs, z⟩
      · exact un.keep b o e z nofun nofun
      · exact (ok' b _ (un.frzs b ob _ z)).1.trans ((ok b _ z).1.symm.trans e)
  by_cases hk : ∃ o, K.lookup a = some o
  · obtain ⟨o, hk⟩ := hk
    have e : some o = some _ := (inK a o hk).symm.trans obj
    cases e
    exact main (fun _ => none) (fun _ => .inl rfl) (.inr ⟨_, vs.toArray, _, hk, rfl, rfl, rfl, by rw [List.size_toArray, same]; exact few, by simpa using rv⟩) (fun b u z => nomatch (show (none : Option HO) = some u from z)) (fun _ _ _ _ _ _ => rfl) fun _ _ _ => rfl
  · have here : ∀ b, b ≠ a → (fun b => if b = a then some (HO.frz { cls := .type "list", data := .seq vs.toArray } (.lst (ns.map V.int))) else none) b = none := fun b n => if_neg n
    refine main (fun b => if b = a then some (.frz { cls := .type "list", data := .seq vs.toArray } (.lst (ns.map V.int))) else none) (fun b => ?_) (.inl (.inr ⟨{ cls := .type "list", data := .seq vs.toArray }, if_pos rfl⟩)) (fun b u z => ?_) (fun b o e es n d => ?_) fun b o e => ?_
    · by_cases n : b = a
      · exact .inr ⟨_, _, if_pos n⟩
      · exact .inl (here b n)
    · by_cases n : b = a
      · cases (if_pos n).symm.trans z
        subst n
        exact ⟨obj, by rw [List.length_map]; exact few, vs, _, rv, obj⟩
      · cases (if_neg n).symm.trans z
    · refine here b fun n => ?_
      subst n
      cases e.symm.trans obj
      cases d
    · exact here b fun n => hk ⟨o, by rw [← n]; exact e⟩
/-- the goal that k_head leaves, from the law's promise -/
theorem walkG {l : PySem.W.OpenLaw} {n k : Nat} {q : Program} {loose : List Str} {XP : (Str → Option Value) → Heap → Prop} {YP : World → Heap → Prop} {d : DefRec} {K : Params → PySem.W.Frag} {sp : World → Sp} {x : Str}
    (hn : l.most = some n) (hn2 : n ≤ sizeLine) (hdf : d.params.defaults = []) (hr : Room k callerA) (hY : ∀ (w : World) (h : Heap), YP w h → (K w.params).In h)
    (F : ∀ (w : World) (mg : Str → Option Value) (fa : Addr) (h : Heap), (K w.params).In h → h.Ns mainGlobals mg → mg d.name = some (.ref fa) →
      ∃ fd : FuncData, (∀ (s : Shared) (u : Value), BindsTo s fd ⟨[u], []⟩ [(x, u)]) ∧ ∀ base : Heap, (K w.params).In base → base.Ns mainGlobals mg → base.NoDigits → FnG l.prog w (K w.params) mg base CX0 k fa fd [x] (sp w))
    (hsp : ∀ (w : World) (H : Hp) (a : Addr) (ns : List Int), ns.length ≤ n → Only H → SqL (K w.params) H a (ns.map V.int) → sp w [.ref a] H (fun v _ => v = .bl true) fun _ _ _ => False) :
    PySem.W.WalkO q loose XP YP l.row.toRowW d [] (fun f vs => PySem.call f vs) := by
  refine Att.attach_call hn hdf fun w s₀ s₁ mg mb fa o pm cd doc a vs ns G Y ho hd hcd name obj nums len gens => ?_
  obtain ⟨fd, bound, go⟩ := F w mg fa _ (hY w _ Y) G.T.g name
  exact enterG (hY w _ Y) G.T.g G.T.b G.T.builtins G.T.nolimit G.T.nodigits gens obj nums (Nat.le_trans len hn2) hr go bound fun H only seq => hsp w H a ns len only seq
end L2

/-! ## A5 -/
set_option Elab.async false
set_option linter.all false
set_option maxRecDepth 100000
namespace Q5
open PySem PySem.W PySem.Spec PySem.Calls PyProof.Rows
section
variable {prog : Program} {w : World} {A : Around} {E : Value → Shared → Prop} {s : Shared} {K : Frag} {x D : Addr} {ox : Obj} {od : Option Obj}
theorem find_class (hdct : hasDictIn K D = true) (ha : findIn K (.ref D) "__class__" = some (some (.builtin "object.__class__")))
    (hn : specialIn K (.builtin "object.__class__") "__get__" = some (some (.builtin "getset_descriptor.__get__"))) (htk : takesIn K (.builtin "object.__class__") = some true) :
    findObj K D od "__class__" = some (.bind (.builtin "getset_descriptor.__get__") (.builtin "object.__class__")) := by
  obtain ⟨cd, hc, _⟩ := any_some hdct
  unfold findObj
  rw [hc, Option.bind_some, ha, Option.bind_some]
  simp [hn, htk]
/-- e.__class__ of an exception of one's own, with its dict or without -/
theorem class_of (C : L2.ExcC K D) {Q : Option Value → Shared → Prop} (X : K.In s.heap) (I : InstAt s.heap x ox D od) (h : Q (some (.ref D)) { s with toks := s.toks + 1 }) : wpAny (model prog w) A (getAttr? (.ref x) "__class__") Q E s := by
  have found := find_class (od := od) C.hd C.ha C.hn C.ht
  obtain ⟨hp, g, d, t, os⟩ := s
  have isType := I.type (M := model prog w)
  have isGet := looks_findIn (M := model prog w) X C.hg
  have isHook := looks_findIn (M := model prog w) X C.hk
  have isFound := looks_find (M := model prog w) X I found
  have isExc : Looks (model prog w) hp (isInstance (.ref x) (.type "BaseException")) true := isType.andThen (looks_subIn X C.hs)
  have other : (onTheHeap (Value.ref D) && Value.builtin "BaseException.__getattribute__" == Value.builtin "object.__getattribute__") = false := by
    have e : (Value.builtin "BaseException.__getattribute__" == Value.builtin "object.__getattribute__") = false := by decide +kernel
    rw [e, Bool.and_false]
  unfold getAttr? getAttrBy? getAttrBy
  refine wpAny_bind (wpAny_mkText (wpAny_bind (wpAny_attempt (wpAny_holding (wpAny_bind (isType.at (wpAny_bind (isGet.at ?_))))))))
  show wpAny _ _ (if (onTheHeap (Value.ref D) && Value.builtin "BaseException.__getattribute__" == Value.builtin "object.__getattribute__") = true then _ else _) _ _ _
  rw [other, if_neg Bool.false_ne_true]
  unfold getAttrByItsOwn hookBefore
  rw [if_pos (show onTheHeap (Value.ref D) = true from rfl)]
  refine wpAny_bind (isHook.at (wpAny_bind (wpAny_attempt (wpAny_holding ?_))))
  unfold callGetattribute
  rw [show (false && onTheHeap (Value.builtin "BaseException.__getattribute__")) = false from rfl, if_neg Bool.false_ne_true]
  unfold boundAndCalled
  rw [PySem.F.excAttr_ValueError.ga.bind (.ref x)]
  refine wpAny_bind (wpAny_pure (wpAny_call (codeAny_call_builtin PySem.F.excAttr_ValueError.ga.plain PySem.F.entry_bexc_ga ?_)))
  refine @check_slot (model prog w) _ _ ⟨hp, g, d, t + 1, os⟩ "BaseException.__getattribute__" "BaseException" "__getattribute__" (.ref x) [.str "__class__" t] [] _ (by decide +kernel) (by decide +kernel) isExc (PySem.F.args_bexc_ga (.ref x) (.str "__class__" t)) ?_
  unfold Builtin.«object.__getattribute__»
  refine wpAny_bind (wpAny_of_eq (a := ((Value.ref x : Value), [Value.str "__class__" t])) (by first | rfl | (simp only [slotArgs]; rfl)) (wpAny_bind (wpAny_pure (wpAny_bind (isType.at (wpAny_bind (isFound.at ?_)))))))
  refine wpAny_bind (m := holding [Value.builtin "object.__class__"] (call (.builtin "getset_descriptor.__get__") [.builtin "object.__class__", .ref x, .ref D])) (wpAny_holding (wpAny_call (class_get (s := ⟨hp, g, d, t + 1, os⟩) (ox := ox) (od := od) X I C.hm ?_)))
  refine wpAny_pure ?_
  show wpAny _ _ (handedOut (.ref D)) _ _ _
  rw [handedOut_of (v := .ref D) rfl]
  first
    | exact wpAny_pure (wpAny_pure h)
    | exact wpAny_pure h
    | exact wpAny_pure (wpAny_bind (wpAny_pure (wpAny_pure h)))
theorem kit_exc (C : L2.ExcC K D) : KitX K (.ref x) (.ref D) (fun h => InstAt h x ox D od) where
  ty := fun _ _ _ I => I.type
  it := fun _ _ X _ => by
    obtain ⟨cd, hc, _⟩ := any_some C.hd
    unfold clsIn at hc
    split at hc
    · rename_i ho
      exact fun A' Q' E' s' k q => by
        unfold isType loadHead
        exact wpAny_bind (wpAny_loadPart (k _ _ (X _ _ ho)) (wpAny_pure q))
    · cases hc
  ne := fun h tp dd its n sl X htp => by
    obtain ⟨cd, hc, _⟩ := any_some C.hd
    refine Bool.eq_false_iff.mpr fun q => ?_
    obtain rfl : D = tp := Value.ref.inj (beq_iff_eq.mp q)
    unfold clsIn at hc
    split at hc
    · rename_i ho
      cases (X _ _ ho).symm.trans htp
    · cases hc
  ca := fun X I k => class_of C X I k
end
end Q5
namespace L2
open PySem PySem.Spec PyProof.Rows
section
variable {X : Cx} {a D : Addr} {oe : Obj} {d : Option Addr} {pn : List (Addr × Obj)}
theorem inst_pin {pins : List (Addr × Obj)} {σ : St} {H : Hp} {s : Shared} {dd : Addr} {fs : List (Str × V)} (hz : Zc (.ref D) (some dd) oe) (hf : ∃ vs, oe.data = .fields vs) (I : Inv (X.suite a ((a, oe) :: pn)) pins σ H s) (e : H dd = some (.xd fs)) : ∃ od, PySem.W.InstAt s.heap a oe D (some od) := by
  obtain ⟨get, _⟩ := I.pin (a, oe) (List.mem_append.mpr (.inl List.mem_cons_self))
  obtain ⟨vs, hv⟩ := hf
  have o : ObjOk X.prog X.w H s.heap dd (.xd fs) := I.hok dd _ e
  obtain ⟨mA, ns, _⟩ := o
  obtain ⟨od, ho, _⟩ := lookIn_ns ns
  exact ⟨od, get, hz.1, by unfold PySem.W.notCls; rw [hv] <;> rfl, by rw [hz.2]; exact ho⟩
/-- isinstance(e, c), e the exception that the suite holds, with a dict of its own -/
def rIsX (K : PySem.W.Frag) (D a : Addr) (cls : Value) (d : Option Addr) : List V → Hp → VK → Prop := fun xs H Q => ∃ (c : V) (u : Value) (b : Bool) (dd : Addr) (fs : List (Str × V)), xs = [.ref a, c] ∧ cls = .ref D ∧ ClsV c u ∧ PySem.W.kitOne K (.ref D) u = some b ∧ d = some dd ∧ H dd = some (.xd fs) ∧ Q (.bl b) H
theorem call_isX {cls : Value} (C : ExcC X.K D) (hz : Zc cls d oe) (hf : ∃ vs, oe.data = .fields vs) : CallR (X.suite a ((a, oe) :: pn)) (.builtin "isinstance") (rIsX X.K D a cls d) := by
  intro pins s σ H xs us Q I r h
  obtain ⟨c, u, b, dd, fs, rfl, rfl, k, e, rfl, hx, q⟩ := h
  obtain ⟨u1, u2, rfl, r1, r2⟩ := vals2 r
  cases k.eq r2
  cases r1
  obtain ⟨od, J⟩ := inst_pin hz hf I hx
  exact PySem.W.kia_one (Q5.kit_exc C) I.kIn J e (fun z => nomatch z) fun tk => ⟨.bl b, H, I.tok tk, rfl, q⟩
/-- .. (c1, c2, ..) -/
def rIsXT (K : PySem.W.Frag) (D a : Addr) (cls : Value) (d : Option Addr) : List V → Hp → VK → Prop := fun xs H Q => ∃ (tp : Addr) (cs : List V) (ws : List Value) (b : Bool) (dd : Addr) (fs : List (Str × V)), xs = [.ref a, .ref tp] ∧ cls = .ref D ∧ H tp = some (.tup cs) ∧ Paired ClsV cs ws ∧
  PySem.W.kitAny K (.ref D) ws = some b ∧ d = some dd ∧ H dd = some (.xd fs) ∧ Q (.bl b) H
theorem call_isXT {cls : Value} (C : ExcC X.K D) (hz : Zc cls d oe) (hf : ∃ vs, oe.data = .fields vs) : CallR (X.suite a ((a, oe) :: pn)) (.builtin "isinstance") (rIsXT X.K D a cls d) := by
  intro pins s σ H xs us Q I r h
  obtain ⟨tp, cs, ws, b, dd, fs, rfl, rfl, hT, k, e, rfl, hx, q⟩ := h
  obtain ⟨u1, u2, rfl, r1, r2⟩ := vals2 r
  cases r1
  cases r2
  obtain ⟨od, J⟩ := inst_pin hz hf I hx
  have o : ObjOk X.prog X.w H s.heap tp (.tup cs) := I.hok tp _ hT
  obtain ⟨_, its, rv, ⟨oc, odt, dt, sl⟩, h1, h2, n, h3⟩ := o
  cases ClsV.all k rv
  simp only at h2 h3
  subst h2 h3
  exact PySem.W.kia_tup (Q5.kit_exc C) I.kIn J h1 e (fun z => nomatch z) fun tk => ⟨.bl b, H, I.tok tk, rfl, q⟩
end
section
variable {X : Cx}
/-- xs != [], xs == [] -/
def rNil (K : PySem.W.Frag) (ne : Bool) : R2 := fun x y H Q => ∃ a b xs, x = .ref a ∧ y = .ref b ∧ SqL K H a xs ∧ SqL K H b [] ∧ Q (.bl (xs.isEmpty != ne)) H
theorem list_at {pins : List (Addr × Obj)} {σ : St} {H : Hp} {s : Shared} {a : Addr} {xs : List V} (I : Inv X pins σ H s) (h : SqL X.K H a xs) : ∃ its : List Value, its.length = xs.length ∧ s.heap.IsList a its.toArray := by
  obtain ⟨its, rv, ⟨o, n, e1, e2, _, e4⟩, _⟩ := I.list h
  exact ⟨its, rv.length.symm, o, e1, e2, n, e4⟩
theorem op_neNilL (hu : X.A.units < cLine) : OpR X (compareOp .NotEq) (rNil X.K true) := by
  intro pins s σ H x y v u Q I rx ry h
  obtain ⟨a, b, xs, rfl, rfl, h1, h2, q⟩ := h
  cases rx
  cases ry
  obtain ⟨is, l1, i1⟩ := list_at I h1
  obtain ⟨js, l2, i2⟩ := list_at I h2
  have l2' : js = [] := List.eq_nil_of_length_eq_zero l2
  subst l2'
  cases xs with
  | nil =>
    have l1' : is = [] := List.eq_nil_of_length_eq_zero l1
    subst l1'
    exact SeqAt.RcNeAt.lists (e := fun _ => true) i1 i2 rfl hu (fun j h1 _ => absurd h1 (by simp)) _ _ _ _ ⟨.bl false, H, I, rfl, q⟩
  | cons z zs =>
    refine SeqAt.RcNeAt.lists_lengths i1 i2 ?_ hu _ _ _ _ ⟨.bl true, H, I, rfl, q⟩
    have : is.length ≠ 0 := by
      rw [l1]
      simp
    simpa using this
theorem op_eqNilL (hu : X.A.units < cLine) : OpR X (compareOp .Eq) (rNil X.K false) := by
  intro pins s σ H x y v u Q I rx ry h
  obtain ⟨a, b, xs, rfl, rfl, h1, h2, q⟩ := h
  cases rx
  cases ry
  obtain ⟨is, l1, i1⟩ := list_at I h1
  obtain ⟨js, l2, i2⟩ := list_at I h2
  have l2' : js = [] := List.eq_nil_of_length_eq_zero l2
  subst l2'
  cases xs with
  | nil =>
    have l1' : is = [] := List.eq_nil_of_length_eq_zero l1
    subst l1'
    exact SeqAt.RcAt.lists (e := fun _ => true) i1 i2 rfl hu (fun j h1 _ => absurd h1 (by simp)) _ _ _ _ ⟨.bl true, H, I, rfl, q⟩
  | cons z zs =>
    refine SeqAt.RcAt.lists_lengths i1 i2 ?_ hu _ _ _ _ ⟨.bl false, H, I, rfl, q⟩
    have : is.length ≠ 0 := by
      rw [l1]
      simp
    simpa using this
end
/-- walkG, the script's bits told -/
theorem walkGB {l : PySem.W.OpenLaw} {n k : Nat} {q : Program} {loose : List Str} {XP : (Str → Option Value) → Heap → Prop} {YP : World → Heap → Prop} {d : DefRec} {K : Params → PySem.W.Frag} {sp : World → Sp} {x : Str}
    (hn : l.most = some n) (hn2 : n ≤ sizeLine) (hdf : d.params.defaults = []) (hr : Room k callerA) (hY : ∀ (w : World) (h : Heap), YP w h → (K w.params).In h)
    (F : ∀ (w : World) (mg : Str → Option Value) (fa : Addr) (h : Heap), (K w.params).In h → h.Ns mainGlobals mg → mg d.name = some (.ref fa) →
      ∃ fd : FuncData, (∀ (s : Shared) (u : Value), BindsTo s fd ⟨[u], []⟩ [(x, u)]) ∧ ∀ base : Heap, (K w.params).In base → base.Ns mainGlobals mg → base.NoDigits → FnG l.prog w (K w.params) mg base CX0 k fa fd [x] (sp w))
    (hsp : ∀ (w : World) (H : Hp) (a : Addr) (ns : List Int), ns.length ≤ n → (∀ z ∈ ns, Builtin.Int.intBits z ≤ 1048576) → Only H → SqL (K w.params) H a (ns.map V.int) → sp w [.ref a] H (fun v _ => v = .bl true) fun _ _ _ => False) :
    PySem.W.WalkO q loose XP YP l.row.toRowW d [] (fun f vs => PySem.call f vs) := by
  refine Att.attach_callB hn hdf fun w s₀ s₁ mg mb fa o pm cd doc a vs ns G Y ho hd hcd name obj nums len bits gens => ?_
  obtain ⟨fd, bound, go⟩ := F w mg fa _ (hY w _ Y) G.T.g name
  exact enterG (hY w _ Y) G.T.g G.T.b G.T.builtins G.T.nolimit G.T.nodigits gens obj nums (Nat.le_trans len hn2) hr go bound fun H only seq => hsp w H a ns len bits only seq
end L2

/-! ## M1 -/
set_option Elab.async false
set_option linter.all false
set_option maxRecDepth 100000
/-! the mathematics of reading a thing, word by word -/
namespace Rd
open PySem PySem.Spec PyProof.Rows L2 TL NumText
def figs : List Nat → List Nat
  | 45 :: r => r
  | l => l
def isFig (c : Nat) : Bool := decide (48 ≤ c) && decide (c ≤ 57)
def isNum (l : List Nat) : Bool := (decide (1 ≤ (figs l).length) && decide ((figs l).length ≤ 4000)) && (figs l).all isFig && (decide (l = [48]) || !decide ((figs l).head? = some 48))
def wNone : List Nat := [110, 111, 110, 101]
def isQuoted (l : List Nat) : Bool := decide (l.head? = some 39) && decide (1 < l.length) && !decide (10 ∈ l)
/-- what a word writes by itself -/
def leaf (x : Str) : Option PyData :=
  if tl x = wNone then some .none else if isQuoted (tl x) = true then some (.str ⟨(tl x).tail.toArray⟩) else if isNum (tl x) = true then (intText? x).map PyData.int else none
def isOpen (x : Str) : Bool := decide (tl x = [40])
def isShut (x : Str) : Bool := decide (tl x = [41])
/-- what is open, the last one ahead -/
abbrev Stk := List (List PyData)
def isBad (st : Stk) (x : Str) : Bool := decide (st.length = 1) && (!(st.getLastD []).isEmpty || isShut x)
def step (st : Stk) (x : Str) : Option Stk :=
  if isBad st x = true then none else if isOpen x = true then some ([] :: st) else if isShut x = true then (match st with
    | t :: u :: r => some ((u ++ [PyData.tuple t]) :: r)
    | _ => none) else (match st with
    | t :: r => (leaf x).map fun d => (t ++ [d]) :: r
    | [] => none)
def run : Stk → Nat → List Str → Sum Nat Stk
  | st, _, [] => .inr st
  | st, k, x :: r => match step st x with
    | none => .inl k
    | some st' => run st' (k + 1) r
def sp : Str := ⟨#[32]⟩
def words (x : Str) : List Str := Txt.split x sp
/-- the thing, or the place -/
def read (x : Str) : Sum Nat PyData := match run [[]] 0 (words x) with
  | .inl k => .inl k
  | .inr [(d :: _)] => .inr d
  | .inr _ => .inl (words x).length

/-! ### words -/
theorem spl_sum : ∀ (l acc : List Nat), ((spl [32] 0 acc l).map fun p => p.length + 1).sum = acc.length + l.length + 1
  | [], acc => by simp [spl_nil]
  | c :: r, acc => by
    by_cases h : pre [32] (c :: r) = true
    · rw [spl_hit h]
      show ((acc :: spl [32] 0 [] r).map fun p => p.length + 1).sum = _
      simp only [List.map_cons, List.sum_cons, List.length_cons]
      rw [spl_sum r []]
      simp only [List.length_nil]
      omega
    · rw [spl_miss (Bool.not_eq_true _ ▸ h), spl_sum r (acc ++ [c])]
      simp only [List.length_append, List.length_cons, List.length_nil]
      omega
theorem spl_mem {P : Nat → Prop} : ∀ (l acc : List Nat), (∀ c ∈ acc, P c) → (∀ c ∈ l, P c) → ∀ p ∈ spl [32] 0 acc l, ∀ c ∈ p, P c
  | [], acc, ha, _, p, hp, c, hc => by
    rw [spl_nil, List.mem_singleton] at hp
    subst hp
    exact ha c hc
  | d :: r, acc, ha, hl, p, hp, c, hc => by
    by_cases h : pre [32] (d :: r) = true
    · rw [spl_hit h] at hp
      rcases List.mem_cons.mp hp with e | hp
      · subst e
        exact ha c hc
      · exact spl_mem r [] (by simp) (fun c hc => hl c (List.mem_cons_of_mem _ hc)) p hp c hc
    · rw [spl_miss (Bool.not_eq_true _ ▸ h)] at hp
      exact spl_mem r (acc ++ [d]) (fun c hc => by
        rcases List.mem_append.mp hc with hc | hc
        · exact ha c hc
        · rw [List.mem_singleton] at hc
          subst hc
          exact hl _ (List.mem_cons_self ..)) (fun c hc => hl c (List.mem_cons_of_mem _ hc)) p hp c hc
theorem spl_ne : ∀ (l acc : List Nat), spl [32] 0 acc l ≠ []
  | [], acc => by simp [spl_nil]
  | c :: r, acc => by
    by_cases h : pre [32] (c :: r) = true
    · rw [spl_hit h]
      simp
    · rw [spl_miss (Bool.not_eq_true _ ▸ h)]
      exact spl_ne r _
theorem words_tl (x : Str) : (words x).map tl = spl [32] 0 [] (tl x) := split_spl x sp (by simp [sp]) (kind_ok (by decide +kernel))
def wsum (ws : List Str) : Nat := (ws.map fun w => w.length + 1).sum
theorem words_sum (x : Str) : wsum (words x) = x.length + 1 := by
  have h := spl_sum (tl x) []
  rw [← words_tl, List.map_map] at h
  unfold wsum
  rw [len_tl x]
  simp only [List.length_nil, Nat.zero_add] at h
  rw [← h]
  congr 1
theorem words_mem {P : Nat → Prop} {x : Str} (h : ∀ c ∈ tl x, P c) : ∀ w ∈ words x, ∀ c ∈ tl w, P c := fun w hw =>
  spl_mem (tl x) [] (by simp) h (tl w) (by rw [← words_tl]; exact List.mem_map_of_mem hw)
theorem words_ne (x : Str) : words x ≠ [] := fun e => spl_ne (tl x) [] (by rw [← words_tl, e]; rfl)
theorem wsum_len : ∀ ws : List Str, ws.length ≤ wsum ws
  | [] => Nat.le_refl _
  | w :: r => by
    have := wsum_len r
    unfold wsum at this ⊢
    simp only [List.map_cons, List.sum_cons, List.length_cons]
    omega
theorem wsum_mem : ∀ {ws : List Str} {w : Str}, w ∈ ws → w.length + 1 ≤ wsum ws
  | v :: r, w, h => by
    unfold wsum
    simp only [List.map_cons, List.sum_cons]
    rcases List.mem_cons.mp h with e | h
    · subst e
      omega
    · have := wsum_mem (ws := r) h
      unfold wsum at this
      omega
theorem words_len (x : Str) : (words x).length ≤ x.length + 1 := by
  rw [← words_sum]
  exact wsum_len _
theorem words_le {x w : Str} (h : w ∈ words x) : w.length ≤ x.length := by
  have := wsum_mem h
  rw [words_sum] at this
  omega

/-! ### numbers -/
theorem figs_len (l : List Nat) : (figs l).length ≤ l.length ∧ l.length ≤ (figs l).length + 1 := by
  unfold figs
  split <;> simp
theorem isNum_digits {l : List Nat} (h : isNum l = true) : AllDigits (figs l) ∧ figs l ≠ [] ∧ (figs l).length ≤ 4000 := by
  unfold isNum at h
  simp only [Bool.and_eq_true, decide_eq_true_eq, List.all_eq_true] at h
  obtain ⟨⟨⟨h1, h2⟩, h3⟩, _⟩ := h
  refine ⟨fun c hc => ?_, fun e => ?_, h2⟩
  · have := h3 c hc
    unfold isFig at this
    simpa using this
  · rw [e] at h1
    simp at h1
theorem val_lt : ∀ l : List Nat, AllDigits l → ∀ a : Nat, l.foldl (fun acc c => acc * 10 + (c - 48)) a < (a + 1) * 10 ^ l.length
  | [], _, a => by simp
  | c :: r, h, a => by
    have ih := val_lt r h.tail (a * 10 + (c - 48))
    have hc := h.head
    simp only [List.foldl_cons, List.length_cons]
    refine Nat.lt_of_lt_of_le ih ?_
    rw [Nat.pow_succ, Nat.mul_comm (10 ^ r.length) 10, ← Nat.mul_assoc]
    exact Nat.mul_le_mul_right _ (by omega)
theorem num_read {x : Str} (h : isNum (tl x) = true) : ∃ n : Int, intText? x = some n ∧ n.natAbs < 10 ^ (x.length + 1) ∧ n.natAbs < 10 ^ 4300 := by
  obtain ⟨hd, hne, hl⟩ := isNum_digits h
  have hlen := figs_len (tl x)
  rw [← len_tl] at hlen
  have hv : digitsVal (figs (tl x)) < 10 ^ (figs (tl x)).length := by
    have := val_lt _ hd 0
    unfold digitsVal
    simpa using this
  have up : ∀ k, (figs (tl x)).length ≤ k → digitsVal (figs (tl x)) < 10 ^ k := fun k hk => Nat.lt_of_lt_of_le hv (Nat.pow_le_pow_right (by decide) hk)
  by_cases hm : ∃ r, tl x = 45 :: r
  · obtain ⟨r, hr⟩ := hm
    have ef : figs (tl x) = r := by rw [hr]; rfl
    rw [ef] at hd hne hl hlen up
    have e := intText_neg (x := x) (cs := r) hr hd hne (by omega)
    exact ⟨_, e, by rw [Int.natAbs_neg, Int.natAbs_natCast]; exact up _ (by omega), by rw [Int.natAbs_neg, Int.natAbs_natCast]; exact up _ (by omega)⟩
  · have ef : figs (tl x) = tl x := by
      unfold figs
      split
      · rename_i r e
        exact absurd ⟨r, e⟩ hm
      · rfl
    rw [ef] at hd hne hl hlen up
    have e := intText_digits (x := x) hd hne (by omega)
    exact ⟨_, e, by rw [Int.natAbs_natCast]; exact up _ (by omega), by rw [Int.natAbs_natCast]; exact up _ (by omega)⟩

/-! ### how much is shown -/
def cost (d : PyData) : Nat := d.shown.length + 2
def costs (l : List PyData) : Nat := (l.map cost).sum
def costAll (st : Stk) : Nat := (st.map costs).sum
theorem costs_append (a b : List PyData) : costs (a ++ b) = costs a + costs b := by simp [costs]
theorem piled_shown : ∀ l : List PyData, piled (PyData.shownAll l) = costs l
  | [] => by simp [PyData.shownAll, costs, piled_nil]
  | d :: r => by
    have := piled_shown r
    simp only [PyData.shownAll, piled_cons, this]
    simp [costs, cost]
theorem cost_tuple (l : List PyData) : cost (.tuple l) ≤ costs l + 5 := by
  have e1 : ((("(" : String) : Str)).length = 1 := rfl
  have e3 : ∀ b : Bool, (((if b then ",)" else ")" : String) : Str)).length ≤ 2 := by decide
  unfold cost
  simp only [PyData.shown, tupleText]
  rw [strLen_append, strLen_append, e1]
  have h3 := e3 ((PyData.shownAll l).length == 1)
  rw [← piled_shown]
  by_cases h : PyData.shownAll l = []
  · rw [h] at h3 ⊢
    have : (Str.join ", " ([] : List Str)).length = 0 := rfl
    rw [this]
    omega
  · have := join_length_add _ h
    omega
/-- what is held of all that is open, behind n words that come to w -/
structure Good (n w : Nat) (st : Stk) : Prop where
  can : ∀ l ∈ st, ∀ d ∈ l, Q2.can d = true ∧ d.depth ≤ n
  few : costAll st ≤ 12 * w
def Asc (x : Str) : Prop := ∀ c ∈ tl x, c < 128
theorem canAll_of : ∀ {l : List PyData}, (∀ d ∈ l, Q2.can d = true) → Q2.canAll l = true
  | [], _ => by simp [Q2.canAll]
  | d :: r, h => by
    simp only [Q2.canAll, Bool.and_eq_true]
    exact ⟨h d (List.mem_cons_self ..), canAll_of fun e he => h e (List.mem_cons_of_mem _ he)⟩
theorem depthAll_le {n : Nat} : ∀ {l : List PyData}, (∀ d ∈ l, d.depth ≤ n) → PyData.depthAll l ≤ n
  | [], _ => by simp [PyData.depthAll]
  | d :: r, h => by
    simp only [PyData.depthAll]
    exact Nat.max_le.mpr ⟨h d (List.mem_cons_self ..), depthAll_le fun e he => h e (List.mem_cons_of_mem _ he)⟩
theorem leaf_good {x : Str} {d : PyData} (ha : Asc x) (h : leaf x = some d) : Q2.can d = true ∧ d.depth = 0 ∧ cost d ≤ 12 * (x.length + 1) := by
  unfold leaf at h
  split at h
  · cases h
    refine ⟨by simp [Q2.can], by simp [PyData.depth], ?_⟩
    have : (PyData.none.shown).length = 4 := by simp only [PyData.shown]; rfl
    unfold cost
    omega
  · split at h
    · cases h
      refine ⟨by simp [Q2.can], by simp [PyData.depth], ?_⟩
      unfold cost
      simp only [PyData.shown]
      have := PySem.StrLaws.reprText_len ⟨(tl x).tail.toArray⟩ (fun c hc => by
        have := ha c (List.mem_of_mem_tail (show c ∈ (tl x).tail from hc))
        omega)
      have e : (Str.mk (tl x).tail.toArray).length ≤ x.length := by
        rw [len_tl, tl_mk, len_tl x, List.length_tail]
        omega
      omega
    · split at h
      · rename_i hn
        obtain ⟨n, e, h1, h2⟩ := num_read hn
        rw [e] at h
        cases h
        refine ⟨?_, by simp [PyData.depth], ?_⟩
        · simp only [Q2.can]
          exact decide_eq_true h2
        · unfold cost
          simp only [PyData.shown]
          have := int_text_length_le10 (by omega) h1
          rw [PySem.ofString_length]
          omega
      · cases h
theorem costAll_cons (l : List PyData) (st : Stk) : costAll (l :: st) = costs l + costAll st := by simp [costAll]
theorem step_good {n w : Nat} {st st' : Stk} {x : Str} (ha : Asc x) (g : Good n w st) (h : step st x = some st') : Good (n + 1) (w + (x.length + 1)) st' := by
  have up : ∀ l ∈ st, ∀ d ∈ l, Q2.can d = true ∧ d.depth ≤ n + 1 := fun l hl d hd => ⟨(g.can l hl d hd).1, Nat.le_succ_of_le (g.can l hl d hd).2⟩
  have few := g.few
  unfold step at h
  split at h
  · cases h
  · split at h
    · cases h
      refine ⟨fun l hl d hd => ?_, ?_⟩
      · rcases List.mem_cons.mp hl with e | hl
        · subst e
          cases hd
        · exact up l hl d hd
      · rw [costAll_cons]
        have : costs [] = 0 := rfl
        omega
    · split at h
      · split at h
        · rename_i t u r _
          cases h
          refine ⟨fun l hl d hd => ?_, ?_⟩
          · rcases List.mem_cons.mp hl with e | hl
            · subst e
              rcases List.mem_append.mp hd with hd | hd
              · exact up u (by simp) d hd
              · rw [List.mem_singleton] at hd
                subst hd
                refine ⟨?_, ?_⟩
                · simp only [Q2.can]
                  exact canAll_of fun d hd => (g.can t (by simp) d hd).1
                · simp only [PyData.depth]
                  exact Nat.succ_le_succ (depthAll_le fun d hd => (g.can t (by simp) d hd).2)
            · exact up l (by simp [hl]) d hd
          · rw [costAll_cons, costs_append] at *
            rw [costAll_cons] at few
            have := cost_tuple t
            have e : costs [PyData.tuple t] = cost (.tuple t) := by simp [costs]
            omega
        · cases h
      · split at h
        · rename_i t r _
          cases hl : leaf x with
          | none =>
            rw [hl] at h
            cases h
          | some d =>
            rw [hl] at h
            cases h
            obtain ⟨h1, h2, h3⟩ := leaf_good ha hl
            refine ⟨fun l hl d' hd => ?_, ?_⟩
            · rcases List.mem_cons.mp hl with e | hl
              · subst e
                rcases List.mem_append.mp hd with hd | hd
                · exact up t (by simp) d' hd
                · rw [List.mem_singleton] at hd
                  subst hd
                  exact ⟨h1, by omega⟩
              · exact up l (by simp [hl]) d' hd
            · rw [costAll_cons, costs_append] at *
              have e : costs [d] = cost d := by simp [costs]
              omega
        · cases h
theorem run_good : ∀ (ws : List Str) {n w k : Nat} {st st' : Stk}, (∀ x ∈ ws, Asc x) → Good n w st → run st k ws = .inr st' → Good (n + ws.length) (w + wsum ws) st'
  | [], n, w, k, st, st', _, g, h => by
    cases h
    exact g
  | x :: r, n, w, k, st, st', ha, g, h => by
    unfold run at h
    cases hs : step st x with
    | none =>
      rw [hs] at h
      cases h
    | some s1 =>
      rw [hs] at h
      have ih := run_good r (fun y hy => ha y (List.mem_cons_of_mem _ hy)) (step_good (ha x (List.mem_cons_self ..)) g hs) h
      have e1 : n + (x :: r).length = n + 1 + r.length := by simp only [List.length_cons]; omega
      have e2 : w + wsum (x :: r) = w + (x.length + 1) + wsum r := by
        unfold wsum
        simp only [List.map_cons, List.sum_cons]
        omega
      rw [e1, e2]
      exact ih
theorem read_good {x : Str} {d : PyData} (ha : Asc x) (h : read x = .inr d) : Q2.can d = true ∧ d.depth ≤ (words x).length ∧ d.shown.length ≤ 12 * (x.length + 1) := by
  unfold read at h
  split at h
  · cases h
  · rename_i d' r' e
    cases h
    have g := run_good (words x) (n := 0) (w := 0) (words_mem ha) ⟨fun l hl d hd => (by
      rw [List.mem_singleton] at hl
      subst hl
      cases hd), by simp [costAll, costs]⟩ e
    have h1 := g.can _ (List.mem_singleton.mpr rfl) d (List.mem_cons_self ..)
    have h2 := g.few
    rw [words_sum] at h2
    have h3 := words_len x
    refine ⟨h1.1, by omega, ?_⟩
    rw [costAll_cons] at h2
    have e3 : costs (d :: r') = cost d + costs r' := by simp [costs]
    unfold cost at e3
    omega
  · cases h
end Rd

/-! ## A6 -/
set_option Elab.async false
set_option linter.all false
set_option maxRecDepth 100000
/-! more of what a reading evaluates to -/
namespace Evl
open PySem L2 TL
section
variable {K : PySem.W.Frag} {σ : L2.St} {H : Hp} {ta tb tc te to : TE} {t : TT} {x y w v : V} {r r' : R2} {z a b : Str}
theorem ev_slS {tl th : TO} {lo hi : Option Int} (h : Ev te σ H (.str z)) (h1 : EvO tl σ H lo) (h2 : EvO th σ H hi) (hz : z.length ≤ sizeLine) : Ev (tSl rSlS te tl th) σ H (.str (cutS z lo hi)) := fun H1 e Q q =>
  h H1 e _ fun H2 e2 => h1 H2 (e.trans e2) _ fun H3 e3 => h2 H3 ((e.trans e2).trans e3) _ fun H4 e4 => ⟨z, rfl, hz, q H4 ((e2.trans e3).trans e4)⟩
theorem ev_m1 {r : V → List V → Hp → VK → Prop} (h : Ev to σ H (.str a)) (h2 : Ev te σ H (.str b)) (hr : ∀ H1 (Q : VK), Q v H1 → r (.str a) [.str b] H1 Q) : Ev (tM1 r to te) σ H v := fun H1 e Q q =>
  h H1 e _ fun H2 e2 => ⟨⟨a, rfl⟩, h2 H2 (e.trans e2) _ fun H3 e3 => hr H3 Q (q H3 (e2.trans e3))⟩
theorem ev_chain {c d : Bool} (ha : Ev ta σ H x) (hb : Ev tb σ H y) (hc : c = true → Ev tc σ H w) (hr : RV r x y H (.bl c)) (hr' : c = true → RV r' y w H (.bl d)) : Ev (tChain r r' ta tb tc) σ H (.bl (c && d)) := fun H1 e Q q =>
  ha H1 e _ fun H2 e2 => hb H2 (e.trans e2) _ fun H3 e3 => hr H3 ((e.trans e2).trans e3) _ fun H4 e4 => ⟨c, rfl, by
    cases c with
    | true =>
      show tc σ H4 fun w' H5 => r' y w' H5 Q
      exact hc rfl H4 (((e.trans e2).trans e3).trans e4) _ fun H5 e5 => hr' rfl H5 ((((e.trans e2).trans e3).trans e4).trans e5) Q fun H6 e6 => q H6 ((((e2.trans e3).trans e4).trans e5).trans e6)
    | false =>
      show Q (.bl false) H4
      exact q H4 ((e2.trans e3).trans e4)⟩
theorem el_lcS {tl : TE} {j : Nat} {vs : List Nat} (f : Nat → Bool) (g : Nat → V) (h : Ev tl σ H (.str z)) (hz : z.length ≤ 40000) (hw : ∀ x, wipe ((wipe σ vs).set j (some x)) vs = wipe σ vs)
    (ht : ∀ (i c : Nat) H1, Ex H H1 → (TL.tl z)[i]? = some c → EvT t ((wipe σ vs).set j (some (.str ⟨#[c]⟩))) H1 (f i)) (he : ∀ (i c : Nat) H1, Ex H H1 → (TL.tl z)[i]? = some c → f i = true → Ev te ((wipe σ vs).set j (some (.str ⟨#[c]⟩))) H1 (g i)) :
    EvL (tLc (iStr tl) (gName j) t te vs) σ H (given z.length f g) := fun H0 e Q q => h H0 e _ fun H1 e1 => ⟨z, rfl, fun Dl hD =>
  lc_it walk_str (Cw H1 f g Dl) ⟨hD, Ex.new hD, upd_same⟩ (fun _ _ _ _ => True.intro) (fun i x H' H'' hi p y => by
    obtain ⟨rfl, c, hc, rfl⟩ := y
    have hi' : i < z.length := hi
    have hc' : (TL.tl z)[i]? = some c := by
      show z.cps.toList[i]? = some c
      rw [Array.getElem?_toList]
      exact hc
    exact ⟨hw _, cw_turn p (by omega) (ht i c H1 (e.trans e1) hc') (fun hf => he i c H1 (e.trans e1) hc' hf)⟩) (fun H' p => q Dl H' (fresh_back e1 p.1) (e1.trans p.2.1) p.2.2)⟩
theorem ev_all {bs : List Bool} (h : EvL ta σ H (bs.map V.bl)) : Ev (tCB (rAll K) (tCons ta tNil)) σ H (.bl (bs.all id)) := fun H1 e Q q =>
  h H1 e _ fun p H2 _ e2 hp => ⟨p, bs, rfl, sq_of hp, q H2 e2⟩
theorem rv_nil {ne : Bool} {p q : Addr} {xs : List V} (hp : SqL K H p xs) (hq : SqL K H q []) : RV (rNil K ne) (.ref p) (.ref q) H (.bl (xs.isEmpty != ne)) := fun H1 e _ k =>
  ⟨p, q, xs, rfl, rfl, ex_l e hp, ex_l e hq, k H1 (Ex.refl H1)⟩
theorem el_nil : EvL (tLst tNil) σ H [] := el_lst ea_nil (by decide)
theorem ev_nilN {ne : Bool} {xs : List V} (h : EvL ta σ H xs) : Ev (tOp (rNil K ne) ta (tLst tNil)) σ H (.bl (xs.isEmpty != ne)) := ev_opLL h el_nil fun _ _ _ hp hq _ => rv_nil (sq_of hp) (sq_of hq)
theorem ev_nil {ne : Bool} {p : Addr} {xs : List V} (h : Ev ta σ H (.ref p)) (hp : SqL K H p xs) : Ev (tOp (rNil K ne) ta (tLst tNil)) σ H (.bl (xs.isEmpty != ne)) := ev_opL h el_nil fun _ _ hq e => rv_nil (ex_l e hp) (sq_of hq)
theorem rc_lenS (h : z.length ≤ sizeLine) : RC (fun xs H Q => ∃ z, xs = [V.str z] ∧ z.length ≤ sizeLine ∧ Q (V.int z.length) H) [.str z] H (.int z.length) := fun H1 _ _ q => ⟨z, rfl, h, q H1 (Ex.refl H1)⟩
theorem given_all (n : Nat) (g : Nat → V) : given n (fun _ => true) g = (List.range n).map g := by
  unfold given
  rw [List.filter_eq_self.mpr (fun _ _ => rfl)]
theorem given_of {α : Type} {l : List α} {f : Nat → Bool} {g : Nat → V} {p : α → Bool} {h : α → V} (hf : ∀ i c, l[i]? = some c → f i = p c) (hg : ∀ i c, l[i]? = some c → g i = h c) : given l.length f g = (l.filter p).map h := by
  have key : ∀ n, n ≤ l.length → given n f g = ((l.take n).filter p).map h := by
    intro n
    induction n with
    | zero => intro _; rfl
    | succ n ih =>
      intro hn
      have e : l[n]? = some l[n] := List.getElem?_eq_getElem hn
      rw [List.take_add_one, e, List.filter_append, List.map_append, ← ih (by omega)]
      cases hp : p l[n] with
      | true => rw [given_yes ((hf n _ e).trans hp), hg n _ e]; simp [hp]
      | false => rw [given_no ((hf n _ e).trans hp)]; simp [hp]
  have := key l.length (Nat.le_refl _)
  rwa [List.take_length] at this
theorem given_map {α : Type} {l : List α} {g : Nat → V} {h : α → V} (hg : ∀ i c, l[i]? = some c → g i = h c) : given l.length (fun _ => true) g = l.map h := by
  rw [given_of (p := fun _ => true) (fun _ _ _ => rfl) hg, List.filter_eq_self.mpr (fun _ _ => rfl)]
theorem et_yes : EvT tYes σ H true := fun H1 _ _ q => q H1 (Ex.refl H1)
theorem s_seq {t1 t2 : TS} {D : Ends} (h : t1 { D with nx := t2 D } σ H) : tSeq t1 t2 D σ H := h
theorem s_next {D : Ends} (q : D.nx σ H) : tNext D σ H := q
theorem ev_to {te : TE} {Q : VK} (h : Ev te σ H v) (k : ∀ H1, Ex H H1 → Q v H1) : te σ H Q := h H (Ex.refl H) Q k
end
/-! ### pieces of texts -/
theorem tl_cut {z : Str} {lo hi : Option Int} : TL.tl (cutS z lo hi) = ((TL.tl z).drop (HT.sIx z.length 0 lo)).take (HT.sIx z.length z.length hi - HT.sIx z.length 0 lo) := rfl
theorem tl_from (z : Str) (k : Nat) : TL.tl (cutS z (some (k : Int)) none) = (TL.tl z).drop k := by
  rw [tl_cut, HT.sIx_nat, HT.sIx_none, TL.len_tl]
  by_cases h : k ≤ (TL.tl z).length
  · rw [Nat.min_eq_left h]
    exact List.take_of_length_le (by rw [List.length_drop]; omega)
  · rw [Nat.min_eq_right (by omega), List.drop_eq_nil_of_le (Nat.le_refl _), List.drop_eq_nil_of_le (by omega)]
    exact List.take_nil
theorem tl_to (z : Str) (k : Nat) : TL.tl (cutS z none (some (k : Int))) = (TL.tl z).take k := by
  rw [tl_cut, HT.sIx_nat, HT.sIx_none, TL.len_tl, List.drop_zero, Nat.sub_zero]
  by_cases h : k ≤ (TL.tl z).length
  · rw [Nat.min_eq_left h]
  · rw [Nat.min_eq_right (by omega), List.take_length, List.take_of_length_le (by omega)]
theorem starts_one (x : Str) (c : Nat) : Txt.startswith x ⟨#[c]⟩ = decide ((TL.tl x).head? = some c) := by
  obtain ⟨l, hl⟩ : ∃ l, TL.tl x = l := ⟨_, rfl⟩
  have hx : x = ⟨l.toArray⟩ := by rw [← hl, TL.mk_tl]
  subst hx
  rw [TL.tl_mk]
  cases l with
  | nil => rfl
  | cons d r =>
    rw [Bool.eq_iff_iff]
    unfold Txt.startswith Builtin.Str.subAt
    simp [Str.length]
end Evl

/-! ## D0 -/
set_option Elab.async false
set_option linter.all false
set_option maxRecDepth 100000
namespace L2
open PySem PySem.Spec PyProof.Rows
section
variable {X : Cx} {x : Str} {pos : Pos} {t : Tok}
theorem pe_gI {i : Int} (hg : Gl X x) (hm : X.mg x = some (.int i t)) (hd : (x == ("__debug__" : Str)) = false := by decide) : PE X (.Name x pos) (tC (.int i)) := pe_glob hg hm ⟨t, rfl⟩ hd
theorem pe_gS {z : Str} (hg : Gl X x) (hm : X.mg x = some (.str z t)) (hd : (x == ("__debug__" : Str)) = false := by decide) : PE X (.Name x pos) (tC (.str z)) := pe_glob hg hm ⟨t, rfl⟩ hd
theorem pe_gR {a : Addr} (hg : Gl X x) (hm : X.mg x = some (.ref a)) (hd : (x == ("__debug__" : Str)) = false := by decide) : PE X (.Name x pos) (tC (.ref a)) := pe_glob hg hm rfl hd
end
end L2
namespace Kk
open PySem PySem.Spec PyProof.Rows L2 TL
def topS (i : Nat) : Stmt := PySem.Challenge.pw_wiretongue_k68_texts_of_no_thing.main.body.getD i (.Pass ⟨0, 0, 0, 0⟩)
abbrev s_init : Stmt := inClass (topS 1) 0
abbrev N_init : List Str := ["self", "place"]
theorem sc_init : FnScope N_init ["self", "place"] (defScope s_init) := ⟨rfl, rfl, rfl, by decide +kernel, rfl, by decide +kernel, by decide +kernel⟩
abbrev s_is_number : Stmt := topS 12
abbrev N_is_number : List Str := ["word", "figures", "sign"]
theorem sc_is_number : FnScope N_is_number ["word"] (defScope s_is_number) := ⟨rfl, rfl, rfl, by decide +kernel, rfl, by decide +kernel, by decide +kernel⟩
abbrev s_part_in : Stmt := topS 13
abbrev N_part_in : List Str := ["word", "at"]
theorem sc_part_in : FnScope N_part_in ["word", "at"] (defScope s_part_in) := ⟨rfl, rfl, rfl, by decide +kernel, rfl, by decide +kernel, by decide +kernel⟩
abbrev s_read_thing : Stmt := topS 14
abbrev N_read_thing : List Str := ["text", "words", "open_ones", "at", "word", "shut", "first", "others"]
theorem sc_read_thing : FnScope N_read_thing ["text"] (defScope s_read_thing) := ⟨rfl, rfl, rfl, by decide +kernel, rfl, by decide +kernel, by decide +kernel⟩
abbrev s__law_deck : Stmt := topS 16
abbrev N__law_deck : List Str := ["_law_script", "_law_cells", "_law_seed", "_law_cell"]
theorem sc__law_deck : FnScope N__law_deck ["_law_script"] (defScope s__law_deck) := ⟨rfl, rfl, rfl, by decide +kernel, rfl, by decide +kernel, by decide +kernel⟩
abbrev s__law_draw : Stmt := topS 17
abbrev N__law_draw : List Str := ["_law_deck_here", "_law_sides", "_law_at", "_law_number", "_law_cell"]
theorem sc__law_draw : FnScope N__law_draw ["_law_deck_here", "_law_sides"] (defScope s__law_draw) := ⟨rfl, rfl, rfl, by decide +kernel, rfl, by decide +kernel, by decide +kernel⟩
abbrev s__law_thing : Stmt := topS 18
abbrev N__law_thing : List Str := ["_law_deck_here", "_law_deep", "_law_way", "_law_signs", "_law_some", "_law_k"]
theorem sc__law_thing : FnScope N__law_thing ["_law_deck_here", "_law_deep"] (defScope s__law_thing) := ⟨rfl, rfl, rfl, by decide +kernel, rfl, by decide +kernel, by decide +kernel⟩
abbrev s__law_words_of : Stmt := topS 19
abbrev N__law_words_of : List Str := ["_law_thing_here", "_law_found", "_law_part"]
theorem sc__law_words_of : FnScope N__law_words_of ["_law_thing_here"] (defScope s__law_words_of) := ⟨rfl, rfl, rfl, by decide +kernel, rfl, by decide +kernel, by decide +kernel⟩
abbrev s__law_is_number : Stmt := topS 20
abbrev N__law_is_number : List Str := ["_law_word", "_law_figures", "_law_sign"]
theorem sc__law_is_number : FnScope N__law_is_number ["_law_word"] (defScope s__law_is_number) := ⟨rfl, rfl, rfl, by decide +kernel, rfl, by decide +kernel, by decide +kernel⟩
abbrev s__law_read : Stmt := topS 21
abbrev N__law_read : List Str := ["_law_line", "_law_words", "_law_open_ones", "_law_k", "_law_word", "_law_alone", "_law_shut", "_law_said"]
theorem sc__law_read : FnScope N__law_read ["_law_line"] (defScope s__law_read) := ⟨rfl, rfl, rfl, by decide +kernel, rfl, by decide +kernel, by decide +kernel⟩
abbrev s__law_heard : Stmt := topS 22
abbrev N__law_heard : List Str := ["_law_line", "_law_found", "e"]
theorem sc__law_heard : FnScope N__law_heard ["_law_line"] (defScope s__law_heard) := ⟨rfl, rfl, rfl, by decide +kernel, rfl, by decide +kernel, by decide +kernel⟩
abbrev s__law_right : Stmt := topS 23
abbrev N__law_right : List Str := ["_law_line", "_law_due"]
theorem sc__law_right : FnScope N__law_right ["_law_line"] (defScope s__law_right) := ⟨rfl, rfl, rfl, by decide +kernel, rfl, by decide +kernel, by decide +kernel⟩
abbrev s__law_bent : Stmt := topS 24
abbrev N__law_bent : List Str := ["_law_deck_here", "_law_line", "_law_way", "_law_words", "_law_spot", "_law_at", "_law_some", "_law_word", "_law_sign", "_law_two", "_law_rows", "_law_said"]
theorem sc__law_bent : FnScope N__law_bent ["_law_deck_here", "_law_line", "_law_way"] (defScope s__law_bent) := ⟨rfl, rfl, rfl, by decide +kernel, rfl, by decide +kernel, by decide +kernel⟩
abbrev s_law : Stmt := topS 25
abbrev N_law : List Str := ["_law_script", "_law_deck_here", "_law_fixed", "_law_line", "_law_turn", "_law_ways", "_law_way", "_law_more", "_law_twice", "_law_bent_here", "_law_k"]
theorem sc_law : FnScope N_law ["_law_script"] (defScope s_law) := ⟨rfl, rfl, rfl, by decide +kernel, rfl, by decide +kernel, by decide +kernel⟩
/-- what the top has written -/
structure Txt (K : PySem.W.Frag) (mg : Str → Option Value) (A : Nat → Addr) (fd : Nat → FuncData) (tk : Nat → Tok) : Prop where
  F_is_number : Fun K "is_number" "is_number" s_is_number (A 12) (fd 12)
  g_is_number : mg "is_number" = some (.ref (A 12))
  b_is_number : Binds K (fd 12) ["word"] []
  F_part_in : Fun K "part_in" "part_in" s_part_in (A 13) (fd 13)
  g_part_in : mg "part_in" = some (.ref (A 13))
  b_part_in : Binds K (fd 13) ["word", "at"] []
  F_read_thing : Fun K "read_thing" "read_thing" s_read_thing (A 14) (fd 14)
  g_read_thing : mg "read_thing" = some (.ref (A 14))
  b_read_thing : Binds K (fd 14) ["text"] []
  F__law_deck : Fun K "_law_deck" "_law_deck" s__law_deck (A 16) (fd 16)
  g__law_deck : mg "_law_deck" = some (.ref (A 16))
  b__law_deck : Binds K (fd 16) ["_law_script"] []
  F__law_draw : Fun K "_law_draw" "_law_draw" s__law_draw (A 17) (fd 17)
  g__law_draw : mg "_law_draw" = some (.ref (A 17))
  b__law_draw : Binds K (fd 17) ["_law_deck_here", "_law_sides"] []
  F__law_thing : Fun K "_law_thing" "_law_thing" s__law_thing (A 18) (fd 18)
  g__law_thing : mg "_law_thing" = some (.ref (A 18))
  b__law_thing : Binds K (fd 18) ["_law_deck_here", "_law_deep"] []
  F__law_words_of : Fun K "_law_words_of" "_law_words_of" s__law_words_of (A 19) (fd 19)
  g__law_words_of : mg "_law_words_of" = some (.ref (A 19))
  b__law_words_of : Binds K (fd 19) ["_law_thing_here"] []
  F__law_is_number : Fun K "_law_is_number" "_law_is_number" s__law_is_number (A 20) (fd 20)
  g__law_is_number : mg "_law_is_number" = some (.ref (A 20))
  b__law_is_number : Binds K (fd 20) ["_law_word"] []
  F__law_read : Fun K "_law_read" "_law_read" s__law_read (A 21) (fd 21)
  g__law_read : mg "_law_read" = some (.ref (A 21))
  b__law_read : Binds K (fd 21) ["_law_line"] []
  F__law_heard : Fun K "_law_heard" "_law_heard" s__law_heard (A 22) (fd 22)
  g__law_heard : mg "_law_heard" = some (.ref (A 22))
  b__law_heard : Binds K (fd 22) ["_law_line"] []
  F__law_right : Fun K "_law_right" "_law_right" s__law_right (A 23) (fd 23)
  g__law_right : mg "_law_right" = some (.ref (A 23))
  b__law_right : Binds K (fd 23) ["_law_line"] []
  F__law_bent : Fun K "_law_bent" "_law_bent" s__law_bent (A 24) (fd 24)
  g__law_bent : mg "_law_bent" = some (.ref (A 24))
  b__law_bent : Binds K (fd 24) ["_law_deck_here", "_law_line", "_law_way"] []
  F_law : Fun K "law" "law" s_law (A 25) (fd 25)
  g_law : mg "law" = some (.ref (A 25))
  b_law : Binds K (fd 25) ["_law_script"] []
  g_OPEN : mg "OPEN" = some (.str "(" (tk 6))
  g_SHUT : mg "SHUT" = some (.str ")" (tk 7))
  g_NONE : mg "NONE" = some (.str "none" (tk 8))
  g_QUOTE : mg "QUOTE" = some (.str "'" (tk 9))
  g_FIGURES : mg "FIGURES" = some (.str "0123456789" (tk 10))
  g_MOST_FIGURES : mg "MOST_FIGURES" = some (.int 4000 (tk 11))
  m_Exception : mg "Exception" = none
  m_KeyError : mg "KeyError" = none
  m_ValueError : mg "ValueError" = none
  m_all : mg "all" = none
  m_enumerate : mg "enumerate" = none
  m_int : mg "int" = none
  m_isinstance : mg "isinstance" = none
  m_len : mg "len" = none
  m_list : mg "list" = none
  m_range : mg "range" = none
  m_repr : mg "repr" = none
  m_str : mg "str" = none
  m_tuple : mg "tuple" = none
  g_NoText : mg "NoText" = some (.ref (A 1))
  g_NoName : mg "NoName" = some (.ref (A 2))
  g_NoPath : mg "NoPath" = some (.ref (A 3))
  g_WireError : mg "WireError" = some (.ref (A 4))
  F_init : Fun K "__init__" "NoText.__init__" s_init (A 100) (fd 100)
  b_init : Binds K (fd 100) ["self", "place"] []
  oex : OexC K (A 1)
  i_NoText : PySem.W.findIn K (.ref (A 1)) "__init__" = some (some (.ref (A 100)))
  t_init : PySem.W.typeIn K (.ref (A 100)) = some (.type "function")
  place : PySem.W.findIn K (.ref (A 1)) "place" = some none
  vV : PySem.W.findCls K (.type "ValueError") (.type "type") "__init__" = some (.val (.builtin "ValueError.__init__"))
  exc : ExcC K (A 1)
  xf : XfC K (A 1)
  exm : PySem.W.exmOne K (.ref (A 1)) (.ref (A 1)) = some true
  kit1 : PySem.W.kitOne K (.ref (A 1)) (.type "ValueError") = some true
  kit2 : PySem.W.kitAny K (.ref (A 1)) [.ref (A 4), .ref (A 2), .ref (A 3)] = some false
end Kk

/-! ## D1 -/
set_option Elab.async false
set_option linter.all false
set_option maxRecDepth 100000
namespace Kk
open PySem PySem.Spec PyProof.Rows L2 Evl Rd

theorem sel_figs (x : Str) : TL.tl (if Txt.startswith x ⟨#[45]⟩ = true then cutS x (some 1) none else x) = figs (TL.tl x) := by
  rw [starts_one]
  cases h : TL.tl x with
  | nil => simp [h, figs]
  | cons c r =>
    by_cases hc : c = 45
    · subst hc
      rw [if_pos (by simp)]
      rw [show (1 : Int) = ((1 : Nat) : Int) from rfl, tl_from, h]
      rfl
    · rw [if_neg (by simp [hc]), h]
      unfold figs
      split
      · rename_i e
        cases e
        exact absurd rfl hc
      · rfl
theorem fig_in (c : Nat) : decide (c ∈ (Str.ofString "0123456789").cps.toList) = isFig c := by
  have e : (Str.ofString "0123456789").cps.toList = [48, 49, 50, 51, 52, 53, 54, 55, 56, 57] := by decide +kernel
  rw [e]
  unfold isFig
  rw [Bool.eq_iff_iff]
  simp only [decide_eq_true_eq, Bool.and_eq_true, List.mem_cons, List.not_mem_nil, or_false]
  omega
theorem lst_ne {c d : Nat} : decide (V.str ⟨#[c]⟩ = V.str ⟨#[d]⟩) = decide (c = d) := by
  rw [Bool.eq_iff_iff]
  simp
theorem isNum_eq {x f : Str} {l : List Nat} (hf : TL.tl f = figs l) (hx : TL.tl x = l) (b : Bool) (hb : b = (decide ((1 : Int) ≤ f.length) && decide ((f.length : Int) ≤ 4000))) :
    isNum l = (if (!b || !((figs l).all isFig)) = true then false else (decide (V.str x = V.str (Str.ofString "0")) || !decide ((figs l).head? = some 48))) := by
  have h1 : b = (decide (1 ≤ (figs l).length) && decide ((figs l).length ≤ 4000)) := by
    rw [hb, ← hf, ← TL.len_tl]
    rw [Bool.eq_iff_iff]
    simp only [Bool.and_eq_true, decide_eq_true_eq]
    omega
  have h2 : decide (V.str x = V.str (Str.ofString "0")) = decide (l = [48]) := by
    rw [Bool.eq_iff_iff]
    simp only [decide_eq_true_eq, V.str.injEq]
    constructor
    · intro e
      rw [← hx, e]
      decide +kernel
    · intro e
      refine TL.ext_tl ?_
      rw [hx, e]
      decide +kernel
  unfold isNum
  rw [h1, h2]
  cases (decide (1 ≤ (figs l).length) && decide ((figs l).length ≤ 4000)) <;> cases ((figs l).all isFig) <;> simp
section
variable {P : Program} {w : World} {K : PySem.W.Frag} {mg : Str → Option Value} {base : Heap} {A : Nat → Addr} {fd : Nat → FuncData} {tk : Nat → Tok}
def spNum : Sp := fun vs H Q _ => ∃ x : Str, vs = [.str x] ∧ x.length ≤ 40000 ∧ ∀ H', Ex H H' → Q (.bl (isNum (TL.tl x))) H'
theorem ok_is_number (T : Txt K mg A fd tk) : FnOk P w K mg base CX0 1 (A 12) (fd 12) ["word"] spNum := by
  refine T.F_is_number.ok sc_is_number (fun vs H Q E h => ?_) (fun cdv A' outer s H vs Q E hr h => ?_)
  · obtain ⟨x, rfl, _⟩ := h
    rfl
  · obtain ⟨x, rfl, hx, q⟩ := h
    refine ⟨_, (pss_cons (ps_set (i := 1) sc_is_number.nd rfl (.inl rfl) (pe_ifExp (pt_val (pe_m1 PySem.F.slot_str_startswith PySem.F.type_str_startswith mt_startswith (pv 0) pe_str)) (pe_slice sl_str (pv 0) (po_some pe_int) po_none) (pv 0)))
  (pss_cons (ps_if (PW.pt (pw_or (pt_not (pt_chain op_le op_le pe_int (pe_callB call_len_str (by rfl) T.m_len PySem.boot_len (pa_cons (pv 1) pa_nil)) (pe_gI rfl T.g_MOST_FIGURES))) (pw_or1 (pt_not (pt_val (pe_callB (cr_all rfl) (by rfl) T.m_all (by decide +kernel) (pa_cons (pe_lc (own := [("sign", 2)]) (g := gName 2) (tt := tYes) rfl sc_is_number.nd (pi_str (pv 1)) (blkOk_by (own := [("sign", 2)]) (N := N_is_number) (sc := (defScope s_is_number)) (by decide +kernel)) (fun _ _ _ _ _ => (pg_name (i := 2) sc_is_number.nd rfl (.inl rfl))) (fun _ _ _ _ _ => pts_nil) (fun _ _ _ _ _ => (pe_cmpR op_in_sign (pv 2) (pe_gS rfl T.g_FIGURES) rfl))) pa_nil)))))))
    (pss_one (ps_ret pe_bl))
    pss_nil)
  (pss_one (ps_ret (pe_or (pe_cmpR op_eq (pv 0) pe_str (nomark _)) (pe_one (pe_cmpR op_ne (pe_ix ix_str (pv 1) pe_int (fun _ _ => rfl)) pe_str (nomark _)))))))), ?_⟩
    obtain ⟨f, hf, hl, hsel⟩ : ∃ f : Str, TL.tl f = figs (TL.tl x) ∧ f.length ≤ 40000 ∧ f = if Txt.startswith x ⟨#[45]⟩ = true then cutS x (some 1) none else x := ⟨_, sel_figs x, by
      split
      · exact Nat.le_trans (cutS_length _ _ _) hx
      · exact hx, rfl⟩
    have hx' : x.length ≤ sizeLine := Nat.le_trans hx (by decide)
    have hl' : f.length ≤ sizeLine := Nat.le_trans hl (by decide)
    -- figures
    refine s_asg (v := .str f) (ev_if (b := Txt.startswith x ⟨#[45]⟩) (et_B (ev_m1 (ev_var rfl) ev_c fun _ _ q => ⟨_, _, rfl, rfl, q⟩)) (fun e => ?_) fun e => ?_) fun H1 e1 => ?_
    · rw [hsel, if_pos e]
      exact ev_slS (ev_var rfl) (eo_some ev_c) eo_none hx'
    · rw [hsel, if_neg (by rw [e]; decide)]
      exact ev_var rfl
    -- the test
    have hall : given f.length (fun _ => true) (fun i => V.bl (isFig ((TL.tl f).getD i 0))) = ((TL.tl f).map isFig).map V.bl := by
      rw [TL.len_tl, List.map_map]
      exact given_map fun i c hc => by simp [List.getD, hc]
    refine s_if (b := !(decide ((1 : Int) ≤ f.length) && decide ((f.length : Int) ≤ 4000)) || !(((TL.tl f).map isFig).all id)) (et_or (et_not (et_test (ev_chain (y := .int f.length) ev_c (ev_cb (ea_cons (ev_var rfl) ea_nil) (rc_lenS hl')) (fun _ => ev_c) rv_I0 fun _ => rv_I0)))
      fun _ => et_not (et_B (ev_all (by rw [← hall]; exact el_lcS _ _ (ev_var rfl) hl (fun _ => rfl) (fun _ _ _ _ _ => et_yes) fun i c H2 _ hc _ => ev_is (ev_op (ev_var rfl) ev_c fun H3 _ Q k => ⟨c, _, rfl, rfl, k H3 (Ex.refl _)⟩) (by rw [fig_in]; simp [List.getD, hc]))))) (fun hb H2 e2 => ?_) fun hb H2 e2 => ?_
    · refine s_ret ev_c fun H3 e3 => ?_
      have r := q H3 ((e1.trans e2).trans e3)
      rw [isNum_eq hf rfl _ rfl, if_pos (by rw [← hb, hf, List.all_map]; rfl)] at r
      exact r
    · have r := fun H3 e => q H3 ((e1.trans e2).trans e)
      rw [isNum_eq hf rfl _ rfl, if_neg (by rw [hf, List.all_map] at hb; exact fun z => Bool.false_ne_true (hb.symm.trans z))] at r
      have hne : TL.tl f ≠ [] := fun z => by
        rw [TL.len_tl, z] at hb
        simp at hb
      obtain ⟨c, rest, hc⟩ := List.exists_cons_of_ne_nil hne
      refine s_ret (ev_orV (a := decide (V.str x = V.str (Str.ofString "0"))) (ev_op (ev_var rfl) ev_c (rv_eq rfl)) fun _ => ev_is (ev_op (ev_op (ev_var rfl) ev_c (fun H3 _ Q k => ⟨f, 0, c, rfl, rfl, hl', (by rw [show f.cps.toList = TL.tl f from rfl, hc]; exact atI_nat (j := 0) rfl), k H3 (Ex.refl _)⟩)) ev_c (rv_ne rfl)) rfl) fun H3 e3 => ?_
      have e0 : (V.str (Str.ofString "0")) = V.str ⟨#[48]⟩ := by decide +kernel
      have e4 : decide (V.str ⟨#[c]⟩ = V.str (Str.ofString "0")) = decide ((figs (TL.tl x)).head? = some 48) := by
        rw [e0, lst_ne, ← hf, hc]
        simp
      rw [e4]
      exact r H3 e3

theorem filter_nil_iff {α : Type} (p : α → Bool) : ∀ l : List α, ((l.filter fun c => !p c).map fun _ => V.non).isEmpty = l.all p
  | [] => rfl
  | c :: r => by
    have := filter_nil_iff p r
    cases h : p c with
    | true => simpa [h] using this
    | false => simp [h]
theorem ok_law_is_number (T : Txt K mg A fd tk) : FnOk P w K mg base CX0 1 (A 20) (fd 20) ["_law_word"] spNum := by
  refine T.F__law_is_number.ok sc__law_is_number (fun vs H Q E h => ?_) (fun cdv A' outer s H vs Q E hr h => ?_)
  · obtain ⟨x, rfl, _⟩ := h
    rfl
  · obtain ⟨x, rfl, hx, q⟩ := h
    refine ⟨_, (pss_cons (ps_set (i := 1) sc__law_is_number.nd rfl (.inl rfl) (pe_slice sl_str (pv 0) (po_some (pe_callTy call_int1 (by rfl) T.m_int (by decide +kernel) (pa_cons (pe_cmpR op_eq (pe_slice sl_str (pv 0) po_none (po_some pe_int)) pe_str (nomark _)) pa_nil))) po_none))
  (pss_cons (ps_if (PW.pt (pw_or (pt_not (pt_chain op_le op_le pe_int (pe_callB call_len_str (by rfl) T.m_len PySem.boot_len (pa_cons (pv 1) pa_nil)) pe_int)) (pw_or1 (pt_cmpR (op_neNilL hr.units0) (pe_lc (own := [("_law_sign", 2)]) (g := gName 2) rfl sc__law_is_number.nd (pi_str (pv 1)) (blkOk_by (own := [("_law_sign", 2)]) (N := N__law_is_number) (sc := (defScope s__law_is_number)) (by decide +kernel)) (fun _ _ _ _ _ => (pg_name (i := 2) sc__law_is_number.nd rfl (.inl rfl))) (fun _ _ _ _ _ => pts_one (pt_cmpR op_notIn_sign (pv 2) pe_str rfl)) (fun _ _ _ _ _ => pv 2)) (pe_lst pa_nil) (nomark _)))))
    (pss_one (ps_ret pe_bl))
    pss_nil)
  (pss_one (ps_ret (pe_or (pe_cmpR op_eq (pv 0) pe_str (nomark _)) (pe_one (pe_cmpR op_ne (pe_ix ix_str (pv 1) pe_int (fun _ _ => rfl)) pe_str (nomark _)))))))), ?_⟩
    have e45 : (Str.ofString "-") = ⟨#[45]⟩ := by decide +kernel
    have hd : decide (V.str (cutS x none (some 1)) = V.str (Str.ofString "-")) = Txt.startswith x ⟨#[45]⟩ := by
      rw [starts_one, e45, Bool.eq_iff_iff]
      simp only [decide_eq_true_eq, V.str.injEq]
      have h1 : TL.tl (cutS x none (some ((1 : Nat) : Int))) = (TL.tl x).take 1 := tl_to x 1
      constructor
      · intro e
        have h2 : TL.tl (cutS x none (some ((1 : Nat) : Int))) = [45] := congrArg TL.tl e
        rw [h1] at h2
        cases hh : TL.tl x with
        | nil => rw [hh] at h2; simp at h2
        | cons c r => rw [hh] at h2; simpa using h2
      · intro e
        refine TL.ext_tl (h1.trans ?_)
        cases hh : TL.tl x with
        | nil => rw [hh] at e; simp at e
        | cons c r => rw [hh] at e; simp at e; subst e; rfl
    obtain ⟨f, hf, hl, hsel⟩ : ∃ f : Str, TL.tl f = figs (TL.tl x) ∧ f.length ≤ 40000 ∧ cutS x (some (if Txt.startswith x ⟨#[45]⟩ = true then 1 else 0)) none = f := by
      refine ⟨_, ?_, Nat.le_trans (cutS_length _ _ _) hx, rfl⟩
      rw [← sel_figs x]
      split
      · rfl
      · rw [show (0 : Int) = ((0 : Nat) : Int) from rfl, tl_from, List.drop_zero]
    have hx' : x.length ≤ sizeLine := Nat.le_trans hx (by decide)
    have hl' : f.length ≤ sizeLine := Nat.le_trans hl (by decide)
    refine s_asg (v := .str f) (ev_is (ev_slS (ev_var rfl) (eo_some (ev_cb (ea_cons (ev_op (ev_slS (ev_var rfl) eo_none (eo_some ev_c) hx') ev_c (rv_eq rfl)) ea_nil) fun H1 _ _ k => .inr ⟨_, rfl, k H1 (Ex.refl _)⟩)) eo_none hx') (by rw [hd, hsel])) fun H1 e1 => ?_
    have hall : (given f.length (fun i => !isFig ((TL.tl f).getD i 0)) (fun i => V.str ⟨#[(TL.tl f).getD i 0]⟩)) = ((TL.tl f).filter fun c => !isFig c).map fun c => V.str ⟨#[c]⟩ := by
      rw [TL.len_tl]
      exact given_of (fun i c hc => by simp [List.getD, hc]) fun i c hc => by simp [List.getD, hc]
    have hemp : (((TL.tl f).filter fun c => !isFig c).map fun c => V.str ⟨#[c]⟩).isEmpty = (TL.tl f).all isFig := by
      rw [← filter_nil_iff isFig (TL.tl f)]
      simp
    refine s_if (b := !(decide ((1 : Int) ≤ f.length) && decide ((f.length : Int) ≤ 4000)) || !((TL.tl f).all isFig)) (et_or (et_not (et_test (ev_chain (y := .int f.length) ev_c (ev_cb (ea_cons (ev_var rfl) ea_nil) (rc_lenS hl')) (fun _ => ev_c) rv_I0 fun _ => rv_I0)))
      fun _ => et_test (ev_is (ev_nilN (ne := true) (xs := ((TL.tl f).filter fun c => !isFig c).map fun c => V.str ⟨#[c]⟩) (by
        rw [← hall]
        exact el_lcS _ _ (ev_var rfl) hl (fun _ => rfl) (fun i c H2 _ hc => et_test (ev_is (ev_op (ev_var rfl) ev_c fun H3 _ Q k => ⟨c, _, rfl, rfl, k H3 (Ex.refl _)⟩) (by rw [fig_in]; simp [List.getD, hc]))) fun i c H2 _ hc _ => ev_is (ev_var rfl) (by simp [List.getD, hc]))) (by rw [hemp]; simp))) (fun hb H2 e2 => ?_) fun hb H2 e2 => ?_
    · refine s_ret ev_c fun H3 e3 => ?_
      have r := q H3 ((e1.trans e2).trans e3)
      rw [isNum_eq hf rfl _ rfl, if_pos (by rw [← hb, hf])] at r
      exact r
    · have r := fun H3 e => q H3 ((e1.trans e2).trans e)
      rw [isNum_eq hf rfl _ rfl, if_neg (by rw [hf] at hb; exact fun z => Bool.false_ne_true (hb.symm.trans z))] at r
      have hne : TL.tl f ≠ [] := fun z => by
        rw [TL.len_tl, z] at hb
        simp at hb
      obtain ⟨c, rest, hc⟩ := List.exists_cons_of_ne_nil hne
      refine s_ret (ev_orV (a := decide (V.str x = V.str (Str.ofString "0"))) (ev_op (ev_var rfl) ev_c (rv_eq rfl)) fun _ => ev_is (ev_op (ev_op (ev_var rfl) ev_c (fun H3 _ Q k => ⟨f, 0, c, rfl, rfl, hl', (by rw [show f.cps.toList = TL.tl f from rfl, hc]; exact atI_nat (j := 0) rfl), k H3 (Ex.refl _)⟩)) ev_c (rv_ne rfl)) rfl) fun H3 e3 => ?_
      have e0 : (V.str (Str.ofString "0")) = V.str ⟨#[48]⟩ := by decide +kernel
      have e4 : decide (V.str ⟨#[c]⟩ = V.str (Str.ofString "0")) = decide ((figs (TL.tl x)).head? = some 48) := by
        rw [e0, lst_ne, ← hf, hc]
        simp
      rw [e4]
      exact r H3 e3
end
end Kk

/-! ## D2 -/
set_option Elab.async false
set_option linter.all false
set_option maxRecDepth 100000
namespace Kk
open PySem PySem.Spec PyProof.Rows L2 Evl Rd
theorem ex_set {H H1 H2 : Hp} {p : Addr} {o : HO} (e : Ex H H1) (n : H p = none) : Ex H (upd H1 p o) := Ex.mut e n
section
variable {P : Program} {w : World} {K : PySem.W.Frag} {mg : Str → Option Value} {base : Heap} {A : Nat → Addr} {fd : Nat → FuncData} {tk : Nat → Tok}
def spInit (C : Addr) : Sp := fun vs H Q _ => ∃ (a : Addr) (v : V), vs = [.ref a, v] ∧ H a = some (exo a C none) ∧ ∀ dx, H dx = none → dx ≠ a → Q .non (upd (upd H dx (exd dx [("place", v)])) a (exo a C (some dx)))
theorem ok_init (T : Txt K mg A fd tk) : FnOk P w K mg base CX0 1 (A 100) (fd 100) ["self", "place"] (spInit (A 1)) := by
  refine T.F_init.ok sc_init (fun vs H Q E h => ?_) (fun cdv A' outer s H vs Q E hr h => ?_)
  · obtain ⟨a, v, rfl, _⟩ := h
    rfl
  · obtain ⟨a, v, rfl, ha, q⟩ := h
    refine ⟨_, pss_cons (ps_expr (pe_veinit (by rfl) T.m_ValueError T.vV (pa_cons (pv 0) (pa_cons pe_str pa_nil)))) (pss_one (ps_ost (pv 0) (pv 1))), ?_⟩
    exact ⟨_, rfl, a, A 1, [_], rfl, by decide, T.oex, ha, _, rfl, _, rfl, a, A 1, rfl, T.oex, T.place, .inl ⟨ha, fun dx n ne => q dx n ne⟩⟩
/-- raise NoText((0, k)): what leaves -/
def Leaves (C : Addr) (k : Int) (H : Hp) (E : XK) : Prop := ∀ H' t dx, Ex H H' → H' t = some (.tup [.int 0, .int k]) → H' dx = some (.xd [("place", .ref t)]) → E (.ref C) (some dx) H'
theorem Leaves.on {C : Addr} {k : Int} {H H1 : Hp} {E : XK} (h : Leaves C k H E) (e : Ex H H1) : Leaves C k H1 E := fun H' t dx e' => h H' t dx (e.trans e')
theorem raises_it {C : Addr} {k : Int} {H : Hp} {E : XK} (h : Leaves C k H E) {ta : TA} {σ : L2.St} (ha : ∀ Q : List V → Hp → Prop, (∀ t H1, Ex H H1 → H1 t = some (.tup [.int 0, .int k]) → Q [.ref t] H1) → ta σ H Q) :
    tMkO C (spInit C) [] ta σ H (fun cls d H' => E cls d H') := by
  refine ha _ fun t H1 e1 ht => ⟨by show 1 ≤ 1000; decide, fun a na => ⟨a, .ref t, rfl, upd_same, fun dx nd ne => ⟨rfl, dx, [("place", .ref t)], upd_same, ?_, ?_, ?_⟩⟩⟩
  · rw [upd_ne ne, upd_same]
  · rwa [upd_ne ne] at nd
  · have nd1 : H1 dx = none := by rwa [upd_ne ne] at nd
    have keep : Ex H1 (upd (del (upd (upd (upd H1 a (exo a C none)) dx (exd dx [("place", .ref t)])) a (exo a C (some dx))) a) dx (.xd [("place", .ref t)])) := fun b o hb => by
      have n1 : b ≠ a := ne_of_none hb na
      have n2 : b ≠ dx := ne_of_none hb nd1
      rw [upd_ne n2, del_ne n1, upd_ne n1, upd_ne n2, upd_ne n1]
      exact hb
    exact h _ t dx (e1.trans keep) (keep _ _ ht) upd_same
theorem pair_of {k : Int} {H : Hp} {σ : L2.St} {tb : TE} (hb : Ev tb σ H (.int k)) (Q : List V → Hp → Prop) (q : ∀ t H1, Ex H H1 → H1 t = some (.tup [.int 0, .int k]) → Q [.ref t] H1) : tCons (tTup (tCons (tC (.int 0)) (tCons tb tNil))) tNil σ H Q :=
  eu_tup (ea_cons ev_c (ea_cons hb ea_nil)) (by show 2 ≤ 100000; decide) H (Ex.refl H) _ fun t H1 _ e ht => q t H1 e ht
def leafV : PyData → V
  | .str x => .str x
  | .int i => .int i
  | _ => .non
def spPart (C : Addr) : Sp := fun vs H Q E => ∃ (x : Str) (k : Int), vs = [.str x, .int k] ∧ x.length ≤ 40000 ∧ (∀ d, leaf x = some d → ∀ H', Ex H H' → Q (leafV d) H') ∧ (leaf x = none → Leaves C k H E)
theorem str_eq (x : Str) (s : String) (l : List Nat) (e : TL.tl (Str.ofString s) = l) : decide (V.str x = V.str (Str.ofString s)) = decide (TL.tl x = l) := by
  rw [Bool.eq_iff_iff]
  simp only [decide_eq_true_eq, V.str.injEq]
  constructor
  · intro h
    rw [h, e]
  · intro h
    exact TL.ext_tl (h.trans e.symm)
theorem ok_part_in (T : Txt K mg A fd tk) (ND : base.NoDigits) : FnOk P w K mg base (L2.CX P w) 3 (A 13) (fd 13) ["word", "at"] (spPart (A 1)) := by
  have G_is_number := ok_is_number (P := P) (w := w) (base := base) T
  have G_init := ok_init (P := P) (w := w) (base := base) T
  refine T.F_part_in.okX sc_part_in (fun vs H Q E h => ?_) (fun cdv A' outer s H vs Q E hr h => ?_)
  · obtain ⟨x, k, rfl, _⟩ := h
    rfl
  · obtain ⟨x, k, rfl, hx, qd, qn⟩ := h
    refine ⟨_, pss_cons (ps_if (pt_cmpR op_eq (pv 0) (pe_gS rfl T.g_NONE) (nomark _)) (pss_one (ps_ret pe_non)) pss_nil)
      (pss_cons (ps_if (PW.pt (pw_and (pt_val (pe_m1 PySem.F.slot_str_startswith PySem.F.type_str_startswith mt_startswith (pv 0) (pe_gS rfl T.g_QUOTE))) (pw_and (pt_cmpR op_gt (pe_callB call_len_str (by rfl) T.m_len PySem.boot_len (pa_cons (pv 0) pa_nil)) pe_int (nomark _)) (pw_and1 (pt_cmpR op_notIn_sign pe_str (pv 0) rfl)))))
        (pss_one (ps_ret (pe_slice sl_str (pv 0) (po_some pe_int) po_none))) pss_nil)
      (pss_cons (ps_if (pt_not (pt_val (pe_call G_is_number (hr.mono (by decide)) (by rfl) T.g_is_number T.F_is_number.kp T.b_is_number .nil pass0 (pa_cons (pv 0) pa_nil))))
        (pss_one (ps_raise rfl (takes_of rfl rfl rfl rfl) (pmk_oex T.oex T.i_NoText T.t_init G_init hr T.b_init .nil pass0 rfl T.g_NoText (by exact (pa_cons (pe_tup (pa_cons pe_int (pa_cons (pv 1) pa_nil))) pa_nil))))) pss_nil)
      (pss_one (ps_ret (pe_callTy (call_intT ND) (by rfl) T.m_int (by decide +kernel) (pa_cons (pv 0) pa_nil)))))), ?_⟩
    have hx' : x.length ≤ sizeLine := Nat.le_trans hx (by decide)
    have eN : TL.tl (Str.ofString "none") = wNone := by decide +kernel
    have eQ : (Str.ofString "'") = ⟨#[39]⟩ := by decide +kernel
    have eL : (Str.ofString "\n") = ⟨#[10]⟩ := by decide +kernel
    refine s_if (et_test (ev_op (ev_var rfl) ev_c (rv_eq rfl))) (fun hb H1 e1 => ?_) fun hb H1 e1 => ?_
    · rw [str_eq _ _ _ eN] at hb
      have hl : leaf x = some .none := by
        unfold leaf
        rw [if_pos (of_decide_eq_true hb)]
      exact s_ret ev_c fun H2 e2 => qd _ hl H2 (e1.trans e2)
    · rw [str_eq _ _ _ eN] at hb
      have n1 : ¬ TL.tl x = wNone := of_decide_eq_false hb
      ((try refine s_next ?_); (try dsimp only); (try refine s_seq ?_))
      refine s_if (b := isQuoted (TL.tl x)) (et_is (et_and (et_B (ev_m1 (ev_var rfl) ev_c fun _ _ q => ⟨_, _, rfl, rfl, q⟩)) fun _ => et_and (et_test (ev_op (ev_cb (ea_cons (ev_var rfl) ea_nil) (rc_lenS hx')) ev_c rv_I0)) fun _ => et_test (ev_op ev_c (ev_var rfl) fun H3 _ Q k => ⟨10, x, by rw [eL], rfl, k H3 (Ex.refl _)⟩)) ?_) (fun hb2 H2 e2 => ?_) fun hb2 H2 e2 => ?_
      · rw [eQ, starts_one]
        unfold isQuoted
        have : decide ((1 : Int) < x.length) = decide (1 < (TL.tl x).length) := by
          rw [← TL.len_tl, Bool.eq_iff_iff]
          simp only [decide_eq_true_eq]
          omega
        rw [this, Bool.and_assoc]
      · have hl : leaf x = some (.str ⟨(TL.tl x).tail.toArray⟩) := by
          unfold leaf
          rw [if_neg n1, if_pos hb2]
        refine s_ret (ev_slS (ev_var rfl) (eo_some ev_c) eo_none hx') fun H3 e3 => ?_
        have r := qd _ hl H3 ((e1.trans e2).trans e3)
        have e : cutS x (some 1) none = ⟨(TL.tl x).tail.toArray⟩ := TL.ext_tl (by
          rw [show (1 : Int) = ((1 : Nat) : Int) from rfl, tl_from, TL.tl_mk, List.drop_one])
        rw [e]
        exact r
      · ((try refine s_next ?_); (try dsimp only); (try refine s_seq ?_))
        refine s_if (b := !isNum (TL.tl x)) (et_not (et_B (ev_call (ea_cons (ev_var rfl) ea_nil) fun H3 e3 Q k E => ⟨x, rfl, hx, fun H' e => k H' e⟩))) (fun hb3 H3 e3 => ?_) fun hb3 H3 e3 => ?_
        · have hl : leaf x = none := by
            unfold leaf
            rw [if_neg n1, if_neg (by rw [hb2]; decide), if_neg (by intro z; rw [z] at hb3; exact absurd hb3 (by decide))]
          exact raises_it ((qn hl).on ((e1.trans e2).trans e3)) (pair_of (ev_var rfl))
        · have hn : isNum (TL.tl x) = true := by
            cases h : isNum (TL.tl x) with
            | true => rfl
            | false =>
              rw [h] at hb3
              exact absurd hb3 (by decide)
          obtain ⟨n, en, _, _⟩ := num_read hn
          have hl : leaf x = some (.int n) := by
            unfold leaf
            rw [if_neg n1, if_neg (by rw [hb2]; decide), if_pos hn, en]
            rfl
          exact s_ret (ev_cb (ea_cons (ev_var rfl) ea_nil) fun H4 _ Q k => ⟨x, n, rfl, en, hx', k H4 (Ex.refl _)⟩) fun H4 e4 => qd _ hl H4 (((e1.trans e2).trans e3).trans e4)
end
end Kk

/-! ## S1 -/
set_option Elab.async false
set_option linter.all false
set_option maxRecDepth 100000
/-! what is open while a text is read, as it stands in the heap -/
namespace Kk
open PySem PySem.Spec PyProof.Rows L2 Evl Rd
mutual
inductive Dv (K : PySem.W.Frag) (H : Hp) : V → PyData → Prop
  | non : Dv K H .non .none
  | int (i : Int) : Dv K H (.int i) (.int i)
  | str (x : Str) : Dv K H (.str x) (.str x)
  | tup {a : Addr} {xs : List V} {ds : List PyData} : SqT K H a xs → DvAll K H xs ds → Dv K H (.ref a) (.tuple ds)
inductive DvAll (K : PySem.W.Frag) (H : Hp) : List V → List PyData → Prop
  | nil : DvAll K H [] []
  | cons {v : V} {vs : List V} {d : PyData} {ds : List PyData} : Dv K H v d → DvAll K H vs ds → DvAll K H (v :: vs) (d :: ds)
end
section
variable {K : PySem.W.Frag} {H0 H H1 H2 : Hp}
mutual
theorem Dv.dp : ∀ {d : PyData} {v : V}, Dv K H v d → Dp K H v d
  | _, _, .non => .non
  | _, _, .int i => .int i
  | _, _, .str x => .str x
  | _, _, .tup s a => .tup s (DvAll.dp a)
theorem DvAll.dp : ∀ {ds : List PyData} {vs : List V}, DvAll K H vs ds → DpAll K H vs ds
  | _, _, .nil => .nil
  | _, _, .cons h t => .cons (Dv.dp h) (DvAll.dp t)
end
/-- tuples stay -/
def TK (K : PySem.W.Frag) (H H' : Hp) : Prop := ∀ a xs, SqT K H a xs → SqT K H' a xs
theorem tk_ex (e : Ex H H1) : TK K H H1 := fun a xs h => ex_t e h
theorem TK.trans (a : TK K H H1) (b : TK K H1 H2) : TK K H H2 := fun p xs h => b p xs (a p xs h)
theorem tk_upd {l : Addr} {xs : List V} {o : HO} (h : H l = some (.lst xs)) : TK K H (upd H l o) := fun a ys s => by
  rcases s with (s | ⟨ob, s⟩) | s
  · exact .inl (.inl (by rw [upd_ne (ne_of s h (by simp))]; exact s))
  · exact .inl (.inr ⟨ob, by rw [upd_ne (ne_of s h (by simp))]; exact s⟩)
  · exact .inr s
mutual
theorem Dv.on : ∀ {d : PyData} {v : V}, Dv K H v d → TK K H H1 → Dv K H1 v d
  | _, _, .non, _ => .non
  | _, _, .int i, _ => .int i
  | _, _, .str x, _ => .str x
  | _, _, .tup s a, k => .tup (k _ _ s) (DvAll.on a k)
theorem DvAll.on : ∀ {ds : List PyData} {vs : List V}, DvAll K H vs ds → TK K H H1 → DvAll K H1 vs ds
  | _, _, .nil, _ => .nil
  | _, _, .cons h t, k => .cons (Dv.on h k) (DvAll.on t k)
end
theorem DvAll.snoc : ∀ {vs : List V} {ds : List PyData} {v : V} {d : PyData}, DvAll K H vs ds → Dv K H v d → DvAll K H (vs ++ [v]) (ds ++ [d])
  | _, _, _, _, .nil, h => .cons h .nil
  | _, _, _, _, .cons a t, h => .cons a (DvAll.snoc t h)
theorem DvAll.len : ∀ {vs : List V} {ds : List PyData}, DvAll K H vs ds → vs.length = ds.length
  | _, _, .nil => rfl
  | _, _, .cons _ t => congrArg (· + 1) (DvAll.len t)
def Lv (K : PySem.W.Frag) (H : Hp) (a : Addr) (ds : List PyData) : Prop := ∃ vs, H a = some (.lst vs) ∧ DvAll K H vs ds
/-- at L the list of what is open, the last one ahead in as, st; all of it new since H0 -/
structure Held (K : PySem.W.Frag) (H0 H : Hp) (L : Addr) (as : List Addr) (st : Stk) : Prop where
  ex : Ex H0 H
  top : H L = some (.lst (as.reverse.map V.ref))
  nd : (L :: as).Nodup
  new : ∀ a ∈ L :: as, H0 a = none
  lv : Paired (Lv K H) as st
theorem lv_on : ∀ {as : List Addr} {st : Stk}, Paired (Lv K H) as st → (∀ a vs, a ∈ as → H a = some (.lst vs) → H1 a = some (.lst vs)) → TK K H H1 → Paired (Lv K H1) as st
  | _, _, .nil, _, _ => .nil
  | _, _, .cons ⟨vs, h, d⟩ t, k, tk => .cons ⟨vs, k _ _ (List.mem_cons_self ..) h, d.on tk⟩ (lv_on t (fun a vs m => k a vs (List.mem_cons_of_mem _ m)) tk)
theorem lv_mem : ∀ {as : List Addr} {st : Stk} {a : Addr}, Paired (Lv K H) as st → a ∈ as → ∃ ds, Lv K H a ds
  | _, _, _, .cons h t, m => by
    rcases List.mem_cons.mp m with rfl | m
    · exact ⟨_, h⟩
    · exact lv_mem t m
theorem Held.on {L : Addr} {as : List Addr} {st : Stk} (h : Held K H0 H L as st) (e : Ex H H1) : Held K H0 H1 L as st :=
  ⟨h.ex.trans e, e _ _ h.top, h.nd, h.new, lv_on h.lv (fun a vs _ q => e _ _ q) (tk_ex e)⟩
theorem Held.start {L p : Addr} (e : Ex H0 H) (nL : H0 L = none) (np : H0 p = none) (hL : H L = some (.lst [.ref p])) (hp : H p = some (.lst [])) (ne : L ≠ p) : Held K H0 H L [p] [[]] :=
  ⟨e, hL, by simp [ne], fun a m => (by
    rcases List.mem_cons.mp m with rfl | m
    · exact nL
    · rw [List.mem_singleton] at m
      subst m
      exact np), .cons ⟨[], hp, .nil⟩ .nil⟩
/-- open_ones.append([]) -/
theorem Held.push {L p : Addr} {as : List Addr} {st : Stk} (h : Held K H0 H L as st) (np : H p = none) (e : Ex H H1) (hp : H1 p = some (.lst [])) : Held K H0 (upd H1 L (.lst (as.reverse.map V.ref ++ [.ref p]))) L (p :: as) ([] :: st) := by
  have h1 := h.on e
  have nL : p ≠ L := fun z => by rw [z, h.top] at np; cases np
  have n0 : H0 p = none := fresh_back h.ex np
  refine ⟨Ex.mut h1.ex (h.new L (List.mem_cons_self ..)), ?_, ?_, fun a m => ?_, .cons ⟨[], by rw [upd_ne nL]; exact hp, .nil⟩ (lv_on h1.lv (fun a vs m q => ?_) (tk_upd h1.top))⟩
  · rw [upd_same, List.reverse_cons, List.map_append]
    rfl
  · refine List.nodup_cons.mpr ⟨fun m => ?_, List.nodup_cons.mpr ⟨fun m => ?_, (List.nodup_cons.mp h.nd).2⟩⟩
    · rcases List.mem_cons.mp m with z | m
      · exact nL z.symm
      · exact (List.nodup_cons.mp h.nd).1 m
    · obtain ⟨ds, vs, q, _⟩ := lv_mem h.lv m
      rw [np] at q
      cases q
  · rcases List.mem_cons.mp m with rfl | m
    · exact h.new _ (List.mem_cons_self ..)
    · rcases List.mem_cons.mp m with rfl | m
      · exact n0
      · exact h.new _ (List.mem_cons_of_mem _ m)
  · have : a ≠ L := fun z => (List.nodup_cons.mp h.nd).1 (by rw [← z]; exact m)
    rw [upd_ne this]
    exact q
/-- the last one grows -/
theorem Held.grow {L a : Addr} {as : List Addr} {t : List PyData} {st : Stk} {vs : List V} {v : V} {d : PyData} (h : Held K H0 H L (a :: as) (t :: st)) (ha : H a = some (.lst vs)) (hv : Dv K H v d) :
    Held K H0 (upd H a (.lst (vs ++ [v]))) L (a :: as) ((t ++ [d]) :: st) := by
  have n1 : L ≠ a := fun z => (List.nodup_cons.mp h.nd).1 (by rw [z]; exact List.mem_cons_self ..)
  have nd2 := (List.nodup_cons.mp h.nd).2
  cases h.lv with
  | cons l r =>
    obtain ⟨vs', ha', dv⟩ := l
    have ev : vs' = vs := by
      have := ha'.symm.trans ha
      cases this
      rfl
    subst ev
    refine ⟨Ex.mut h.ex (h.new a (by simp)), by rw [upd_ne n1]; exact h.top, h.nd, h.new, .cons ⟨_, upd_same, (dv.on (tk_upd ha)).snoc (hv.on (tk_upd ha))⟩ (lv_on r (fun b ws m q => ?_) (tk_upd ha))⟩
    have : b ≠ a := fun z => (List.nodup_cons.mp nd2).1 (by rw [← z]; exact m)
    rw [upd_ne this]
    exact q
/-- open_ones.pop() -/
theorem Held.pop {L a : Addr} {as : List Addr} {t : List PyData} {st : Stk} (h : Held K H0 H L (a :: as) (t :: st)) :
    ((a :: as).reverse.map V.ref)[((a :: as).reverse.map V.ref).length - 1]? = some (.ref a) ∧ Held K H0 (upd H L (.lst ((a :: as).reverse.map V.ref).dropLast)) L as st ∧ ∃ vs, upd H L (.lst ((a :: as).reverse.map V.ref).dropLast) a = some (.lst vs) ∧ DvAll K (upd H L (.lst ((a :: as).reverse.map V.ref).dropLast)) vs t := by
  have n1 : a ≠ L := fun z => (List.nodup_cons.mp h.nd).1 (by rw [← z]; exact List.mem_cons_self ..)
  have e1 : (a :: as).reverse.map V.ref = as.reverse.map V.ref ++ [.ref a] := by simp
  have e2 : ((a :: as).reverse.map V.ref).dropLast = as.reverse.map V.ref := by rw [e1, List.dropLast_concat]
  refine ⟨?_, ?_, ?_⟩
  · rw [e1]
    simp
  · rw [e2]
    cases h.lv with
    | cons l r =>
      refine ⟨Ex.mut h.ex (h.new L (List.mem_cons_self ..)), upd_same, ?_, fun b m => h.new b ?_, lv_on r (fun b ws m q => ?_) (tk_upd h.top)⟩
      · have nd := h.nd
        rw [List.nodup_cons, List.nodup_cons] at nd
        exact List.nodup_cons.mpr ⟨fun m => nd.1 (List.mem_cons_of_mem _ m), nd.2.2⟩
      · rcases List.mem_cons.mp m with rfl | m
        · exact List.mem_cons_self ..
        · exact List.mem_cons_of_mem _ (List.mem_cons_of_mem _ m)
      · have : b ≠ L := fun z => (List.nodup_cons.mp h.nd).1 (by rw [← z]; exact List.mem_cons_of_mem _ m)
        rw [upd_ne this]
        exact q
  · cases h.lv with
    | cons l r =>
      obtain ⟨vs, ha, dv⟩ := l
      exact ⟨vs, by rw [upd_ne n1]; exact ha, dv.on (tk_upd h.top)⟩
theorem Held.last {L a : Addr} {as : List Addr} {st : Stk} (h : Held K H0 H L (a :: as) st) : SqL K H L ((a :: as).reverse.map V.ref) ∧ atI ((a :: as).reverse.map V.ref) (-1) = some (.ref a) := by
  refine ⟨sq_of h.top, ?_⟩
  have e1 : (a :: as).reverse.map V.ref = as.reverse.map V.ref ++ [.ref a] := by simp
  rw [e1]
  exact atI_last _ _
theorem Held.len {L : Addr} {as : List Addr} {st : Stk} (h : Held K H0 H L as st) : as.length = st.length := h.lv.length
theorem Held.first {L a : Addr} {ds : List PyData} (h : Held K H0 H L [a] [ds]) : ∃ vs, H a = some (.lst vs) ∧ DvAll K H vs ds := by
  cases h.lv with
  | cons l r => exact l
end
end Kk

/-! ## S2 -/
set_option Elab.async false
set_option linter.all false
set_option maxRecDepth 100000
/-! a text's reading so far -/
namespace Rd
open PySem
theorem run_cons (st : Stk) (k : Nat) (x : Str) (r : List Str) : run st k (x :: r) = match step st x with
    | none => .inl k
    | some s => run s (k + 1) r := rfl
theorem run_app : ∀ (l m : List Str) (st : Stk) (k : Nat), run st k (l ++ m) = match run st k l with
    | .inl e => .inl e
    | .inr s => run s (k + l.length) m
  | [], m, st, k => rfl
  | x :: r, m, st, k => by
    rw [List.cons_append, run_cons, run_cons]
    cases h : step st x with
    | none => rfl
    | some s =>
      have ih := run_app r m s (k + 1)
      have e : k + 1 + r.length = k + (x :: r).length := by
        rw [List.length_cons]
        omega
      rw [e] at ih
      exact ih
def Sofar (x : Str) (i : Nat) (st : Stk) : Prop := run [[]] 0 ((words x).take i) = .inr st
theorem sofar0 (x : Str) : Sofar x 0 [[]] := rfl
theorem run_one {st : Stk} {k : Nat} {w : Str} : run st k [w] = match step st w with | none => .inl k | some s => .inr s := by
  unfold run
  cases step st w <;> rfl
theorem take_next {x : Str} {i : Nat} {w : Str} (hw : (words x)[i]? = some w) : (words x).take (i + 1) = (words x).take i ++ [w] ∧ ((words x).take i).length = i := by
  have hi := (List.getElem?_eq_some_iff.mp hw).1
  refine ⟨by rw [List.take_add_one, hw]; rfl, ?_⟩
  rw [List.length_take]
  omega
theorem Sofar.next {x : Str} {i : Nat} {st st' : Stk} {w : Str} (h : Sofar x i st) (hw : (words x)[i]? = some w) (hs : step st w = some st') : Sofar x (i + 1) st' := by
  unfold Sofar at h ⊢
  rw [(take_next hw).1, run_app, h]
  show run st (0 + _) [w] = _
  rw [run_one, hs]
theorem Sofar.bad {x : Str} {i : Nat} {st : Stk} {w : Str} (h : Sofar x i st) (hw : (words x)[i]? = some w) (hs : step st w = none) : read x = .inl i := by
  have e : run [[]] 0 (words x) = .inl i := by
    have e1 : words x = (words x).take (i + 1) ++ (words x).drop (i + 1) := (List.take_append_drop _ _).symm
    have e2 : run [[]] 0 ((words x).take (i + 1)) = .inl i := by
      rw [(take_next hw).1, run_app, h]
      show run st (0 + _) [w] = _
      rw [run_one, hs, (take_next hw).2, Nat.zero_add]
    rw [e1, run_app, e2]
  unfold read
  rw [e]
theorem step_ne {st st' : Stk} {w : Str} (hst : st ≠ []) (h : step st w = some st') : st' ≠ [] ∧ ∀ b, st' = [b] → b ≠ [] := by
  unfold step at h
  split at h
  · cases h
  · split at h
    · cases h
      exact ⟨by simp, fun b e => absurd (List.cons.inj e).2 hst⟩
    · split at h
      · split at h
        · cases h
          exact ⟨by simp, fun b e => by cases e; simp⟩
        · cases h
      · split at h
        · rename_i t r _
          cases hl : leaf w with
          | none => rw [hl] at h; cases h
          | some d =>
            rw [hl] at h
            cases h
            exact ⟨by simp, fun b e => by cases e; simp⟩
        · cases h
theorem Sofar.ne {x : Str} : ∀ {i : Nat} {st : Stk}, Sofar x i st → i ≤ (words x).length → st ≠ [] ∧ (1 ≤ i → ∀ b, st = [b] → b ≠ [])
  | 0, st, h, _ => by
    cases h
    exact ⟨by simp, fun z => absurd z (by decide)⟩
  | i + 1, st, h, hi => by
    have hw : (words x)[i]? = some (words x)[i] := List.getElem?_eq_getElem hi
    unfold Sofar at h
    rw [(take_next hw).1, run_app] at h
    cases h1 : run [[]] 0 ((words x).take i) with
    | inl e => rw [h1] at h; cases h
    | inr s =>
      rw [h1] at h
      have h : run s (0 + _) [(words x)[i]] = .inr st := h
      rw [run_one] at h
      have ih := Sofar.ne (i := i) h1 (by omega)
      cases h2 : step s (words x)[i] with
      | none => rw [h2] at h; cases h
      | some s' =>
        rw [h2] at h
        cases h
        have := step_ne ih.1 h2
        exact ⟨this.1, fun _ => this.2⟩
theorem Sofar.done {x : Str} {st : Stk} (h : Sofar x (words x).length st) : (∃ d r, st = [d :: r] ∧ read x = .inr d) ∨ (st.length ≠ 1 ∧ read x = .inl (words x).length) := by
  have ne := h.ne (Nat.le_refl _)
  have l1 : 1 ≤ (words x).length := by
    have := words_ne x
    cases hh : words x with
    | nil => exact absurd hh this
    | cons a b => simp
  unfold Sofar at h
  rw [List.take_length] at h
  cases st with
  | nil => exact absurd rfl ne.1
  | cons b r =>
    cases r with
    | nil =>
      have nb := ne.2 l1 b rfl
      cases b with
      | nil => exact absurd rfl nb
      | cons d r =>
        refine .inl ⟨d, r, rfl, ?_⟩
        unfold read
        rw [h]
    | cons c r =>
      refine .inr ⟨by simp, ?_⟩
      unfold read
      rw [h]
      cases b <;> rfl
end Rd

/-! ## D3 -/
set_option Elab.async false
set_option linter.all false
set_option maxRecDepth 100000
namespace Evl
open PySem L2
section
variable {K : PySem.W.Frag} {σ : L2.St} {H : Hp} {D : Ends} {tu : TS}
theorem el_split {to te : TE} {a b : Str} (h : Ev to σ H (.str a)) (h2 : Ev te σ H (.str b)) (hb : (b.length == 0) = false) (ha : a.length + 2 ≤ sizeLine) :
    EvL (tM1 (fun x xs H Q => ∃ a b, x = .str a ∧ xs = [.str b] ∧ (b.length == 0) = false ∧ a.length + 2 ≤ sizeLine ∧ rNewStrs (Txt.split a b) H Q) to te) σ H ((Txt.split a b).map V.str) := fun H1 e Q q =>
  h H1 e _ fun H2 e2 => ⟨⟨a, rfl⟩, h2 H2 (e.trans e2) _ fun H3 e3 => ⟨a, b, rfl, rfl, hb, ha, fun p np => q p _ (fresh_back (e2.trans e3) np) ((e2.trans e3).trans (Ex.new np)) upd_same⟩⟩
theorem eu_tuple {te : TE} {p : Addr} {xs : List V} (h : Ev te σ H (.ref p)) (hp : SqL K H p xs) :
    EvU (tCB (fun xs H Q => ∃ p ys, xs = [.ref p] ∧ ((SqL K H p ys ∧ ∀ l, H l = none → Q (.ref l) (upd H l (.tup ys))) ∨ (SqT K H p ys ∧ Q (.ref p) H))) (tCons te tNil)) σ H xs := fun H1 e Q q =>
  h H1 e _ fun H2 e2 => ⟨p, xs, rfl, .inl ⟨ex_l (e.trans e2) hp, fun l hl => q l _ (fresh_back e2 hl) (e2.trans (Ex.new hl)) upd_same⟩⟩
/-- xs.append(e), e of any kind -/
theorem s_appX {l : Addr} {xs : List V} {ta tv : TE} (hl : H l = some (.lst xs)) (ha : Ev ta σ H (.ref l)) (h : ∀ H1, Ex H H1 → tv σ H1 fun v H2 => rAppend (.ref l) [v] H2 fun _ H3 => D.nx σ H3) :
    tDrop (tBM K "list" rAppend ta (tCons tv tNil)) D σ H := ha H (Ex.refl H) _ fun H1 e1 => ⟨.inl ⟨rfl, xs, sq_of (e1 l _ hl)⟩, h H1 e1⟩
/-- for i, x in enumerate(xs) -/
theorem s_forE {a : Addr} {xs : List V} {ta : TA} {j k : Nat} (h : EvA ta σ H [.ref a]) (hx : SqL K H a xs) (Pv : Nat → L2.St → Hp → Prop) (h0 : ∀ H1, Ex H H1 → Pv 0 σ H1) (hl : ∀ i σ' H', i ≤ xs.length → Pv i σ' H' → SqL K H' a xs)
    (hs : ∀ (i : Nat) x σ' H', xs[i]? = some x → Pv i σ' H' → ∀ H2, Ex H' H2 → tu { D with nx := Pv (i + 1), ct := Pv (i + 1), bk := D.nx } ((σ'.set j (some (.int (i : Int)))).set k (some x)) H2) (hd : ∀ σ' H', Pv xs.length σ' H' → D.nx σ' H') :
    tFor (iEnum K ta) (gTup K 2 (gCons (gName j) (gCons (gName k) gNil))) tu D σ H :=
  h H (Ex.refl H) _ fun H1 e => ⟨a, xs, rfl, ex_l e hx, for_it walk_enum Pv (h0 H1 e) hl (fun i x σ' H' H2 hi p y => by
    obtain ⟨T, x1, x2, rfl, nT, rfl, f1, f2⟩ := y
    have e1 : x1 = .int (i : Nat) := (Option.some.inj f1).symm
    subst e1
    exact ⟨T, [.int (i : Nat), x2], rfl, st_of upd_same, rfl, _, _, rfl, _, _, rfl, rfl, hs i x2 σ' H' f2 p _ (Ex.new nT)⟩) hd⟩
end
end Evl
namespace Kk
open PySem PySem.Spec PyProof.Rows L2 Evl Rd
section
variable {P : Program} {w : World} {K : PySem.W.Frag} {mg : Str → Option Value} {base : Heap} {A : Nat → Addr} {fd : Nat → FuncData} {tk : Nat → Tok}
/-- what is no text -/
def NoStr (K : PySem.W.Frag) (H : Hp) (v : V) : Prop := ∃ t, TyX K H v t ∧ PySem.W.kitOne K t (.type "str") = some false
def spRead (K : PySem.W.Frag) (C : Addr) : Sp := fun vs H Q E => ∃ v, vs = [v] ∧ ((∃ x : Str, v = .str x ∧ x.length ≤ 30000 ∧ (∀ d, read x = .inr d → ∀ H' v', Ex H H' → Dv K H' v' d → Q v' H') ∧ (∀ k : Nat, read x = .inl k → Leaves C (k : Int) H E)) ∨
  (NoStr K H v ∧ Leaves C 0 H E))
theorem leaf_dv {x : Str} {d : PyData} {H : Hp} (h : leaf x = some d) : Dv K H (leafV d) d := by
  unfold leaf at h
  split at h
  · cases h
    exact .non
  · split at h
    · cases h
      exact .str _
    · split at h
      · cases hi : PySem.intText? x with
        | none => rw [hi] at h; cases h
        | some n =>
          rw [hi] at h
          cases h
          exact .int n
      · cases h
theorem words_get {x : Str} {i : Nat} {v : V} (h : ((words x).map V.str)[i]? = some v) : ∃ y, (words x)[i]? = some y ∧ v = .str y := by
  rw [List.getElem?_map] at h
  cases e : (words x)[i]? with
  | none => rw [e] at h; cases h
  | some y =>
    rw [e] at h
    exact ⟨y, rfl, (Option.some.inj h).symm⟩
theorem str_open (y : Str) : decide (V.str y = V.str (Str.ofString "(")) = isOpen y := str_eq _ _ _ (by decide +kernel)
theorem str_shut (y : Str) : decide (V.str y = V.str (Str.ofString ")")) = isShut y := str_eq _ _ _ (by decide +kernel)
theorem one_of {as : List Addr} {st : Stk} {H0 H : Hp} {L : Addr} (h : Held K H0 H L as st) (e : st.length = 1) : ∃ a ds, as = [a] ∧ st = [ds] := by
  have hl := h.len
  rw [e] at hl
  cases as with
  | nil => cases hl
  | cons a r =>
    cases r with
    | cons _ _ => cases hl
    | nil =>
      cases st with
      | nil => cases e
      | cons d r =>
        cases r with
        | cons _ _ => cases e
        | nil => exact ⟨a, d, rfl, rfl⟩
/-- len(open_ones) == 1 and (open_ones[0] != [] or word == SHUT) -/
theorem et_bad {σ : L2.St} {H0 H : Hp} {L : Addr} {as : List Addr} {st : Stk} {y : Str} {i j : Nat} (h : Held K H0 H L as st) (hL : σ[i]? = some (some (.ref L))) (hy : σ[j]? = some (some (.str y))) {tS : TE} (hS : Ev tS σ H (.str (Str.ofString ")"))) :
    EvT (tAnd (tTest (tOp rEq (tCB (fun xs H Q => ∃ a ys, xs = [V.ref a] ∧ (SqL K H a ys ∨ SqT K H a ys) ∧ Q (.int ys.length) H) (tCons (tVar i) tNil)) (tC (.int 1)))) (tOr (tTest (tOp (rNil K true) (tOp (rIxL K) (tVar i) (tC (.int 0))) (tLst tNil))) (tTest (tOp rEq (tVar j) tS)))) σ H (isBad st y) := by
  have e1 : (as.reverse.map V.ref).length = st.length := by rw [List.length_map, List.length_reverse, h.len]
  refine et_is (b := isBad st y) (et_and (a := decide (st.length = 1)) (b := (!(st.getLastD []).isEmpty || isShut y)) (et_is (et_test (ev_op (ev_cb (ea_cons (ev_var hL) ea_nil) (fun H1 e Q q => ⟨L, _, rfl, .inl (sq_of (e _ _ h.top)), q H1 (Ex.refl H1)⟩)) ev_c (rv_eq rfl))) ?_) fun hb => ?_) rfl
  · rw [e1, Bool.eq_iff_iff]
    simp only [decide_eq_true_eq, V.int.injEq]
    omega
  · obtain ⟨a, ds, rfl, rfl⟩ := one_of h (of_decide_eq_true hb)
    obtain ⟨vs, ha, dv⟩ := h.first
    refine et_or (et_is (et_test (ev_nil (ne := true) (ev_op (ev_var hL) ev_c (rv_ixL (sq_of h.top) (atI_nat (j := 0) rfl))) (sq_of ha))) ?_) fun _ => et_is (et_test (ev_op (ev_var hy) hS (rv_eq rfl))) (str_shut y)
    have := dv.len
    cases vs <;> cases ds <;> simp_all [List.getLastD]

theorem step_bad {st : Stk} {y : Str} (h : isBad st y = true) : step st y = none := if_pos h
theorem step_open {st : Stk} {y : Str} (h : isBad st y = false) (o : isOpen y = true) : step st y = some ([] :: st) := by
  unfold Rd.step
  rw [if_neg (by rw [h]; decide), if_pos o]
theorem step_shut {t u : List PyData} {r : Stk} {y : Str} (h : isBad (t :: u :: r) y = false) (o : isOpen y = false) (c : isShut y = true) : step (t :: u :: r) y = some ((u ++ [PyData.tuple t]) :: r) := by
  unfold Rd.step
  rw [if_neg (by rw [h]; decide), if_neg (by rw [o]; decide), if_pos c]
theorem step_leaf {t : List PyData} {r : Stk} {y : Str} (h : isBad (t :: r) y = false) (o : isOpen y = false) (c : isShut y = false) : step (t :: r) y = (leaf y).map fun d => (t ++ [d]) :: r := by
  unfold Rd.step
  rw [if_neg (by rw [h]; decide), if_neg (by rw [o]; decide), if_neg (by rw [c]; decide)]
theorem two_of {as : List Addr} {st : Stk} {H0 H : Hp} {L : Addr} {y : Str} (h : Held K H0 H L as st) (ne : st ≠ []) (nb : isBad st y = false) (c : isShut y = true) : ∃ a b r t u s, as = a :: b :: r ∧ st = t :: u :: s := by
  have hl := h.len
  cases st with
  | nil => exact absurd rfl ne
  | cons t s =>
    cases s with
    | nil =>
      unfold isBad at nb
      rw [c, Bool.or_true] at nb
      cases nb
    | cons u s =>
      cases as with
      | nil => cases hl
      | cons a r =>
        cases r with
        | nil => cases hl
        | cons b r => exact ⟨a, b, r, t, u, s, rfl, rfl⟩
theorem more_of {as : List Addr} {st : Stk} {H0 H : Hp} {L : Addr} (h : Held K H0 H L as st) (ne : st ≠ []) : ∃ a r t s, as = a :: r ∧ st = t :: s := by
  have hl := h.len
  cases st with
  | nil => exact absurd rfl ne
  | cons t s =>
    cases as with
    | nil => cases hl
    | cons a r => exact ⟨a, r, t, s, rfl, rfl⟩
theorem sofar_ind {x : Str} {Pr : Nat → Stk → Prop} (h0 : Pr 0 [[]]) (hs : ∀ i st st' y, Pr i st → Rd.step st y = some st' → Pr (i + 1) st') : ∀ {i : Nat} {st : Stk}, Sofar x i st → i ≤ (words x).length → Pr i st
  | 0, st, h, _ => by
    cases h
    exact h0
  | i + 1, st, h, hi => by
    have hw : (words x)[i]? = some (words x)[i] := List.getElem?_eq_getElem hi
    unfold Sofar at h
    rw [(take_next hw).1, run_app] at h
    cases h1 : run [[]] 0 ((words x).take i) with
    | inl e => rw [h1] at h; cases h
    | inr s =>
      rw [h1] at h
      have h : run s (0 + _) [(words x)[i]] = .inr st := h
      rw [run_one] at h
      cases h2 : Rd.step s (words x)[i] with
      | none => rw [h2] at h; cases h
      | some s' =>
        rw [h2] at h
        cases h
        exact hs i s st _ (sofar_ind h0 hs h1 (by omega)) h2
theorem step_sizes {n : Nat} {st st' : Stk} {y : Str} (h : st.length ≤ n + 1 ∧ ∀ l ∈ st, l.length ≤ n) (h2 : Rd.step st y = some st') : st'.length ≤ n + 1 + 1 ∧ ∀ l ∈ st', l.length ≤ n + 1 := by
  obtain ⟨q, r⟩ := h
  unfold Rd.step at h2
  split at h2
  · cases h2
  · split at h2
    · cases h2
      refine ⟨by simp only [List.length_cons]; omega, fun l hl => ?_⟩
      rcases List.mem_cons.mp hl with rfl | hl
      · simp
      · exact Nat.le_succ_of_le (r l hl)
    · split at h2
      · split at h2
        · rename_i t u s _
          cases h2
          refine ⟨by simp only [List.length_cons] at q ⊢; omega, fun l hl => ?_⟩
          rcases List.mem_cons.mp hl with rfl | hl
          · have := r u (by simp)
            simp only [List.length_append, List.length_singleton]
            omega
          · exact Nat.le_succ_of_le (r l (by simp [hl]))
        · cases h2
      · split at h2
        · rename_i t s _
          cases hl : leaf y with
          | none => rw [hl] at h2; cases h2
          | some d =>
            rw [hl] at h2
            cases h2
            refine ⟨by simp only [List.length_cons] at q ⊢; omega, fun l hl => ?_⟩
            rcases List.mem_cons.mp hl with rfl | hl
            · have := r t (by simp)
              simp only [List.length_append, List.length_singleton]
              omega
            · exact Nat.le_succ_of_le (r l (by simp [hl]))
        · cases h2
theorem sizes {x : Str} {i : Nat} {st : Stk} (h : Sofar x i st) (hi : i ≤ (words x).length) : st.length ≤ i + 1 ∧ ∀ l ∈ st, l.length ≤ i :=
  sofar_ind (Pr := fun i st => st.length ≤ i + 1 ∧ ∀ l ∈ st, l.length ≤ i) ⟨Nat.le_refl _, fun l hl => by
    rw [List.mem_singleton] at hl
    subst hl
    exact Nat.le_refl _⟩ (fun i st st' y => step_sizes) h hi
theorem ty_ex {H H1 : Hp} {v : V} {t : Value} (h : TyX K H v t) (e : Ex H H1) : TyX K H1 v t := by
  cases h with
  | base b =>
    refine .base ?_
    cases b with
    | non => exact .non
    | bl x => exact .bl x
    | int i => exact .int i
    | str x => exact .str x
    | flt x => exact .flt x
    | lst q => exact .lst (e _ _ q)
    | frz q => exact .frz (e _ _ q)
    | tup q => exact .tup (e _ _ q)
    | dK q => exact .dK (e _ _ q)
    | dT q => exact .dT (e _ _ q)
    | ins q c h1 h2 h3 h4 => exact .ins (e _ _ q) c h1 h2 h3 h4
  | byt b => exact .byt b
  | set q => exact .set (e _ _ q)
  | kList q c => exact .kList q c
  | kTuple q c => exact .kTuple q c
  | kDict q c => exact .kDict q c
  | fTuple q => exact .fTuple (e _ _ q)
  | fDict q => exact .fDict (e _ _ q)
theorem ok_read_thing (T : Txt K mg A fd tk) (ND : base.NoDigits) : FnOk P w K mg base (L2.CX P w) 4 (A 14) (fd 14) ["text"] (spRead K (A 1)) := by
  have G_part_in := ok_part_in (P := P) (w := w) T ND
  have G_init := ok_init (P := P) (w := w) (base := base) T
  refine T.F_read_thing.okX sc_read_thing (fun vs H Q E h => ?_) (fun cdv A' outer s H vs Q E hr h => ?_)
  · obtain ⟨v, rfl, _⟩ := h
    rfl
  · obtain ⟨v, rfl, h⟩ := h
    refine ⟨_, pss_cons (ps_if (pt_not (pt_val (pe_callB call_isi (by rfl) T.m_isinstance (by decide +kernel) (pa_cons (pv 0) (pa_cons (pe_bltn (v := .ty "str") (by rfl) T.m_str (by decide +kernel) rfl) pa_nil)))))
        (pss_one (ps_raise rfl (takes_of rfl rfl rfl rfl) (pmk_oex T.oex T.i_NoText T.t_init G_init (hr.mono (by decide)) T.b_init .nil pass0 rfl T.g_NoText (by exact (pa_cons (pe_tup (pa_cons pe_int (pa_cons pe_int pa_nil))) pa_nil))))) pss_nil)
      (pss_cons (ps_set (i := 1) sc_read_thing.nd rfl (.inl rfl) (pe_split (pv 0) pe_str))
      (pss_cons (ps_set (i := 2) sc_read_thing.nd rfl (.inl rfl) (pe_lst (pa_cons (pe_lst pa_nil) pa_nil)))
      (pss_cons (ps_for (passes_of rfl) rfl (pi_enum (by rfl) T.m_enumerate (pa_cons (pv 1) pa_nil)) (pg_tup rfl (pgs_cons (pg_name (i := 3) sc_read_thing.nd rfl (.inl rfl)) (pgs_cons (pg_name (i := 4) sc_read_thing.nd rfl (.inl rfl)) pgs_nil)))
        (pss_cons (ps_if (PW.pt (pw_and (pt_cmpR op_eq (pe_callB call_len_seq (by rfl) T.m_len PySem.boot_len (pa_cons (pv 2) pa_nil)) pe_int (nomark _)) (pw_and1 (PW.pt (pw_or (pt_cmpR (op_neNilL hr.units0) (pe_ix ix_list (pv 2) pe_int (fun _ _ => rfl)) (pe_lst pa_nil) (nomark _)) (pw_or1 (pt_cmpR op_eq (pv 4) (pe_gS rfl T.g_SHUT) (nomark _))))))))
            (pss_one (ps_raise rfl (takes_of rfl rfl rfl rfl) (pmk_oex T.oex T.i_NoText T.t_init G_init (hr.mono (by decide)) T.b_init .nil pass0 rfl T.g_NoText (by exact (pa_cons (pe_tup (pa_cons pe_int (pa_cons (pv 3) pa_nil))) pa_nil))))) pss_nil)
          (pss_one (ps_if (pt_cmpR op_eq (pv 4) (pe_gS rfl T.g_OPEN) (nomark _))
            (pss_one (ps_expr (pe_bm PySem.F.plainAttrs_list PySem.F.slot_list_append PySem.F.type_list_append mt_append (pv 2) (pa_cons (pe_lst pa_nil) pa_nil))))
            (pss_one (ps_if (pt_cmpR op_eq (pv 4) (pe_gS rfl T.g_SHUT) (nomark _))
              (pss_cons (ps_set (i := 5) sc_read_thing.nd rfl (.inl rfl) (pe_bm0 PySem.F.plainAttrs_list PySem.F.slot_list_pop PySem.F.type_list_pop mt_pop (pv 2)))
                (pss_one (ps_expr (pe_bm PySem.F.plainAttrs_list PySem.F.slot_list_append PySem.F.type_list_append mt_append (pe_ix ix_list (pv 2) (pe_un un_neg pe_int) (fun _ _ => rfl)) (pa_cons (pe_callTy call_tuple_of (by rfl) T.m_tuple (by decide +kernel) (pa_cons (pv 5) pa_nil)) pa_nil)))))
              (pss_one (ps_expr (pe_bm PySem.F.plainAttrs_list PySem.F.slot_list_append PySem.F.type_list_append mt_append (pe_ix ix_list (pv 2) (pe_un un_neg pe_int) (fun _ _ => rfl))
                (pa_cons (pe_call G_part_in (hr.mono (by decide)) (by rfl) T.g_part_in T.F_part_in.kp T.b_part_in .nil (passes_call (takes_of rfl rfl rfl rfl) fun _ _ _ _ z => z) (pa_cons (pv 4) (pa_cons (pv 3) pa_nil))) pa_nil))))))))))
      (pss_cons (ps_asg (pv 2) (pg_star (i := 1) rfl (pgs_cons (pg_name (i := 6) sc_read_thing.nd rfl (.inl rfl)) (pgs_star (pg_name (i := 7) sc_read_thing.nd rfl (.inl rfl))))))
      (pss_cons (ps_if (pt_cmpR (op_neNilL hr.units0) (pv 7) (pe_lst pa_nil) (nomark _))
        (pss_one (ps_raise rfl (takes_of rfl rfl rfl rfl) (pmk_oex T.oex T.i_NoText T.t_init G_init (hr.mono (by decide)) T.b_init .nil pass0 rfl T.g_NoText (by exact (pa_cons (pe_tup (pa_cons pe_int (pa_cons (pe_callB call_len_seq (by rfl) T.m_len PySem.boot_len (pa_cons (pv 1) pa_nil)) pa_nil))) pa_nil))))) pss_nil)
      (pss_one (ps_ret (pe_ix ix_list (pv 6) pe_int (fun _ _ => rfl))))))))), ?_⟩
    rcases h with ⟨x, rfl, hx, qd, ql⟩ | ⟨⟨t, ty, no⟩, ql⟩
    · have hx' : x.length + 2 ≤ sizeLine := Nat.le_trans (Nat.add_le_add_right hx 2) (by decide)
      have hwl := words_len x
      refine s_if (b := false) (et_not (a := true) (et_B (ev_cb (ea_cons (ev_var rfl) (ea_cons ev_c ea_nil)) fun H1 e1 Q k => ⟨_, _, .type "str", _, true, rfl, .ty "str", .base (.str x), rfl, k H1 (Ex.refl _)⟩))) (fun z => absurd z (by decide)) fun _ H1 e1 => ?_
      ((try refine s_next ?_); (try dsimp only); (try refine s_seq ?_))
      have esp : (Str.ofString " ") = sp := by decide +kernel
      -- words
      refine s_asgL (xs := (words x).map V.str) (by unfold words; rw [← esp]; exact el_split (ev_var rfl) ev_c (by decide +kernel) hx') fun W H2 nW e2 hW => ?_
      ((try refine s_next ?_); (try dsimp only); (try refine s_seq ?_))
      -- open_ones
      refine ⟨Nat.zero_le _, fun p np => ⟨by show 1 ≤ sizeLine; decide, fun L nL => ?_⟩⟩
      have npL : L ≠ p := fun z => by
        rw [z, upd_same] at nL
        cases nL
      have nL2 : H2 L = none := by rwa [upd_ne npL] at nL
      have e3 : Ex H2 (upd (upd H2 p (.lst [])) L (.lst [.ref p])) := (Ex.new np).trans (Ex.new nL)
      have hH : Held K H2 (upd (upd H2 p (.lst [])) L (.lst [.ref p])) L [p] [[]] := .start e3 nL2 np upd_same (by rw [upd_ne npL.symm, upd_same]) npL
      generalize hG : upd (upd H2 p (.lst [])) L (.lst [.ref p]) = H3 at hH e3
      have eH : Ex H H2 := e1.trans e2
      ((try refine s_next ?_); (try dsimp only); (try refine s_seq ?_))
      -- the loop
      refine s_forE (a := W) (xs := (words x).map V.str) (ea_cons (ev_var rfl) ea_nil) (sq_of (e3 _ _ hW)) (fun i σ H' => ∃ (st : Stk) (as : List Addr) (y3 y4 y5 : Option V), σ = [some (.str x), some (.ref W), some (.ref L), y3, y4, y5, none, none] ∧ Sofar x i st ∧ Held K H2 H' L as st)
        (fun H4 e4 => ⟨[[]], [p], none, none, none, rfl, sofar0 x, hH.on e4⟩) (fun i σ' H' _ ⟨st, as, y3, y4, y5, _, _, hh⟩ => sq_of (hh.ex _ _ hW)) (fun i v σ' H' hv ⟨st, as, y3, y4, y5, es, so, hh⟩ H4 e4 => ?_) fun σ' H' ⟨st, as, y3, y4, y5, es, so, hh⟩ => ?_
      · subst es
        obtain ⟨y, hy, rfl⟩ := words_get hv
        have hi : i < (words x).length := (List.getElem?_eq_some_iff.mp hy).1
        have hh := hh.on e4
        have nst := (so.ne (Nat.le_of_lt hi)).1
        have hmany := (sizes so (Nat.le_of_lt hi)).1
        have hlev := (sizes so (Nat.le_of_lt hi)).2
        have hlen := hh.len
        refine s_if (et_bad (i := 2) (j := 4) hh rfl rfl ev_c) (fun hb H5 e5 => ?_) fun hb H5 e5 => ?_
        · exact raises_it ((ql i (so.bad hy (step_bad hb))).on (((eH.trans hh.ex)).trans e5)) (pair_of (ev_var rfl))
        · ((try refine s_next ?_); (try dsimp only); (try refine s_seq ?_))
          have hh := hh.on e5
          refine s_if (b := isOpen y) (et_is (et_test (ev_op (ev_var rfl) ev_c (rv_eq rfl))) (str_open y)) (fun ho H6 e6 => ?_) fun ho H6 e6 => ?_
          · exact s_appL ((hh.on e6).top) (ev_var rfl) el_nil (by rw [List.length_map, List.length_reverse]; omega) fun p1 H7 n7 e7 h7 =>
              ⟨[] :: st, p1 :: as, _, _, _, rfl, so.next hy (step_open hb ho), (hh.on e6).push n7 e7 h7⟩
          · have hh := hh.on e6
            refine s_if (b := isShut y) (et_is (et_test (ev_op (ev_var rfl) ev_c (rv_eq rfl))) (str_shut y)) (fun hc H7 e7 => ?_) fun hc H7 e7 => ?_
            · have hh := hh.on e7
              obtain ⟨a, b, r, t, u, s', rfl, rfl⟩ := two_of hh nst hb hc
              obtain ⟨g1, g2, vs, g3, g4⟩ := hh.pop
              refine ⟨_, rfl, .inl ⟨rfl, _, sq_of hh.top⟩, L, _, .ref a, rfl, rfl, hh.top, g1, ?_⟩
              generalize upd H7 L (.lst ((a :: b :: r).reverse.map V.ref).dropLast) = H8 at g2 g3 g4
              cases g2.lv with
              | cons l2 r2 =>
                obtain ⟨vb, hvb, dvb⟩ := l2
                have hvl := dvb.len
                have g2' := g2
                refine s_appU hvb (ev_op (ev_var rfl) (ev_un ev_c ru_neg) (rv_ixL g2.last.1 g2.last.2)) (eu_tuple (ev_var rfl) (sq_of g3)) ?_ fun p1 H9 n9 e9 h9 => ⟨(u ++ [PyData.tuple t]) :: s', b :: r, _, _, _, rfl, so.next hy (step_shut hb ho hc), ?_⟩
                · have := hlev u (by simp)
                  omega
                · exact (g2.on e9).grow (e9 _ _ hvb) (.tup (st_of h9) (g4.on (tk_ex e9)))
            · have hh := hh.on e7
              obtain ⟨a, r, t, s', rfl, rfl⟩ := more_of hh nst
              cases hh.lv with
              | cons l2 r2 =>
                obtain ⟨va, hva, dva⟩ := l2
                have hvl := dva.len
                have htl := hlev t (by simp)
                refine s_appX hva (ev_op (ev_var rfl) (ev_un ev_c ru_neg) (rv_ixL hh.last.1 hh.last.2)) fun H8 e8 => ⟨_, rfl, _, rfl, y, i, rfl, ?_, fun dd hdd H9 e9 => ?_, fun hdd => ?_⟩
                · exact Nat.le_trans (words_le (List.mem_of_getElem? hy)) (by omega)
                · have hh := (hh.on e8).on e9
                  have hv9 := e9 _ _ (e8 _ _ hva)
                  refine ⟨a, va, leafV dd, rfl, rfl, hv9, ?_, (t ++ [dd]) :: s', a :: r, _, _, _, rfl, so.next hy (by rw [step_leaf hb ho hc, hdd]; rfl), hh.grow hv9 (leaf_dv hdd)⟩
                  exact Nat.lt_of_le_of_lt (show va.length ≤ 40000 by omega) (by decide)
                · exact (ql i (so.bad hy (by rw [step_leaf hb ho hc, hdd]; rfl))).on (((eH.trans hh.ex)).trans e8)
      · subst es
        rw [List.length_map] at so
        have eH' := eH.trans hh.ex
        have nst := (so.ne (Nat.le_refl _)).1
        ((try refine s_next ?_); (try dsimp only); (try refine s_seq ?_))
        -- first, *others = open_ones
        obtain ⟨f, rest, hr⟩ : ∃ f rest, as.reverse = f :: rest := by
          cases hh2 : as.reverse with
          | nil =>
            have := hh.len
            rw [List.reverse_eq_nil_iff.mp hh2] at this
            cases st with
            | nil => exact absurd rfl nst
            | cons a b => cases this
          | cons f r => exact ⟨f, r, rfl⟩
        have htop := hh.top
        rw [hr] at htop
        refine ⟨_, rfl, L, (f :: rest).map V.ref, rfl, .inl (sq_of htop), Nat.succ_le_succ (Nat.zero_le _), fun p1 n1 => ⟨.ref f, [.ref p1], rfl, .ref p1, [], rfl, rfl, ?_⟩⟩
        have e5 : Ex H' (upd H' p1 (.lst (((f :: rest).map V.ref).drop 1))) := Ex.new n1
        have hp1 : (upd H' p1 (.lst (((f :: rest).map V.ref).drop 1))) p1 = some (.lst (rest.map V.ref)) := upd_same
        generalize upd H' p1 (.lst (((f :: rest).map V.ref).drop 1)) = H5 at e5 hp1
        have hh := hh.on e5
        have hlen := hh.len
        have hrl : as.length = rest.length + 1 := by
          rw [← List.length_reverse, hr]
          rfl
        ((try refine s_next ?_); (try dsimp only); (try refine s_seq ?_))
        refine s_if (et_test (ev_nil (ne := true) (ev_var rfl) (sq_of hp1))) (fun hb H6 e6 => ?_) fun hb H6 e6 => ?_
        · have hne : rest ≠ [] := fun z => by
            rw [z] at hb
            exact absurd hb (by decide)
          have hk : Rd.read x = .inl (words x).length := by
            rcases so.done with ⟨d, r, rfl, _⟩ | ⟨_, h⟩
            · have : rest.length = 0 := by
                have h1 : as.length = 1 := hlen
                omega
              exact absurd (List.eq_nil_of_length_eq_zero this) hne
            · exact h
          refine raises_it ((ql _ hk).on ((eH'.trans e5).trans e6)) (pair_of ?_)
          have hWl : ((words x).map V.str).length = (words x).length := List.length_map ..
          rw [← hWl]
          exact ev_cb (ea_cons (ev_var rfl) ea_nil) fun H7 e7 Q k => ⟨W, _, rfl, .inl (sq_of (e7 _ _ (e6 _ _ (hh.ex _ _ hW)))), k H7 (Ex.refl _)⟩
        · have hre : rest = [] := by
            cases rest with
            | nil => rfl
            | cons a b => exact absurd hb (by simp)
          subst hre
          have hst : st.length = 1 := hlen.symm.trans hrl
          rcases so.done with ⟨dd, r, rfl, hd⟩ | ⟨h, _⟩
          · have has : as = [f] := by
              have := congrArg List.reverse hr
              rwa [List.reverse_reverse] at this
            subst has
            ((try refine s_next ?_); (try dsimp only); (try refine s_seq ?_))
            obtain ⟨vs, hvs, dvs⟩ := (hh.on e6).first
            cases dvs with
            | cons d1 d2 => exact s_ret (ev_op (ev_var rfl) ev_c (rv_ixL (sq_of hvs) (atI_nat (j := 0) rfl))) fun H7 e7 => qd _ hd H7 _ (((eH'.trans e5).trans e6).trans e7) (d1.on (tk_ex e7))
          · exact absurd hst h
    · refine s_if (b := true) (et_not (a := false) (et_B (ev_cb (ea_cons (ev_var rfl) (ea_cons ev_c ea_nil)) fun H1 e1 Q k => ⟨_, _, t, _, false, rfl, .ty "str", ?_, no, k H1 (Ex.refl _)⟩))) (fun _ H1 e1 => ?_) fun z => absurd z (by decide)
      · exact ty_ex ty e1
      · exact raises_it (ql.on e1) (pair_of ev_c)
end
end Kk

/-! ## D4 -/
set_option Elab.async false
set_option linter.all false
set_option maxRecDepth 100000
namespace Evl
open PySem L2
section
variable {K : PySem.W.Frag} {σ : L2.St} {H : Hp} {D : Ends} {tu : TS}
theorem eu_if {t : TT} {ta tb : TE} {b : Bool} {xs : List V} (h : EvT t σ H b) (h1 : b = true → EvU ta σ H xs) (h2 : b = false → EvU tb σ H xs) : EvU (tIf t ta tb) σ H xs := fun H1 e Q q => h H1 e _ fun H2 e2 => by
  cases b with
  | true =>
    show ta σ H2 Q
    exact h1 rfl H2 (e.trans e2) Q fun p H3 hp e3 h3 => q p H3 (fresh_back e2 hp) (e2.trans e3) h3
  | false =>
    show tb σ H2 Q
    exact h2 rfl H2 (e.trans e2) Q fun p H3 hp e3 h3 => q p H3 (fresh_back e2 hp) (e2.trans e3) h3
theorem s_parL {i j : Nat} {te : TE} {tr : TA} {xs : List V} (h : EvL te σ H xs) (k : ∀ p H1, H p = none → Ex H H1 → H1 p = some (.lst xs) → tr σ H1 fun vs H2 => ∃ v w, V.ref p :: vs = [v, w] ∧ D.nx ((σ.set i (some v)).set j (some w)) H2) : tPar i j (tCons te tr) D σ H := h H (Ex.refl H) _ fun p H1 n e q => k p H1 n e q
end
end Evl
namespace Rd
open PySem L2
def alone (y : Str) : Bool := decide (TL.tl y = wNone) || isQuoted (TL.tl y) || isNum (TL.tl y)
theorem leaf_alone (y : Str) : (leaf y).isSome = alone y := by
  unfold leaf alone
  by_cases h1 : TL.tl y = wNone
  · rw [if_pos h1, decide_eq_true h1]
    rfl
  · rw [if_neg h1, decide_eq_false h1]
    cases h2 : isQuoted (TL.tl y) with
    | true => rfl
    | false =>
      rw [if_neg (by decide)]
      cases h3 : isNum (TL.tl y) with
      | false => rfl
      | true =>
        obtain ⟨n, e, _⟩ := num_read h3
        rw [if_pos rfl, e]
        rfl
def saidV (y : Str) : V := if (TL.tl y).head? = some 39 then .str ⟨(TL.tl y).tail.toArray⟩ else .non
theorem num_head {l : List Nat} (h : isNum l = true) : l.head? ≠ some 39 ∧ l ≠ wNone ∧ isQuoted l = false := by
  obtain ⟨hd, hne, _⟩ := isNum_digits h
  have h0 : l.head? ≠ some 39 := by
    cases l with
    | nil => simp
    | cons c r =>
      intro e
      have e : c = 39 := by simpa using e
      subst e
      have e2 : figs (39 :: r) = 39 :: r := rfl
      rw [e2] at hd
      have := hd.head
      omega
  refine ⟨h0, fun e => ?_, by unfold isQuoted; rw [decide_eq_false h0]; rfl⟩
  rw [e] at hd
  have : 48 ≤ 110 ∧ 110 ≤ 57 := hd 110 (by decide)
  omega
theorem leaf_said {y : Str} {d : PyData} (h : leaf y = some d) : TL.tl y ≠ [] ∧ ((isNum (TL.tl y) = true ∧ ∃ n, PySem.intText? y = some n ∧ d = .int n) ∨ (isNum (TL.tl y) = false ∧ ((d = .none ∧ saidV y = .non) ∨ ∃ z, d = .str z ∧ saidV y = .str z))) := by
  unfold leaf at h
  split at h
  · rename_i e
    cases h
    refine ⟨by rw [e]; decide, .inr ⟨?_, .inl ⟨rfl, ?_⟩⟩⟩
    · rw [e]
      decide
    · unfold saidV
      rw [e]
      rfl
  · split at h
    · rename_i e
      cases h
      have hh : (TL.tl y).head? = some 39 := by
        unfold isQuoted at e
        simp only [Bool.and_eq_true, decide_eq_true_eq] at e
        exact e.1.1
      refine ⟨fun z => (by rw [z] at hh; cases hh), .inr ⟨?_, .inr ⟨_, rfl, ?_⟩⟩⟩
      · cases hn : isNum (TL.tl y) with
        | false => rfl
        | true => exact absurd hh (num_head hn).1
      · unfold saidV
        rw [if_pos hh]
    · split at h
      · rename_i hn
        obtain ⟨n, e, _⟩ := num_read hn
        rw [e] at h
        cases h
        refine ⟨fun z => ?_, .inl ⟨hn, n, e, rfl⟩⟩
        rw [z] at hn
        exact absurd hn (by decide)
      · cases h
end Rd

namespace Kk
open PySem PySem.Spec PyProof.Rows L2 Evl Rd
section
variable {P : Program} {w : World} {K : PySem.W.Frag} {mg : Str → Option Value} {base : Heap} {A : Nat → Addr} {fd : Nat → FuncData} {tk : Nat → Tok}
def spLRead (K : PySem.W.Frag) : Sp := fun vs H Q _ => ∃ v, vs = [v] ∧ ((∃ x : Str, v = .str x ∧ x.length ≤ 30000 ∧ (∀ d, read x = .inr d → ∀ H' t v', Ex H H' → H' t = some (.tup [.str "thing", v']) → Dv K H' v' d → Q (.ref t) H') ∧
    (∀ k : Nat, read x = .inl k → ∀ H' t, Ex H H' → H' t = some (.tup [.str "place", .int k]) → Q (.ref t) H')) ∨
  (NoStr K H v ∧ ∀ H' t, Ex H H' → H' t = some (.tup [.str "place", .int 0]) → Q (.ref t) H'))
theorem quote_head (y : Str) : decide (V.str (cutS y none (some 1)) = V.str (Str.ofString "'")) = decide ((TL.tl y).head? = some 39) := by
  have eQ : (Str.ofString "'") = ⟨#[39]⟩ := by decide +kernel
  rw [eQ, Bool.eq_iff_iff]
  simp only [decide_eq_true_eq, V.str.injEq]
  have h1 : TL.tl (cutS y none (some ((1 : Nat) : Int))) = (TL.tl y).take 1 := tl_to y 1
  constructor
  · intro e
    have h2 : TL.tl (cutS y none (some ((1 : Nat) : Int))) = [39] := congrArg TL.tl e
    rw [h1] at h2
    cases hh : TL.tl y with
    | nil => rw [hh] at h2; simp at h2
    | cons c r => rw [hh] at h2; simpa using h2
  · intro e
    refine TL.ext_tl (h1.trans ?_)
    cases hh : TL.tl y with
    | nil => rw [hh] at e; simp at e
    | cons c r => rw [hh] at e; simp at e; subst e; rfl
theorem in_signs (y : Str) : inV (.str y) [.str (Str.ofString "("), .str (Str.ofString ")")] = (isOpen y || isShut y) := by
  rw [← str_open, ← str_shut, Bool.eq_iff_iff]
  simp only [inV, List.any_cons, List.any_nil, Bool.or_false, Bool.or_eq_true, decide_eq_true_eq, eqV, V.str.injEq]
  simp only [beq_iff_eq]
  constructor <;> rintro (h | h)
  all_goals first | exact .inl h.symm | exact .inr h.symm
theorem step_not {st : Stk} {y : Str} (h : (isBad st y || (!alone y && !(isOpen y || isShut y))) = true) : Rd.step st y = none := by
  cases hb : isBad st y with
  | true => exact step_bad hb
  | false =>
    rw [hb] at h
    simp only [Bool.false_or, Bool.and_eq_true, Bool.not_eq_true', Bool.or_eq_false_iff] at h
    obtain ⟨h1, h2, h3⟩ := h
    have hl : leaf y = none := by
      rw [← leaf_alone] at h1
      cases hh : leaf y with
      | none => rfl
      | some d => rw [hh] at h1; cases h1
    unfold Rd.step
    rw [if_neg (by rw [hb]; decide), if_neg (by rw [h2]; decide), if_neg (by rw [h3]; decide)]
    split
    · rw [hl]
      rfl
    · rfl
theorem step_leaf_of {st : Stk} {y : Str} (h : (isBad st y || (!alone y && !(isOpen y || isShut y))) = false) (o : isOpen y = false) (c : isShut y = false) : ∃ d, leaf y = some d := by
  rw [o, c] at h
  simp only [Bool.or_false, Bool.not_false, Bool.and_true, Bool.or_eq_false_iff, Bool.not_eq_false'] at h
  have := h.2
  rw [← leaf_alone] at this
  exact Option.isSome_iff_exists.mp this
theorem ok_law_read (T : Txt K mg A fd tk) (ND : base.NoDigits) : FnOk P w K mg base CX0 2 (A 21) (fd 21) ["_law_line"] (spLRead K) := by
  have G_law_is_number := ok_law_is_number (P := P) (w := w) (base := base) T
  refine T.F__law_read.ok sc__law_read (fun vs H Q E h => ?_) (fun cdv A' outer s H vs Q E hr h => ?_)
  · obtain ⟨v, rfl, _⟩ := h
    rfl
  · obtain ⟨v, rfl, h⟩ := h
    refine ⟨_, pss_cons (ps_if (pt_not (pt_val (pe_callB call_isi (by rfl) T.m_isinstance (by decide +kernel) (pa_cons (pv 0) (pa_cons (pe_bltn (v := .ty "str") (by rfl) T.m_str (by decide +kernel) rfl) pa_nil)))))
        (pss_one (ps_ret (pe_tup (pa_cons pe_str (pa_cons pe_int pa_nil))))) pss_nil)
      (pss_cons (ps_par (i := 1) (j := 2) rfl sc__law_read.nd rfl rfl (by decide) rfl rfl (pa_cons (pe_split (pv 0) pe_str) (pa_cons (pe_lst (pa_cons (pe_lst pa_nil) pa_nil)) pa_nil)) (by rfl))
      (pss_cons (ps_for PassesOwn.never rfl (pi_enum (by rfl) T.m_enumerate (pa_cons (pv 1) pa_nil)) (pg_tup rfl (pgs_cons (pg_name (i := 3) sc__law_read.nd rfl (.inl rfl)) (pgs_cons (pg_name (i := 4) sc__law_read.nd rfl (.inl rfl)) pgs_nil)))
        (pss_cons (ps_set (i := 5) sc__law_read.nd rfl (.inl rfl) (pe_or (pe_cmpR op_eq (pv 4) pe_str (nomark _)) (pe_or (pe_and (pe_cmpR op_eq (pe_slice sl_str (pv 4) po_none (po_some pe_int)) pe_str (nomark _)) (pe_and (pe_cmpR op_gt (pe_callB call_len_str (by rfl) T.m_len PySem.boot_len (pa_cons (pv 4) pa_nil)) pe_int (nomark _)) (pe_one (pe_cmpR op_notIn_sign pe_str (pv 4) rfl)))) (pe_one (pe_call G_law_is_number (hr.mono (by decide)) (by rfl) T.g__law_is_number T.F__law_is_number.kp T.b__law_is_number .nil pass0 (pa_cons (pv 4) pa_nil))))))
        (pss_cons (ps_if (PW.pt (pw_or (PW.pt (pw_and (pt_cmpR op_eq (pe_callB call_len_seq (by rfl) T.m_len PySem.boot_len (pa_cons (pv 2) pa_nil)) pe_int (nomark _)) (pw_and1 (PW.pt (pw_or (pt_cmpR (op_neNilL hr.units0) (pe_ix ix_list (pv 2) pe_int (fun _ _ => rfl)) (pe_lst pa_nil) (nomark _)) (pw_or1 (pt_cmpR op_eq (pv 4) pe_str (nomark _)))))))) (pw_or1 (PW.pt (pw_and (pt_not (pt_val (pv 5))) (pw_and1 (pt_cmpR op_notIn_seq (pv 4) (pe_tup (pa_cons pe_str (pa_cons pe_str pa_nil))) rfl)))))))
            (pss_one (ps_ret (pe_tup (pa_cons pe_str (pa_cons (pv 3) pa_nil))))) pss_nil)
          (pss_one (ps_if (pt_cmpR op_eq (pv 4) pe_str (nomark _))
            (pss_one (ps_expr (pe_bm PySem.F.plainAttrs_list PySem.F.slot_list_append PySem.F.type_list_append mt_append (pv 2) (pa_cons (pe_lst pa_nil) pa_nil))))
            (pss_one (ps_if (pt_cmpR op_eq (pv 4) pe_str (nomark _))
              (pss_cons (ps_set (i := 6) sc__law_read.nd rfl (.inl rfl) (pe_callTy call_tuple_of (by rfl) T.m_tuple (by decide +kernel) (pa_cons (pe_bm0 PySem.F.plainAttrs_list PySem.F.slot_list_pop PySem.F.type_list_pop mt_pop (pv 2)) pa_nil)))
                (pss_one (ps_expr (pe_bm PySem.F.plainAttrs_list PySem.F.slot_list_append PySem.F.type_list_append mt_append (pe_ix ix_list (pv 2) (pe_un un_neg pe_int) (fun _ _ => rfl)) (pa_cons (pv 6) pa_nil)))))
              (pss_cons (ps_set (i := 7) sc__law_read.nd rfl (.inl rfl) (pe_ifExp (pt_cmpR op_eq (pe_ix ix_str (pv 4) pe_int (fun _ _ => rfl)) pe_str (nomark _)) (pe_slice sl_str (pv 4) (po_some pe_int) po_none) pe_non))
                (pss_one (ps_expr (pe_bm PySem.F.plainAttrs_list PySem.F.slot_list_append PySem.F.type_list_append mt_append (pe_ix ix_list (pv 2) (pe_un un_neg pe_int) (fun _ _ => rfl))
                (pa_cons (pe_ifExp (pt_val (pe_call G_law_is_number (hr.mono (by decide)) (by rfl) T.g__law_is_number T.F__law_is_number.kp T.b__law_is_number .nil pass0 (pa_cons (pv 4) pa_nil))) (pe_callTy (call_intT ND) (by rfl) T.m_int (by decide +kernel) (pa_cons (pv 4) pa_nil)) (pv 7)) pa_nil))))))))))))
      (pss_one (ps_ret (pe_ifExp (pt_cmpR op_eq (pe_callB call_len_seq (by rfl) T.m_len PySem.boot_len (pa_cons (pv 2) pa_nil)) pe_int (nomark _)) (pe_tup (pa_cons pe_str (pa_cons (pe_ix ix_list (pe_ix ix_list (pv 2) pe_int (fun _ _ => rfl)) pe_int (fun _ _ => rfl)) pa_nil))) (pe_tup (pa_cons pe_str (pa_cons (pe_callB call_len_seq (by rfl) T.m_len PySem.boot_len (pa_cons (pv 1) pa_nil)) pa_nil)))))))), ?_⟩
    rcases h with ⟨x, rfl, hx, qd, ql⟩ | ⟨⟨t, ty, no⟩, ql⟩
    · have hx' : x.length + 2 ≤ sizeLine := Nat.le_trans (Nat.add_le_add_right hx 2) (by decide)
      have hwl := words_len x
      have eN : TL.tl (Str.ofString "none") = wNone := by decide +kernel
      have eQ : (Str.ofString "'") = ⟨#[39]⟩ := by decide +kernel
      have eL : (Str.ofString "\n") = ⟨#[10]⟩ := by decide +kernel
      refine s_if (b := false) (et_not (a := true) (et_B (ev_cb (ea_cons (ev_var rfl) (ea_cons ev_c ea_nil)) fun H1 e1 Q k => ⟨_, _, .type "str", _, true, rfl, .ty "str", .base (.str x), rfl, k H1 (Ex.refl _)⟩))) (fun z => absurd z (by decide)) fun _ H1 e1 => ?_
      ((try refine s_next ?_); (try dsimp only); (try refine s_seq ?_))
      have esp : (Str.ofString " ") = sp := by decide +kernel
      refine s_parL (xs := (words x).map V.str) (by unfold words; rw [← esp]; exact el_split (ev_var rfl) ev_c (by decide +kernel) hx') fun W H2 nW e2 hW => ?_
      refine ⟨Nat.zero_le _, fun p np => ⟨by show 1 ≤ sizeLine; decide, fun L nL => ?_⟩⟩
      have npL : L ≠ p := fun z => by
        rw [z, upd_same] at nL
        cases nL
      have nL2 : H2 L = none := by rwa [upd_ne npL] at nL
      have e3 : Ex H2 (upd (upd H2 p (.lst [])) L (.lst [.ref p])) := (Ex.new np).trans (Ex.new nL)
      have hH : Held K H2 (upd (upd H2 p (.lst [])) L (.lst [.ref p])) L [p] [[]] := .start e3 nL2 np upd_same (by rw [upd_ne npL.symm, upd_same]) npL
      generalize hG : upd (upd H2 p (.lst [])) L (.lst [.ref p]) = H3 at hH e3
      have eH : Ex H H2 := e1.trans e2
      refine ⟨_, _, rfl, ?_⟩
      ((try refine s_next ?_); (try dsimp only); (try refine s_seq ?_))
      refine s_forE (a := W) (xs := (words x).map V.str) (ea_cons (ev_var rfl) ea_nil) (sq_of (e3 _ _ hW)) (fun i σ H' => ∃ (st : Stk) (as : List Addr) (y3 y4 y5 y6 y7 : Option V), σ = [some (.str x), some (.ref W), some (.ref L), y3, y4, y5, y6, y7] ∧ Sofar x i st ∧ Held K H2 H' L as st)
        (fun H4 e4 => ⟨[[]], [p], none, none, none, none, none, rfl, sofar0 x, hH.on e4⟩) (fun i σ' H' _ ⟨st, as, y3, y4, y5, y6, y7, _, _, hh⟩ => sq_of (hh.ex _ _ hW)) (fun i v σ' H' hv ⟨st, as, y3, y4, y5, y6, y7, es, so, hh⟩ H4 e4 => ?_) fun σ' H' ⟨st, as, y3, y4, y5, y6, y7, es, so, hh⟩ => ?_
      · subst es
        obtain ⟨y, hy, rfl⟩ := words_get hv
        have hi : i < (words x).length := (List.getElem?_eq_some_iff.mp hy).1
        have hh := hh.on e4
        have nst := (so.ne (Nat.le_of_lt hi)).1
        have hmany := (sizes so (Nat.le_of_lt hi)).1
        have hlev := (sizes so (Nat.le_of_lt hi)).2
        have hlen := hh.len
        have hyl : y.length ≤ 30000 := Nat.le_trans (words_le (List.mem_of_getElem? hy)) hx
        have hys : y.length ≤ sizeLine := Nat.le_trans hyl (by decide)
        refine s_asg (v := .bl (alone y)) (ev_is (ev_orV (a := decide (TL.tl y = wNone)) (b := isQuoted (TL.tl y) || isNum (TL.tl y)) (ev_is (ev_op (ev_var rfl) ev_c (rv_eq rfl)) (by rw [str_eq _ _ _ eN])) fun _ => ev_orV (a := isQuoted (TL.tl y)) (ev_is (ev_andV (ev_is (ev_op (ev_slS (ev_var rfl) eo_none (eo_some ev_c) hys) ev_c (rv_eq rfl)) (by rw [quote_head])) fun _ => ev_andV (ev_op (ev_cb (ea_cons (ev_var rfl) ea_nil) (rc_lenS hys)) ev_c rv_I0) fun _ => ev_op ev_c (ev_var rfl) fun H3 _ Q k => ⟨10, y, by rw [eL], rfl, k H3 (Ex.refl _)⟩) ?_) fun _ => ev_call (ea_cons (ev_var rfl) ea_nil) fun H3 e3 Q k E => ⟨y, rfl, Nat.le_trans hyl (by decide), fun H' e => k H' e⟩) (by unfold alone; rw [Bool.or_assoc])) fun H5 e5 => ?_
        · unfold isQuoted
          have : decide ((1 : Int) < y.length) = decide (1 < (TL.tl y).length) := by
            rw [← TL.len_tl, Bool.eq_iff_iff]
            simp only [decide_eq_true_eq]
            omega
          rw [this, Bool.and_assoc]
        ((try refine s_next ?_); (try dsimp only); (try refine s_seq ?_))
        have hh := hh.on e5
        refine s_if (b := isBad st y || (!alone y && !(isOpen y || isShut y))) (et_or (et_bad (i := 2) (j := 4) hh rfl rfl ev_c) fun _ => et_and (et_not (et_B (ev_var rfl))) fun _ => et_test (ev_is (ev_niU (xs := [.str (Str.ofString "("), .str (Str.ofString ")")]) (ev_var rfl) (eu_tup (ea_cons ev_c (ea_cons ev_c ea_nil)) (by show 2 ≤ 100000; decide)) rfl rfl) (by rw [in_signs]))) (fun hb H6 e6 => ?_) fun hb H6 e6 => ?_
        · exact s_retU (eu_tup (ea_cons ev_c (ea_cons (ev_var rfl) ea_nil)) (by show 2 ≤ 100000; decide)) fun t H7 _ e7 h7 => ql i (so.bad hy (step_not hb)) H7 t (((eH.trans hh.ex).trans e6).trans e7) h7
        · ((try refine s_next ?_); (try dsimp only); (try refine s_seq ?_))
          have hb1 : isBad st y = false := (Bool.or_eq_false_iff.mp hb).1
          have hh := hh.on e6
          refine s_if (b := isOpen y) (et_is (et_test (ev_op (ev_var rfl) ev_c (rv_eq rfl))) (str_open y)) (fun ho H7 e7 => ?_) fun ho H7 e7 => ?_
          · exact s_appL ((hh.on e7).top) (ev_var rfl) el_nil (by rw [List.length_map, List.length_reverse]; omega) fun p1 H8 n8 e8 h8 =>
              ⟨[] :: st, p1 :: as, _, _, _, _, _, rfl, so.next hy (step_open hb1 ho), (hh.on e7).push n8 e8 h8⟩
          · have hh := hh.on e7
            refine s_if (b := isShut y) (et_is (et_test (ev_op (ev_var rfl) ev_c (rv_eq rfl))) (str_shut y)) (fun hc H8 e8 => ?_) fun hc H8 e8 => ?_
            · have hh := hh.on e8
              obtain ⟨a, b, r, t, u, s', rfl, rfl⟩ := two_of hh nst hb1 hc
              obtain ⟨g1, g2, vs, g3, g4⟩ := hh.pop
              refine ⟨_, rfl, .inl ⟨rfl, _, sq_of hh.top⟩, L, _, .ref a, rfl, rfl, hh.top, g1, ?_⟩
              generalize upd H8 L (.lst ((a :: b :: r).reverse.map V.ref).dropLast) = H9 at g2 g3 g4
              refine ⟨a, vs, rfl, .inl ⟨sq_of g3, fun p1 n9 => ?_⟩⟩
              have e9 : Ex H9 (upd H9 p1 (.tup vs)) := Ex.new n9
              have h9 : (upd H9 p1 (.tup vs)) p1 = some (.tup vs) := upd_same
              generalize upd H9 p1 (.tup vs) = H10 at e9 h9
              have g2 := g2.on e9
              ((try refine s_next ?_); (try dsimp only); (try refine s_seq ?_))
              cases g2.lv with
              | cons l2 r2 =>
                obtain ⟨vb, hvb, dvb⟩ := l2
                have hvl := dvb.len
                refine s_app hvb (ev_op (ev_var rfl) (ev_un ev_c ru_neg) (rv_ixL g2.last.1 g2.last.2)) (ev_var rfl) ?_ fun H11 e11 => ⟨(u ++ [PyData.tuple t]) :: s', b :: r, _, _, _, _, _, rfl, so.next hy (step_shut hb1 ho hc), ?_⟩
                · have := hlev u (by simp)
                  omega
                · exact (g2.on e11).grow (e11 _ _ hvb) (.tup (st_of (e11 _ _ h9)) (g4.on (tk_ex (e9.trans e11))))
            · have hh := hh.on e8
              obtain ⟨d, hd⟩ := step_leaf_of hb ho hc
              obtain ⟨hne, hsay⟩ := leaf_said hd
              obtain ⟨c, rest, hcr⟩ := List.exists_cons_of_ne_nil hne
              have ehd : decide (V.str ⟨#[c]⟩ = V.str (Str.ofString "'")) = decide ((TL.tl y).head? = some 39) := by
                rw [eQ, lst_ne, hcr]
                simp
              have etl : cutS y (some 1) none = ⟨(TL.tl y).tail.toArray⟩ := TL.ext_tl (by
                rw [show (1 : Int) = ((1 : Nat) : Int) from rfl, tl_from, TL.tl_mk, List.drop_one])
              refine s_asg (v := saidV y) (ev_if (et_test (ev_op (ev_op (ev_var rfl) ev_c (fun H3 _ Q k => ⟨y, 0, c, rfl, rfl, hys, (by rw [show y.cps.toList = TL.tl y from rfl, hcr]; exact atI_nat (j := 0) rfl), k H3 (Ex.refl _)⟩)) ev_c (rv_eq rfl))) (fun z => ?_) fun z => ?_) fun H9 e9 => ?_
              · rw [ehd] at z
                refine ev_is (ev_slS (ev_var rfl) (eo_some ev_c) eo_none hys) ?_
                unfold saidV
                rw [if_pos (of_decide_eq_true z), etl]
              · rw [ehd] at z
                unfold saidV
                rw [if_neg (of_decide_eq_false z)]
                exact ev_c
              · ((try refine s_next ?_); (try dsimp only); (try refine s_seq ?_))
                have hh := hh.on e9
                obtain ⟨a, r, t, s', rfl, rfl⟩ := more_of hh nst
                cases hh.lv with
                | cons l2 r2 =>
                  obtain ⟨va, hva, dva⟩ := l2
                  have hvl := dva.len
                  refine s_app (v := leafV d) hva (ev_op (ev_var rfl) (ev_un ev_c ru_neg) (rv_ixL hh.last.1 hh.last.2)) (ev_if (b := isNum (TL.tl y)) (et_B (ev_call (ea_cons (ev_var rfl) ea_nil) fun H3 e3 Q k E => ⟨y, rfl, Nat.le_trans hyl (by decide), fun H' e => k H' e⟩)) (fun z => ?_) fun z => ?_) ?_ fun H10 e10 => ⟨(t ++ [d]) :: s', a :: r, _, _, _, _, _, rfl, so.next hy (by rw [step_leaf hb1 ho hc, hd]; rfl), (hh.on e10).grow (e10 _ _ hva) (leaf_dv hd)⟩
                  · rcases hsay with ⟨_, n, en, rfl⟩ | ⟨z2, _⟩
                    · exact ev_cb (ea_cons (ev_var rfl) ea_nil) fun H4 _ Q k => ⟨y, n, rfl, en, hys, k H4 (Ex.refl _)⟩
                    · rw [z] at z2
                      cases z2
                  · rcases hsay with ⟨z2, _⟩ | ⟨_, ⟨rfl, z2⟩ | ⟨q, rfl, z2⟩⟩
                    · rw [z] at z2
                      cases z2
                    · refine ev_is (ev_var rfl) ?_
                      exact z2
                    · refine ev_is (ev_var rfl) ?_
                      exact z2
                  · have := hlev t (by simp)
                    omega
      · subst es
        rw [List.length_map] at so
        have eH' := eH.trans hh.ex
        ((try refine s_next ?_); (try dsimp only); (try refine s_seq ?_))
        rcases so.done with ⟨dd, r, rfl, hd⟩ | ⟨hlen, hk⟩
        · obtain ⟨a, ds, rfl, e2⟩ := one_of hh rfl
          cases e2
          obtain ⟨vs, hvs, dvs⟩ := hh.first
          cases dvs with
          | cons d1 d2 =>
            refine s_retU (eu_if (b := true) (et_is (et_test (ev_op (ev_cb (ea_cons (ev_var rfl) ea_nil) (fun H1 e Q q => ⟨L, _, rfl, .inl (sq_of (e _ _ hh.top)), q H1 (Ex.refl H1)⟩)) ev_c (rv_eq rfl))) rfl) (fun _ => eu_tup (ea_cons ev_c (ea_cons (ev_op (ev_op (ev_var rfl) ev_c (rv_ixL (sq_of hh.top) (atI_nat (j := 0) rfl))) ev_c (rv_ixL (sq_of hvs) (atI_nat (j := 0) rfl))) ea_nil)) (by show 2 ≤ 100000; decide)) fun z => absurd z (by decide)) fun t H5 _ e5 h5 => qd _ hd H5 t _ (eH'.trans e5) h5 (d1.on (tk_ex e5))
        · have e1 : (as.reverse.map V.ref).length = st.length := by rw [List.length_map, List.length_reverse, hh.len]
          have hWl : ((words x).map V.str).length = (words x).length := List.length_map ..
          refine s_retU (xs := [.str "place", .int (words x).length]) (eu_if (b := false) (et_is (et_test (ev_op (ev_cb (ea_cons (ev_var rfl) ea_nil) (fun H1 e Q q => ⟨L, _, rfl, .inl (sq_of (e _ _ hh.top)), q H1 (Ex.refl H1)⟩)) ev_c (rv_eq rfl))) ?_) (fun z => absurd z (by decide)) fun _ => eu_tup (ea_cons ev_c (ea_cons ?_ ea_nil)) (by show 2 ≤ 100000; decide)) fun t H5 _ e5 h5 => ql _ hk H5 t (eH'.trans e5) h5
          · rw [e1]
            refine decide_eq_false fun z => hlen ?_
            have := V.int.inj z
            omega
          · rw [← hWl]
            exact ev_cb (ea_cons (ev_var rfl) ea_nil) fun H7 e7 Q k => ⟨W, _, rfl, .inl (sq_of (e7 _ _ (hh.ex _ _ hW))), k H7 (Ex.refl _)⟩
    · refine s_if (b := true) (et_not (a := false) (et_B (ev_cb (ea_cons (ev_var rfl) (ea_cons ev_c ea_nil)) fun H1 e1 Q k => ⟨_, _, t, _, false, rfl, .ty "str", ty_ex ty e1, no, k H1 (Ex.refl _)⟩))) (fun _ H1 e1 => ?_) fun z => absurd z (by decide)
      exact s_retU (eu_tup (ea_cons ev_c (ea_cons ev_c ea_nil)) (by decide)) fun t H2 _ e2 h2 => ql H2 t (e1.trans e2) h2
end
end Kk

/-! ## D5 -/
set_option Elab.async false
set_option linter.all false
set_option maxRecDepth 100000
namespace Kk
open PySem PySem.Spec PyProof.Rows L2 Evl Rd
section
variable {P : Program} {w : World} {K : PySem.W.Frag} {mg : Str → Option Value} {base : Heap} {A : Nat → Addr} {fd : Nat → FuncData} {tk : Nat → Tok}
def OutPlace (k : Int) (H : Hp) (Q : VK) : Prop := ∀ H' t p, Ex H H' → H' t = some (.tup [.str "place", .ref p]) → H' p = some (.tup [.int 0, .int k]) → Q (.ref t) H'
def spHeard (K : PySem.W.Frag) : Sp := fun vs H Q _ => ∃ v, vs = [v] ∧ ((∃ x : Str, v = .str x ∧ x.length ≤ 30000 ∧ (∀ d, read x = .inr d → ∀ H' t v', Ex H H' → H' t = some (.tup [.str "thing", v']) → Dv K H' v' d → Q (.ref t) H') ∧ (∀ k : Nat, read x = .inl k → OutPlace (k : Int) H Q)) ∨ (NoStr K H v ∧ OutPlace 0 H Q))
def tsHeard (K : PySem.W.Frag) (C N M O : Addr) (a : Addr) (cls : Value) (d : Option Addr) : TS := tSeq (tIfS (tAnd (tB (tCB (rIsX K C a cls d) (tCons (tVar 2) (tCons (tC (.ty "ValueError")) tNil)))) (tNot (tB (tCB (rIsXT K C a cls d) (tCons (tVar 2) (tCons (tTup (tCons (tC (.ref N)) (tCons (tC (.ref M)) (tCons (tC (.ref O)) tNil)))) tNil))))))
  (tSeq (tAsg (tTup (tCons (tC (.str "place")) (tCons (tXf a cls d C "place" (tVar 2)) tNil))) (gName 1)) tNext) tNext) tNext
theorem ok_law_heard (T : Txt K mg A fd tk) (ND : base.NoDigits) : FnOk P w K mg base CX0 5 (A 22) (fd 22) ["_law_line"] (spHeard K) := by
  have G_read_thing := ok_read_thing (P := P) (w := w) T ND
  refine T.F__law_heard.ok sc__law_heard (fun vs H Q E h => ?_) (fun cdv A' outer s H vs Q E hr h => ?_)
  · obtain ⟨v, rfl, _⟩ := h
    rfl
  · obtain ⟨v, rfl, h⟩ := h
    refine ⟨_, pss_cons (ps_set (i := 1) sc__law_heard.nd rfl (.inl rfl) (pe_tup (pa_cons pe_str (pa_cons pe_non pa_nil))))
      (pss_cons (ps_try_as (i := 2) (tb := fun W => tSeq (tAsg (tTup (tCons (tC (.str "thing")) (tCons (tCallS (spRead K (A 1)) (WE W) (tCons (tVar 0) tNil)) tNil))) (gName 1)) tNext) (ts := tsHeard K (A 1) (A 4) (A 2) (A 3)) (Wout := fun _ _ _ _ => False) rfl rfl sc__law_heard.nd rfl rfl ⟨rfl, by decide, Or.inl T.g_NoText⟩ takes0
          (fun W pn xe tk' _ => pss_one (ps_set (i := 1) sc__law_heard.nd rfl (Or.inl rfl) (pe_tup (pa_cons pe_str (pa_cons (by exact (pe_callS G_read_thing (hr.mono (by decide)) rfl T.g_read_thing T.F_read_thing.kp T.b_read_thing (fun σ => passAt tk' σ) (by exact (pa_cons (pv 0) pa_nil)))) pa_nil)))))
          (fun a oe cls d pn hz hf => pss_one (ps_if (PW.pt (pw_and (pt_val (pe_callB (call_isX T.exc hz hf) (by rfl) T.m_isinstance (by decide +kernel) (pa_cons (pv 2) (pa_cons (pe_bltn (v := .ty "ValueError") (by rfl) T.m_ValueError (by decide +kernel) rfl) pa_nil))))
              (pw_and1 (pt_not (pt_val (pe_callB (call_isXT T.exc hz hf) (by rfl) T.m_isinstance (by decide +kernel) (pa_cons (pv 2) (pa_cons (pe_tup (pa_cons (pe_gR rfl T.g_WireError) (pa_cons (pe_gR rfl T.g_NoName) (pa_cons (pe_gR rfl T.g_NoPath) pa_nil)))) pa_nil))))))))
            (pss_one (ps_set (i := 1) sc__law_heard.nd rfl (Or.inl rfl) (pe_tup (pa_cons pe_str (pa_cons (pe_xf T.xf T.place hz hf (pv 2)) pa_nil))))) pss_nil)))
      (pss_one (ps_ret (pv 1)))), ?_⟩
    refine s_asgU (xs := [.str "odd", .non]) (eu_tup (ea_cons ev_c (ea_cons ev_c ea_nil)) (by show 2 ≤ 100000; decide)) fun o H1 no e1 ho => ?_
    ((try refine s_next ?_); (try dsimp only); (try refine s_seq ?_))
    have caught : ∀ (D : Ends) (k : Int), (∀ σ' H', (∃ t p, σ'[1]? = some (some (.ref t)) ∧ H' t = some (.tup [.str "place", .ref p]) ∧ H' p = some (.tup [.int 0, .int k]) ∧ Ex H1 H') → D.nx σ' H') → Leaves (A 1) k H1 (fun cls d H' => wAs K (.ref (A 1)) 2 (tsHeard K (A 1) (A 4) (A 2) (A 3)) (fun _ _ _ _ => False) D cls d [some v, some (.ref o), none] H') := by
      intro D k q H2 t dx e2 ht hd
      refine ⟨true, T.exm, fun _ a na => ?_, fun z => absurd z (by decide)⟩
      unfold tsHeard
      refine s_seq ?_
      refine s_if (b := true) (et_is (a := true && !false) (et_and (a := true) (b := !false) (et_B (ev_cb (ea_cons (ev_var rfl) (ea_cons ev_c ea_nil)) fun H3 e3 Q k => ⟨_, _, true, dx, _, rfl, rfl, .ty "ValueError", T.kit1, rfl, e3 _ _ hd, k H3 (Ex.refl _)⟩)) fun _ => et_not (et_B ?_)) rfl) (fun _ H3 e3 => ?_) fun z => absurd z (by decide)
      · intro H3 e3 Q k
        exact ⟨_, rfl, eu_tup (ea_cons ev_c (ea_cons ev_c (ea_cons ev_c ea_nil))) (by show 3 ≤ 100000; decide) H3 (Ex.refl _) _ fun tp H4 _ e4 h4 => ⟨tp, _, _, false, dx, _, rfl, rfl, h4, .cons (.own _) (.cons (.own _) (.cons (.own _) .nil)), T.kit2, rfl, e4 _ _ (e3 _ _ hd), k H4 e4⟩⟩
      · refine s_asgU (xs := [.str "place", .ref t]) (eu_tup (ea_cons ev_c (ea_cons (fun H4 e4 Q k => ⟨_, rfl, rfl, rfl, dx, _, .ref t, rfl, e4 _ _ (e3 _ _ hd), by simp [List.lookup], k H4 (Ex.refl _)⟩) ea_nil)) (by show 2 ≤ 100000; decide)) fun u H4 _ e4 hu => ?_
        exact q _ _ ⟨u, t, rfl, hu, e4 _ _ (e3 _ _ ht), (e2.trans e3).trans e4⟩
    refine s_seq ?_
    refine ⟨_, rfl, v, rfl, ?_⟩
    rcases h with ⟨x, rfl, hx, qd, ql⟩ | ⟨no, ql⟩
    · refine .inl ⟨x, rfl, hx, fun d hd H2 v' e2 dv => ?_, fun k hk => ?_⟩
      · refine ⟨by show 2 ≤ sizeLine; decide, fun p np => ?_⟩
        ((try refine s_next ?_); (try dsimp only); (try refine s_seq ?_))
        exact s_ret (ev_var rfl) fun H3 e3 => qd d hd H3 p v' (((e1.trans e2).trans (Ex.new np)).trans e3) (e3 _ _ upd_same) (dv.on (tk_ex ((Ex.new np).trans e3)))
      · refine caught _ k fun σ' H' ⟨t, p, h1, ht, hp, e'⟩ => ?_
        ((try refine s_next ?_); (try dsimp only); (try refine s_seq ?_))
        exact s_ret (ev_var h1) fun H3 e3 => ql k hk H3 t p ((e1.trans e').trans e3) (e3 _ _ ht) (e3 _ _ hp)
    · refine .inr ⟨?_, ?_⟩
      · obtain ⟨t, ty, n⟩ := no
        exact ⟨t, ty_ex ty e1, n⟩
      · refine caught _ 0 fun σ' H' ⟨t, p, h1, ht, hp, e'⟩ => ?_
        ((try refine s_next ?_); (try dsimp only); (try refine s_seq ?_))
        exact s_ret (ev_var h1) fun H3 e3 => ql H3 t p ((e1.trans e').trans e3) (e3 _ _ ht) (e3 _ _ hp)
end
end Kk

/-! ## D6 -/
set_option Elab.async false
set_option linter.all false
set_option maxRecDepth 100000
namespace Kk
open PySem PySem.Spec PyProof.Rows L2 Evl Rd
section
variable {P : Program} {w : World} {K : PySem.W.Frag} {mg : Str → Option Value} {base : Heap} {A : Nat → Addr} {fd : Nat → FuncData} {tk : Nat → Tok}
/-- a line that the law may ask for -/
structure Line (x : Str) : Prop where
  len : x.length ≤ 30000
  asc : Asc x
  few : (words x).length ≤ 1600
def spRight (K : PySem.W.Frag) : Sp := fun vs H Q _ => ∃ v, vs = [v] ∧ ((∃ x : Str, v = .str x ∧ Line x) ∨ NoStr K H v) ∧ ∀ H', Ex H H' → Q (.bl true) H'
/-- what is heard and what is due, alike -/
def Heard (K : PySem.W.Frag) (H : Hp) (p : Addr) (ds : List PyData) : Prop := Dp K H (.ref p) (.tuple ds)
theorem rc_repr {H : Hp} {a : Addr} {ds : List PyData} {room : Nat} (h : ∀ H1, Ex H H1 → Dp K H1 (.ref a) (.tuple ds)) (hc : Q2.canAll ds = true) (hl : (PyData.tuple ds).shown.length ≤ sizeLine) (hd : (PyData.tuple ds).depth ≤ room) : RC (rReprT K room) [.ref a] H (.str (PyData.tuple ds).shown) :=
  fun H1 e Q k => ⟨a, ds, rfl, h H1 e, hc, hl, hd, k H1 (Ex.refl _)⟩
theorem run_where : ∀ (ws : List Str) {st : Stk} {n k : Nat}, run st n ws = .inl k → k < n + ws.length
  | [], _, _, _, h => by cases h
  | x :: r, st, n, k, h => by
    rw [run_cons] at h
    cases hs : Rd.step st x with
    | none =>
      rw [hs] at h
      cases h
      rw [List.length_cons]
      omega
    | some s1 =>
      rw [hs] at h
      have := run_where r h
      rw [List.length_cons]
      omega
theorem read_where {x : Str} {k : Nat} (h : read x = .inl k) : k ≤ (words x).length := by
  unfold Rd.read at h
  split at h
  · rename_i k' e
    cases h
    have := run_where _ e
    omega
  · cases h
  · cases h
    exact Nat.le_refl _
def dThing (d : PyData) : List PyData := [.str "thing", d]
def dPlace (k : Nat) : List PyData := [.str "place", .tuple [.int 0, .int k]]
theorem two_cost (a b : PyData) : (PyData.tuple [a, b]).shown.length + 2 ≤ cost a + cost b + 5 := by
  have := cost_tuple [a, b]
  have e : costs [a, b] = cost a + cost b := by simp [costs]
  rw [e] at this
  exact this
theorem thing_ok {x : Str} {d : PyData} (L : Line x) (h : read x = .inr d) : Q2.canAll (dThing d) = true ∧ (PyData.tuple (dThing d)).shown.length ≤ sizeLine ∧ (PyData.tuple (dThing d)).depth ≤ 1700 := by
  obtain ⟨h1, h2, h3⟩ := read_good L.asc h
  have l1 := L.len
  have l2 := L.few
  refine ⟨?_, ?_, ?_⟩
  · simp only [dThing, Q2.canAll, Bool.and_eq_true]
    exact ⟨by decide +kernel, h1, trivial⟩
  · have c := two_cost (.str "thing") d
    have c1 : cost (.str "thing") ≤ 20 := by decide +kernel
    have c2 : cost d = d.shown.length + 2 := rfl
    have : (PyData.tuple (dThing d)).shown.length ≤ 400000 := by
      unfold dThing
      omega
    exact Nat.le_trans this (by decide)
  · simp only [dThing, PyData.depth, PyData.depthAll]
    omega
theorem place_ok {k : Nat} (hk : k ≤ 1600) : Q2.canAll (dPlace k) = true ∧ (PyData.tuple (dPlace k)).shown.length ≤ sizeLine ∧ (PyData.tuple (dPlace k)).depth ≤ 1700 := by
  have hb : (k : Int).natAbs < 10 ^ 5 := by
    rw [Int.natAbs_natCast]
    omega
  refine ⟨?_, ?_, ?_⟩
  · simp only [dPlace, Q2.canAll, Q2.can, Bool.and_eq_true, decide_eq_true_eq]
    refine ⟨by decide +kernel, ⟨by decide +kernel, Nat.lt_of_lt_of_le hb (Nat.pow_le_pow_right (by decide) (by decide)), trivial⟩, trivial⟩
  · have c := two_cost (.str "place") (.tuple [.int 0, .int k])
    have c1 : cost (.str "place") ≤ 20 := by decide +kernel
    have c2 := two_cost (.int 0) (.int k)
    have c3 : cost (.int 0) ≤ 20 := by decide +kernel
    have c4 : cost (.int k) ≤ 20 := by
      unfold cost
      simp only [PyData.shown]
      have := int_text_length_le10 (by decide) hb
      rw [PySem.ofString_length]
      omega
    have c5 : cost (.tuple [.int 0, .int k]) = (PyData.tuple [.int 0, .int k]).shown.length + 2 := rfl
    have : (PyData.tuple (dPlace k)).shown.length ≤ 400000 := by
      unfold dPlace
      omega
    exact Nat.le_trans this (by decide)
  · simp only [dPlace, PyData.depth, PyData.depthAll]
    omega
theorem t_first {sp : Sp} {E : XK} {i : Nat} {v : V} {σ : L2.St} {H : Hp} {r : List V → Hp → VK → Prop} {r2 : R2} {tb : TE} {Q : VK} (h0 : σ[i]? = some (some v)) (h : sp [v] H (fun x H1 => r [x] H1 fun y H2 => tb σ H2 fun z H3 => r2 y z H3 Q) E) :
    tOp r2 (tCB r (tCons (tCall sp [] E (tCons (tVar i) tNil)) tNil)) tb σ H Q := ⟨v, h0, h⟩
theorem s_asgPair {i : Nat} {c : V} {te : TE} {σ : L2.St} {H : Hp} {D : Ends} {xs : List V} (h : EvU te σ H xs) (k : ∀ p t H1, Ex H H1 → H1 p = some (.tup xs) → H1 t = some (.tup [c, .ref p]) → D.nx (σ.set i (some (.ref t))) H1) :
    tAsg (tTup (tCons (tC c) (tCons te tNil))) (gName i) D σ H := h H (Ex.refl H) _ fun p H1 np e hp => ⟨by show 2 ≤ sizeLine; decide, fun t nt => k p t _ (e.trans (Ex.new nt)) ((Ex.new nt) _ _ hp) upd_same⟩
theorem ok_law_right (T : Txt K mg A fd tk) (ND : base.NoDigits) : FnG P w K mg base CX0 100 (A 23) (fd 23) ["_law_line"] (spRight K) := by
  have G_law_heard := ok_law_heard (P := P) (w := w) T ND
  have G_law_read := ok_law_read (P := P) (w := w) T ND
  refine T.F__law_right.okG sc__law_right (fun vs H Q E h => ?_) (fun cdv A' outer s H vs Q E hr gd h => ?_)
  · obtain ⟨v, rfl, _⟩ := h
    rfl
  · obtain ⟨v, rfl, h, q⟩ := h
    have hu : (A'.deeper (envOfC (Str.ofString "_law_right") (defScope s__law_right) s.heap.objs.size (A 23) cdv)).units + (1700 + 1) < cLine := by
      have := hr.un
      omega
    refine ⟨_, pss_cons (ps_set (i := 1) sc__law_right.nd rfl (.inl rfl) (pe_call G_law_read (hr.mono (by decide)) (by rfl) T.g__law_read T.F__law_read.kp T.b__law_read .nil pass0 (pa_cons (pv 0) pa_nil)))
      (pss_cons (ps_if (pt_cmpR op_eq (pe_ix ix_tup (pv 1) pe_int (fun _ _ => rfl)) pe_str (nomark _))
        (pss_one (ps_set (i := 1) sc__law_right.nd rfl (.inl rfl) (pe_tup (pa_cons pe_str (pa_cons (pe_tup (pa_cons pe_int (pa_cons (pe_ix ix_tup (pv 1) pe_int (fun _ _ => rfl)) pa_nil))) pa_nil))))) pss_nil)
      (pss_one (ps_ret (pe_cmpR op_eq (pe_callB (call_reprT (room := 1700) ND gd hu) (by rfl) T.m_repr (by decide +kernel) (pa_cons (pe_call G_law_heard (hr.mono (by decide)) (by rfl) T.g__law_heard T.F__law_heard.kp T.b__law_heard .nil pass0 (pa_cons (pv 0) pa_nil)) pa_nil))
        (pe_callB (call_reprT (room := 1700) ND gd hu) (by rfl) T.m_repr (by decide +kernel) (pa_cons (pv 1) pa_nil)) (nomark _))))), ?_⟩
    -- the end: both are shown alike
    have last : ∀ (ds : List PyData) (t : Addr) (σ : L2.St) (H1 : Hp) (ok : Q2.canAll ds = true ∧ (PyData.tuple ds).shown.length ≤ sizeLine ∧ (PyData.tuple ds).depth ≤ 1700), Ex H H1 → σ[0]? = some (some v) → σ[1]? = some (some (.ref t)) → Dp K H1 (.ref t) (.tuple ds) →
        (∀ H2 (Q' : VK), Ex H1 H2 → (∀ H3 t', Ex H2 H3 → Dp K H3 (.ref t') (.tuple ds) → Dp K H3 (.ref t) (.tuple ds) → Q' (.ref t') H3) → ∀ E, spHeard K [v] H2 Q' E) →
        tRet (tOp rEq (tCB (rReprT K 1700) (tCons (tCall (spHeard K) [] (fun _ _ _ => False) (tCons (tVar 0) tNil)) tNil)) (tCB (rReprT K 1700) (tCons (tVar 1) tNil))) { nx := fun _ H' => Q .non H', rt := Q } σ H1 := by
      intro ds t σ H1 ok e1 h0 h1 hd call
      refine t_first h0 (call H1 _ (Ex.refl _) (fun H3 t' e3 hd' hd3 => ?_) _)
      refine ⟨t', ds, rfl, hd', ok.1, ok.2.1, ok.2.2, _, h1, t, ds, rfl, hd3, ok.1, ok.2.1, ok.2.2, rfl, ?_⟩
      rw [decide_eq_true rfl]
      exact q _ (e1.trans e3)
    have thing : ∀ (x : Str) (d : PyData) (t : Addr) (v' : V) (H1 : Hp), v = .str x → Line x → read x = .inr d → Ex H H1 → H1 t = some (.tup [.str "thing", v']) → Dv K H1 v' d →
        (tIfS (tTest (tOp rEq (tOp (rIxT K) (tVar 1) (tC (.int 0))) (tC (.str "place")))) (tSeq (tAsg (tTup (tCons (tC (.str "place")) (tCons (tTup (tCons (tC (.int 0)) (tCons (tOp (rIxT K) (tVar 1) (tC (.int 1))) tNil))) tNil))) (gName 1)) tNext) tNext) { nx := (tSeq (tRet (tOp rEq (tCB (rReprT K 1700) (tCons (tCall (spHeard K) [] (fun _ _ _ => False) (tCons (tVar 0) tNil)) tNil)) (tCB (rReprT K 1700) (tCons (tVar 1) tNil)))) tNext) { nx := fun _ H' => Q .non H', rt := Q }, rt := Q } [some v, some (.ref t)] H1 := by
      intro x d t v' H1 ev L hr' e1 ht dv
      subst ev
      refine s_if (b := false) (et_is (et_test (ev_op (ev_op (ev_var rfl) ev_c (rv_ixT (st_of ht) (atI_nat (j := 0) rfl))) ev_c (rv_eq rfl))) (by decide +kernel)) (fun z => absurd z (by decide)) fun _ H2 e2 => ?_
      ((try refine s_next ?_); (try dsimp only); (try refine s_seq ?_))
      refine last (dThing d) t _ H2 (thing_ok L hr') (e1.trans e2) rfl rfl (.tup (st_of (e2 _ _ ht)) (.cons (.str _) (.cons (dv.on (tk_ex e2)).dp .nil))) fun H3 Q' e3 k E' => ⟨_, rfl, .inl ⟨x, rfl, L.len, fun d' hd' H4 t2 v2 e4 ht2 dv2 => ?_, fun k hk => (by rw [hr'] at hk; cases hk)⟩⟩
      rw [hr'] at hd'
      cases hd'
      exact k H4 t2 e4 (.tup (st_of ht2) (.cons (.str _) (.cons dv2.dp .nil))) (.tup (st_of (e4 _ _ (e3 _ _ (e2 _ _ ht)))) (.cons (.str _) (.cons (dv.on (tk_ex ((e2.trans e3).trans e4))).dp .nil)))
    have place : ∀ (k : Nat) (t : Addr) (H1 : Hp), k ≤ 1600 → (∀ H2 Q' E, Ex H H2 → OutPlace (k : Int) H2 Q' → spHeard K [v] H2 Q' E) → Ex H H1 → H1 t = some (.tup [.str "place", .int k]) →
        (tIfS (tTest (tOp rEq (tOp (rIxT K) (tVar 1) (tC (.int 0))) (tC (.str "place")))) (tSeq (tAsg (tTup (tCons (tC (.str "place")) (tCons (tTup (tCons (tC (.int 0)) (tCons (tOp (rIxT K) (tVar 1) (tC (.int 1))) tNil))) tNil))) (gName 1)) tNext) tNext) { nx := (tSeq (tRet (tOp rEq (tCB (rReprT K 1700) (tCons (tCall (spHeard K) [] (fun _ _ _ => False) (tCons (tVar 0) tNil)) tNil)) (tCB (rReprT K 1700) (tCons (tVar 1) tNil)))) tNext) { nx := fun _ H' => Q .non H', rt := Q }, rt := Q } [some v, some (.ref t)] H1 := by
      intro k t H1 hk hear e1 ht
      refine s_if (b := true) (et_is (et_test (ev_op (ev_op (ev_var rfl) ev_c (rv_ixT (st_of ht) (atI_nat (j := 0) rfl))) ev_c (rv_eq rfl))) (by decide +kernel)) (fun _ H2 e2 => ?_) fun z => absurd z (by decide)
      refine s_asgPair (xs := [.int 0, .int k]) (eu_tup (ea_cons ev_c (ea_cons (ev_op (ev_var rfl) ev_c (rv_ixT (st_of (e2 _ _ ht)) (atI_nat (j := 1) rfl))) ea_nil)) (by show 2 ≤ 100000; decide)) fun p u H3 e3 hp hu' => ?_
      ((try refine s_next ?_); (try dsimp only); (try refine s_seq ?_))
      have dp : ∀ H4 t p, H4 p = some (.tup [.int 0, .int k]) → H4 t = some (.tup [.str "place", .ref p]) → Dp K H4 (.ref t) (.tuple (dPlace k)) := fun H4 t p h1 h2 => .tup (st_of h2) (.cons (.str _) (.cons (.tup (st_of h1) (.cons (.int _) (.cons (.int _) .nil))) .nil))
      exact last (dPlace k) u _ H3 (place_ok hk) ((e1.trans e2).trans e3) rfl rfl (dp _ _ _ hp hu') fun H4 Q' e4 kk E' => hear H4 Q' E' (((e1.trans e2).trans e3).trans e4) fun H5 t5 p5 e5 h5 h6 => kk H5 t5 e5 (dp _ _ _ h6 h5) (dp _ _ _ (e5 _ _ (e4 _ _ hp)) (e5 _ _ (e4 _ _ hu')))
    refine s_seq ?_
    refine ⟨_, rfl, v, rfl, ?_⟩
    rcases h with ⟨x, rfl, L⟩ | no
    · refine .inl ⟨x, rfl, L.len, fun d hd H1 t v' e1 ht dv => ?_, fun k hk H1 t e1 ht => ?_⟩
      · ((try refine s_next ?_); (try dsimp only); (try refine s_seq ?_))
        exact thing x d t v' H1 rfl L hd e1 ht dv
      · ((try refine s_next ?_); (try dsimp only); (try refine s_seq ?_))
        refine place k t H1 (Nat.le_trans (read_where hk) L.few) (fun H2 Q' E e2 o => ⟨_, rfl, .inl ⟨x, rfl, L.len, fun d hd => (by rw [hk] at hd; cases hd), fun k' hk' => ?_⟩⟩) e1 ht
        rw [hk] at hk'
        cases hk'
        exact o
    · refine .inr ⟨no, fun H1 t e1 ht => ?_⟩
      ((try refine s_next ?_); (try dsimp only); (try refine s_seq ?_))
      refine place 0 t H1 (by decide) (fun H2 Q' E e2 o => ⟨_, rfl, .inr ⟨?_, o⟩⟩) e1 ht
      obtain ⟨t, ty, n⟩ := no
      exact ⟨t, ty_ex ty e2, n⟩
end
end Kk

/-! ## D7 -/
set_option Elab.async false
set_option linter.all false
set_option maxRecDepth 100000
/-! the deck, and a draw from it -/
namespace Evl
open PySem L2
section
variable {K : PySem.W.Frag} {σ : L2.St} {H : Hp} {D : Ends} {te td : TE} {v : V} {d : Addr} {kvs : List (Key × V)} {x : Str}
theorem ev_dget (h : Ev td σ H (.ref d)) (hd : H d = some (.dK kvs)) (hv : valV kvs (.inr x) = some v) : Ev (tDGet td (tC (.str x))) σ H v := fun H1 e Q q => h H1 e _ fun H2 e2 =>
  ⟨d, v, rfl, .inl ⟨kvs, .inr x, .inl ((e.trans e2) _ _ hd), rfl, hv.symm⟩, q H2 e2⟩
theorem s_dput (h : Ev te σ H v) (hx : Ev td σ H (.ref d)) (hd : H d = some (.dK kvs)) (hl : kvs.length ≤ 1000) (k : ∀ H1, Ex H H1 → D.nx σ (upd H1 d (.dK (putK kvs (.inr x) v)))) : sDPut td (tC (.str x)) te D σ H := h H (Ex.refl H) _ fun H1 e =>
  hx H1 e _ fun H2 e2 => ⟨d, _, rfl, .inl ⟨kvs, .inr x, (e.trans e2) _ _ hd, rfl, Nat.lt_of_le_of_lt hl (by decide), rfl⟩, k H2 (e.trans e2)⟩
theorem s_pop {l : Addr} {xs : List V} {y : V} {i : Nat} (hd : Ev td σ H (.ref l)) (hl : H l = some (.lst (xs ++ [y]))) (k : ∀ H1, Ex H H1 → D.nx (σ.set i (some y)) (upd H1 l (.lst xs))) : tAsg (tBM0 K "list" rPop td) (gName i) D σ H :=
  hd H (Ex.refl H) _ fun H1 e => ⟨.inl ⟨rfl, _, sq_of (e _ _ hl)⟩, l, _, y, rfl, rfl, e _ _ hl, by simp, by rw [List.dropLast_concat]; exact k H1 e⟩
end
end Evl
namespace Kk
open PySem PySem.Spec PyProof.Rows L2 Evl
def kCells : Key := .inr "cells"
def kSeed : Key := .inr "seed"
def kAt : Key := .inr "at"
def deckK (C : Addr) (s : Int) (t : Nat) : List (Key × V) := [(.inr "cells", .ref C), (.inr "seed", .int s), (.inr "at", .int t)]
theorem s12 : ¬ (Str.ofString "cells") = Str.ofString "seed" := by decide +kernel
theorem s13 : ¬ (Str.ofString "cells") = Str.ofString "at" := by decide +kernel
theorem s23 : ¬ (Str.ofString "seed") = Str.ofString "at" := by decide +kernel
theorem k12 : ¬ (Sum.inr (Str.ofString "cells") : Key) = .inr (Str.ofString "seed") := by decide +kernel
theorem k13 : ¬ (Sum.inr (Str.ofString "cells") : Key) = .inr (Str.ofString "at") := by decide +kernel
theorem k23 : ¬ (Sum.inr (Str.ofString "seed") : Key) = .inr (Str.ofString "at") := by decide +kernel
theorem k_cells {C : Addr} {s : Int} {t : Nat} : valV (deckK C s t) (.inr (Str.ofString "cells")) = some (.ref C) := valV_pos rfl
theorem k_seed {C : Addr} {s : Int} {t : Nat} : valV (deckK C s t) (.inr (Str.ofString "seed")) = some (.int s) := (valV_neg k12).trans (valV_pos rfl)
theorem k_at {C : Addr} {s : Int} {t : Nat} : valV (deckK C s t) (.inr (Str.ofString "at")) = some (.int t) := (valV_neg k13).trans ((valV_neg k23).trans (valV_pos rfl))
theorem k_put {C : Addr} {s : Int} {t u : Nat} : putK (deckK C s t) (.inr (Str.ofString "at")) (.int u) = deckK C s u := by
  unfold putK deckK
  simp [s12, s13, s23]
theorem k_disp {C : Addr} {s : Int} {t : Nat} : mergeK [] (deckK C s t) = deckK C s t := by
  unfold mergeK deckK
  simp [putK, s12, s13, s23]
/-- bounds by powers of two -/
theorem nb_up {x : Int} {a b : Nat} (h : x.natAbs < 2 ^ a) (l : a ≤ b) : x.natAbs < 2 ^ b := Nat.lt_of_lt_of_le h (Nat.pow_le_pow_right (by decide) l)
theorem nb_add {x y : Int} {a : Nat} (h : x.natAbs < 2 ^ a) (g : y.natAbs < 2 ^ a) : (x + y).natAbs < 2 ^ (a + 1) := by
  have := Int.natAbs_add_le x y
  rw [Nat.pow_succ]
  omega
def big : Int := 170141183460469231731687303715884105727
def Deck (b : Nat) (H : Hp) (D C : Addr) (t : Nat) : Prop := D ≠ C ∧ ∃ (s : Int) (cs : List Int), 0 ≤ s ∧ s < big ∧ H D = some (.dK (deckK C s t)) ∧ H C = some (.lst (cs.map V.int)) ∧ cs.length ≤ 63 ∧ ∀ c ∈ cs, c.natAbs < 2 ^ b
/-- all but the deck stays -/
def Ex2 (D C : Addr) (H H' : Hp) : Prop := ∀ a o, a ≠ D → a ≠ C → H a = some o → H' a = some o
theorem Ex2.refl (D C : Addr) (H : Hp) : Ex2 D C H H := fun _ _ _ _ h => h
theorem Ex2.trans {D C : Addr} {H H1 H2 : Hp} (a : Ex2 D C H H1) (b : Ex2 D C H1 H2) : Ex2 D C H H2 := fun x o n m h => b x o n m (a x o n m h)
theorem ex2_of {D C : Addr} {H H1 : Hp} (e : Ex H H1) : Ex2 D C H H1 := fun x o _ _ h => e x o h
theorem ex2_D {D C : Addr} {H : Hp} {o : HO} : Ex2 D C H (upd H D o) := fun x u n _ h => by rw [upd_ne n]; exact h
theorem ex2_C {D C : Addr} {H : Hp} {o : HO} : Ex2 D C H (upd H C o) := fun x u _ n h => by rw [upd_ne n]; exact h
theorem Deck.on {b : Nat} {H H1 : Hp} {D C : Addr} {t : Nat} (d : Deck b H D C t) (e : Ex H H1) : Deck b H1 D C t := by
  obtain ⟨n, s, cs, h1, h2, h3, h4, h5, h6⟩ := d
  exact ⟨n, s, cs, h1, h2, e _ _ h3, e _ _ h4, h5, h6⟩
section
variable {P : Program} {w : World} {K : PySem.W.Frag} {mg : Str → Option Value} {base : Heap} {A : Nat → Addr} {fd : Nat → FuncData} {tk : Nat → Tok}
def spDraw (b : Nat) : Sp := fun vs H Q _ => ∃ (D C : Addr) (n : Int) (t : Nat), vs = [.ref D, .int n] ∧ 1 ≤ n ∧ n < 1073741824000 ∧ t < 1000000 ∧ Deck b H D C t ∧ ∀ (r : Nat) H', (r : Int) < n → Ex2 D C H H' → Deck b H' D C (t + 1) → Q (.int r) H'
theorem ok_law_draw (T : Txt K mg A fd tk) {b : Nat} (hb : b ≤ 2000000) : FnOk P w K mg base CX0 1 (A 17) (fd 17) ["_law_deck_here", "_law_sides"] (spDraw b) := by
  refine T.F__law_draw.ok sc__law_draw (fun vs H Q E h => ?_) (fun cdv A' outer s H vs Q E hr h => ?_)
  · obtain ⟨D, C, n, t, rfl, _⟩ := h
    rfl
  · obtain ⟨D, C, n, t, rfl, hn, hn2, ht, dk, q⟩ := h
    have hu : (A'.deeper (envOfC (Str.ofString "_law_draw") (defScope s__law_draw) s.heap.objs.size (A 17) cdv)).units + 1 < cLine := by
      have := hr.un
      omega
    refine ⟨_, pss_cons (ps_dput hu (pv 0) pe_str (pe_op op_add (pe_dget hu (pv 0) pe_str (fun _ _ => rfl)) pe_int) (by rfl))
      (pss_cons (ps_set (i := 2) sc__law_draw.nd rfl (.inl rfl) (pe_dget hu (pv 0) pe_str (fun _ _ => rfl)))
      (pss_cons (ps_set (i := 3) sc__law_draw.nd rfl (.inl rfl) (pe_op op_add (pe_dget hu (pv 0) pe_str (fun _ _ => rfl)) (pe_op op_mul (pe_op op_mul pe_int (pv 2)) (pv 2))))
      (pss_cons (ps_if (pt_cmpR (op_neNilL hr.units0) (pe_dget hu (pv 0) pe_str (fun _ _ => rfl)) (pe_lst pa_nil) (nomark _))
        (pss_cons (ps_set (i := 4) sc__law_draw.nd rfl (.inl rfl) (pe_bm0 PySem.F.plainAttrs_list PySem.F.slot_list_pop PySem.F.type_list_pop mt_pop (pe_dget hu (pv 0) pe_str (fun _ _ => rfl))))
        (pss_cons (ps_if (pt_cmpR op_ge (pv 4) (pe_op op_pow pe_int pe_int) (nomark _))
          (pss_cons (ps_expr (pe_bm PySem.F.plainAttrs_list PySem.F.slot_list_append PySem.F.type_list_append mt_append (pe_dget hu (pv 0) pe_str (fun _ _ => rfl)) (pa_cons (pe_op op_fdivW (pv 4) (pv 1)) pa_nil)))
          (pss_one (ps_ret (pe_op op_mod (pv 4) (pv 1))))) pss_nil)
        (pss_one (ps_set (i := 3) sc__law_draw.nd rfl (.inl rfl) (pe_op op_add (pv 3) (pe_op op_mul pe_int (pv 4))))))) pss_nil)
      (pss_cons (ps_set (i := 3) sc__law_draw.nd rfl (.inl rfl) (pe_op op_mod (pe_op op_mulX (pv 3) (pe_op op_add (pv 3) (pe_op op_mul pe_int (pv 2)))) pe_int))
      (pss_cons (ps_set (i := 3) sc__law_draw.nd rfl (.inl rfl) (pe_op op_mod (pe_op op_add (pe_op op_mulX (pv 3) (pv 3)) (pe_op op_mul pe_int (pv 2))) pe_int))
      (pss_one (ps_ret (pe_op op_mod (pe_op op_fdiv (pv 3) pe_int) (pv 1))))))))), ?_⟩
    obtain ⟨nDC, s0, cs, hs0, hs1, hD, hC, hcl, hcs⟩ := dk
    have hs1' : s0 < 170141183460469231731687303715884105727 := hs1
    have seed : s0.natAbs < 2 ^ 127 := by
      have : (2 : Nat) ^ 127 = 170141183460469231731687303715884105728 := by decide
      omega
    have at20 : ((t + 1 : Nat) : Int).natAbs < 2 ^ 20 := by
      rw [Int.natAbs_natCast]
      have : (2 : Nat) ^ 20 = 1048576 := by decide
      omega
    have hn3 : n.natAbs < 2 ^ 40 := by
      have : (2 : Nat) ^ 40 = 1099511627776 := by decide
      omega
    -- deck['at'] = deck['at'] + 1
    refine s_dput (v := .int ((t + 1 : Nat) : Int)) (ev_is (ev_op (ev_dget (ev_var rfl) hD k_at) ev_c rv_I0) rfl) (ev_var rfl) hD (by show 3 ≤ 1000; decide) fun H1 e1 => ?_
    rw [k_put]
    have hD2 : (upd H1 D (.dK (deckK C s0 (t + 1)))) D = some (.dK (deckK C s0 (t + 1))) := upd_same
    have hC2 : (upd H1 D (.dK (deckK C s0 (t + 1)))) C = some (.lst (cs.map V.int)) := by
      rw [upd_ne nDC.symm]
      exact e1 _ _ hC
    have x2 : Ex2 D C H (upd H1 D (.dK (deckK C s0 (t + 1)))) := (ex2_of e1).trans ex2_D
    generalize upd H1 D (.dK (deckK C s0 (t + 1))) = H2 at hD2 hC2 x2
    ((try refine s_next ?_); (try dsimp only); (try refine s_seq ?_))
    refine s_asg (ev_dget (ev_var rfl) hD2 k_at) fun H3 e3 => ?_
    ((try refine s_next ?_); (try dsimp only); (try refine s_seq ?_))
    have m1 : (7919 * ((t + 1 : Nat) : Int) * ((t + 1 : Nat) : Int)).natAbs < 2 ^ 53 := wide_lt (a := 33) (b := 20) (wide_lt (a := 13) (b := 20) (by decide) at20) at20
    refine s_asg (v := .int (s0 + 7919 * ((t + 1 : Nat) : Int) * ((t + 1 : Nat) : Int))) (ev_op (ev_dget (ev_var rfl) (e3 _ _ hD2) k_seed) (ev_op (ev_op ev_c (ev_var rfl) (rv_I (.inl (by decide)))) (ev_var rfl) (rv_I (.inr (by constructor <;> omega)))) rv_I0) fun H4 e4 => ?_
    ((try refine s_next ?_); (try dsimp only); (try refine s_seq ?_))
    have hD4 := (e3.trans e4) _ _ hD2
    have hC4 := (e3.trans e4) _ _ hC2
    have x4 := x2.trans (ex2_of (e3.trans e4))
    have b1 : (s0 + 7919 * ((t + 1 : Nat) : Int) * ((t + 1 : Nat) : Int)).natAbs < 2 ^ (b + 150) := nb_up (nb_add seed (nb_up m1 (by decide))) (by omega)
    -- behind the number
    have rest : ∀ (m : Int) (v4 : Option V) (H5 : Hp) (cs' : List Int), m.natAbs < 2 ^ (b + 151) → Ex2 D C H H5 → H5 D = some (.dK (deckK C s0 (t + 1))) → H5 C = some (.lst (cs'.map V.int)) → cs'.length ≤ 63 → (∀ c ∈ cs', c.natAbs < 2 ^ b) →
      (tSeq (tAsg (tOp (rI (fun _ j => 0 < j) fun i j => .int (i % j)) (tOp (rI CMulX fun i j => .int (i * j)) (tVar 3) (tOp (rI0 fun i j => .int (i + j)) (tVar 3) (tOp (rI CMul fun i j => .int (i * j)) (tC (.int 48271)) (tVar 2)))) (tC (.int 170141183460469231731687303715884105727))) (gName 3))
        (tSeq (tAsg (tOp (rI (fun _ j => 0 < j) fun i j => .int (i % j)) (tOp (rI0 fun i j => .int (i + j)) (tOp (rI CMulX fun i j => .int (i * j)) (tVar 3) (tVar 3)) (tOp (rI CMul fun i j => .int (i * j)) (tC (.int 104729)) (tVar 2))) (tC (.int 170141183460469231731687303715884105727))) (gName 3))
        (tSeq (tRet (tOp (rI (fun _ j => 0 < j) fun i j => .int (i % j)) (tOp (rI CDiv fun i j => .int (i / j)) (tVar 3) (tC (.int 1048576))) (tVar 1))) tNext))) { nx := fun _ H' => Q .non H', rt := Q } [some (.ref D), some (.int n), some (.int ((t + 1 : Nat) : Int)), some (.int m), v4] H5 := by
      intro m v4 H5 cs' hm x5 h1 h2 h3 h4
      have k1 : (48271 * ((t + 1 : Nat) : Int)).natAbs < 2 ^ 36 := wide_lt (a := 16) (b := 20) (by decide) at20
      have k2 : (m + 48271 * ((t + 1 : Nat) : Int)).natAbs < 2 ^ (b + 152) := nb_add hm (nb_up k1 (by omega))
      refine s_seq ?_
      refine s_asg (v := .int ((m * (m + 48271 * ((t + 1 : Nat) : Int))) % 170141183460469231731687303715884105727)) (ev_op (ev_op (ev_var rfl) (ev_op (ev_var rfl) (ev_op ev_c (ev_var rfl) (rv_I (.inl (by decide)))) rv_I0) (rv_I (mulx_ok hm k2 (by omega)))) ev_c (rv_I (by decide))) fun H6 e6 => ?_
      obtain ⟨m2, hm2⟩ : ∃ m2, (m * (m + 48271 * ((t + 1 : Nat) : Int))) % 170141183460469231731687303715884105727 = m2 := ⟨_, rfl⟩
      rw [hm2]
      have g1 : 0 ≤ m2 := by
        rw [← hm2]
        exact Int.emod_nonneg _ (by decide)
      have g2 : m2 < 170141183460469231731687303715884105727 := by
        rw [← hm2]
        exact Int.emod_lt_of_pos _ (by decide)
      have g3 : m2.natAbs < 2 ^ 127 := by
        have : (2 : Nat) ^ 127 = 170141183460469231731687303715884105728 := by decide
        omega
      ((try refine s_next ?_); (try dsimp only); (try refine s_seq ?_))
      refine s_asg (v := .int ((m2 * m2 + 104729 * ((t + 1 : Nat) : Int)) % 170141183460469231731687303715884105727)) (ev_op (ev_op (ev_op (ev_var rfl) (ev_var rfl) (rv_I (mulx_ok g3 g3 (by decide)))) (ev_op ev_c (ev_var rfl) (rv_I (.inl (by decide)))) rv_I0) ev_c (rv_I (by decide))) fun H7 e7 => ?_
      ((try refine s_next ?_); (try dsimp only); (try refine s_seq ?_))
      obtain ⟨m3, hm3⟩ : ∃ m3, (m2 * m2 + 104729 * ((t + 1 : Nat) : Int)) % 170141183460469231731687303715884105727 = m3 := ⟨_, rfl⟩
      rw [hm3]
      have q1 : 0 ≤ m3 / 1048576 % n := Int.emod_nonneg _ (by omega)
      have q2 : m3 / 1048576 % n < n := Int.emod_lt_of_pos _ (by omega)
      refine s_ret (v := .int (m3 / 1048576 % n)) (ev_op (ev_op (ev_var rfl) ev_c (rv_I (by constructor <;> decide))) (ev_var rfl) (rv_I (by omega))) fun H8 e8 => ?_
      have e58 := (e6.trans e7).trans e8
      have r := q (m3 / 1048576 % n).toNat H8 (by omega) (x5.trans (ex2_of e58)) ⟨nDC, s0, cs', hs0, hs1, e58 _ _ h1, e58 _ _ h2, h3, h4⟩
      rwa [Int.toNat_of_nonneg q1] at r
    refine s_if (b := (cs.map V.int).isEmpty != true) (et_test (ev_nil (ne := true) (ev_dget (ev_var rfl) hD4 k_cells) (sq_of hC4))) (fun hb H5 e5 => ?_) fun hb H5 e5 => ?_
    · have hD5 := e5 _ _ hD4
      have hC5 := e5 _ _ hC4
      have ne : cs ≠ [] := fun z => by
        rw [z] at hb
        exact absurd hb (by decide)
      obtain ⟨cs', c, rfl⟩ : ∃ cs' c, cs = cs' ++ [c] := ⟨_, _, (List.dropLast_concat_getLast ne).symm⟩
      have hc := hcs c (by simp)
      have hcs' : ∀ c ∈ cs', c.natAbs < 2 ^ b := fun c hc => hcs c (by simp [hc])
      have hl' : cs'.length ≤ 63 := by
        rw [List.length_append] at hcl
        omega
      have hm : (cs' ++ [c]).map V.int = cs'.map V.int ++ [.int c] := by simp
      rw [hm] at hC5
      refine s_pop (ev_dget (ev_var rfl) hD5 k_cells) hC5 fun H6 e6 => ?_
      have hD7 : (upd H6 C (.lst (cs'.map V.int))) D = some (.dK (deckK C s0 (t + 1))) := by
        rw [upd_ne nDC]
        exact e6 _ _ hD5
      have hC7 : (upd H6 C (.lst (cs'.map V.int))) C = some (.lst (cs'.map V.int)) := upd_same
      have x7 : Ex2 D C H (upd H6 C (.lst (cs'.map V.int))) := (x4.trans (ex2_of (e5.trans e6))).trans ex2_C
      generalize upd H6 C (.lst (cs'.map V.int)) = H7 at hD7 hC7 x7
      ((try refine s_next ?_); (try dsimp only); (try refine s_seq ?_))
      refine s_if (b := decide ((1000000000000000000 : Int) ≤ c)) (et_test (ev_op (ev_var rfl) (ev_is (w := .int 1000000000000000000) (ev_op ev_c ev_c (rv_I (by refine ⟨by decide, by decide, by decide⟩))) (by decide +kernel)) rv_I0)) (fun hb2 H8 e8 => ?_) fun hb2 H8 e8 => ?_
      · have c0 := of_decide_eq_true hb2
        refine s_app (v := .int (c / n)) (e8 _ _ hC7) (ev_dget (ev_var rfl) (e8 _ _ hD7) k_cells) (ev_op (ev_var rfl) (ev_var rfl) (rv_I (wide_div (by omega) hn3 (by decide) (by decide)))) (by rw [List.length_map]; omega) fun H9 e9 => ?_
        have hD10 : (upd H9 C (.lst (cs'.map V.int ++ [.int (c / n)]))) D = some (.dK (deckK C s0 (t + 1))) := by
          rw [upd_ne nDC]
          exact (e8.trans e9) _ _ hD7
        have hC10 : (upd H9 C (.lst (cs'.map V.int ++ [.int (c / n)]))) C = some (.lst ((cs' ++ [c / n]).map V.int)) := by
          rw [upd_same]
          simp
        have x10 : Ex2 D C H (upd H9 C (.lst (cs'.map V.int ++ [.int (c / n)]))) := (x7.trans (ex2_of (e8.trans e9))).trans ex2_C
        generalize upd H9 C (.lst (cs'.map V.int ++ [.int (c / n)])) = H10 at hD10 hC10 x10
        ((try refine s_next ?_); (try dsimp only); (try refine s_seq ?_))
        have q1 : 0 ≤ c % n := Int.emod_nonneg _ (by omega)
        have q2 : c % n < n := Int.emod_lt_of_pos _ (by omega)
        have q3 : (c / n).natAbs < 2 ^ b := wide_le (Int.ediv_nonneg (by omega) (by omega)) (Int.ediv_le_self _ (by omega)) hc
        refine s_ret (v := .int (c % n)) (ev_op (ev_var rfl) (ev_var rfl) (rv_I (by omega))) fun H11 e11 => ?_
        have r := q (c % n).toNat H11 (by omega) (x10.trans (ex2_of e11)) ⟨nDC, s0, cs' ++ [c / n], hs0, hs1, e11 _ _ hD10, e11 _ _ hC10, by rw [List.length_append]; rw [List.length_append] at hcl; exact hcl, fun z hz => ?_⟩
        · rwa [Int.toNat_of_nonneg q1] at r
        · rcases List.mem_append.mp hz with hz | hz
          · exact hcs' z hz
          · rw [List.mem_singleton] at hz
            subst hz
            exact q3
      · ((try refine s_next ?_); (try dsimp only); (try refine s_seq ?_))
        have k1 : (69621 * c).natAbs < 2 ^ (17 + b) := wide_lt (a := 17) (b := b) (by decide) hc
        refine s_asg (v := .int (s0 + 7919 * ((t + 1 : Nat) : Int) * ((t + 1 : Nat) : Int) + 69621 * c)) (ev_op (ev_var rfl) (ev_op ev_c (ev_var rfl) (rv_I (.inl (by decide)))) rv_I0) fun H9 e9 => ?_
        ((try refine s_next ?_); (try dsimp only); (try refine s_seq ?_))
        exact rest _ _ H9 cs' (nb_add b1 (nb_up k1 (by omega))) (x7.trans (ex2_of (e8.trans e9))) ((e8.trans e9) _ _ hD7) ((e8.trans e9) _ _ hC7) hl' hcs'
    · ((try refine s_next ?_); (try dsimp only); (try refine s_seq ?_))
      exact rest _ _ H5 cs (nb_up b1 (by omega)) (x4.trans (ex2_of e5)) (e5 _ _ hD4) (e5 _ _ hC4) hcl hcs
end
end Kk

/-! ## D8 -/
set_option Elab.async false
set_option linter.all false
set_option maxRecDepth 100000
namespace Evl
open PySem L2
section
variable {K : PySem.W.Frag} {σ : L2.St} {H : Hp} {te : TE}
theorem el_listN {xs : List V} (h : EvL te σ H xs) : EvL (tCB (rListS K) (tCons te tNil)) σ H xs := fun H1 e Q q =>
  h H1 e _ fun p H2 np e2 hp => ⟨p, xs, rfl, .inl (sq_of hp), fun l hl => q l _ (fresh_back e2 hl) (e2.trans (Ex.new hl)) upd_same⟩
theorem cut_to (xs : List V) (k : Nat) : cutV xs none (some (k : Int)) = xs.take k := by
  unfold cutV
  rw [HT.sIx_nat, HT.sIx_none, List.drop_zero, Nat.sub_zero]
  by_cases h : k ≤ xs.length
  · rw [Nat.min_eq_left h]
  · rw [Nat.min_eq_right (by omega), List.take_length, List.take_of_length_le (by omega)]
end
end Evl
namespace Kk
open PySem PySem.Spec PyProof.Rows L2 Evl
section
variable {P : Program} {w : World} {K : PySem.W.Frag} {mg : Str → Option Value} {base : Heap} {A : Nat → Addr} {fd : Nat → FuncData} {tk : Nat → Tok}
def spDeck (K : PySem.W.Frag) (b : Nat) : Sp := fun vs H Q _ => ∃ (a : Addr) (ns : List Int), vs = [.ref a] ∧ SqL K H a (ns.map V.int) ∧ (∀ c ∈ ns, c.natAbs < 2 ^ b) ∧ ∀ D C H', Ex H H' → Deck b H' D C 0 → H D = none → H C = none → Q (.ref D) H'
theorem ok_law_deck (T : Txt K mg A fd tk) {b : Nat} : FnOk P w K mg base CX0 1 (A 16) (fd 16) ["_law_script"] (spDeck K b) := by
  refine T.F__law_deck.ok sc__law_deck (fun vs H Q E h => ?_) (fun cdv A' outer s H vs Q E hr h => ?_)
  · obtain ⟨a, ns, rfl, _⟩ := h
    rfl
  · obtain ⟨a, ns, rfl, ha, hns, q⟩ := h
    refine ⟨_, pss_cons (ps_set (i := 1) sc__law_deck.nd rfl (.inl rfl) (pe_callTy call_list_of (by rfl) T.m_list (by decide +kernel) (pa_cons (pe_slice sl_list (pv 0) po_none (po_some pe_int)) pa_nil)))
      (pss_cons (ps_set (i := 2) sc__law_deck.nd rfl (.inl rfl) (pe_op op_add pe_int (pe_callB call_len_seq (by rfl) T.m_len PySem.boot_len (pa_cons (pv 1) pa_nil))))
      (pss_cons (ps_for PassesOwn.never rfl (pi_list (pv 1)) (pg_name (i := 3) sc__law_deck.nd rfl (.inl rfl))
        (pss_one (ps_set (i := 2) sc__law_deck.nd rfl (.inl rfl) (pe_op op_mod (pe_op op_add (pe_op op_mul (pv 2) pe_int) (pv 3)) pe_int))))
      (pss_one (ps_ret (pe_disp (pps_cons pe_str (pe_revL (pv 1)) (pps_cons pe_str (pv 2) (pps_cons pe_str pe_int pps_nil))) (by rfl) (by rfl) (fun z => by cases z) (by decide)))))), ?_⟩
    have hcut : cutV (ns.map V.int) none (some 63) = (ns.take 63).map V.int := (cut_to _ 63).trans (by rw [List.map_take])
    obtain ⟨cs, hcs⟩ : ∃ cs, ns.take 63 = cs := ⟨_, rfl⟩
    have hl : cs.length ≤ 63 := by
      rw [← hcs, List.length_take]
      omega
    have hb : ∀ c ∈ cs, c.natAbs < 2 ^ b := fun c hc => hns c (List.mem_of_mem_take (hcs ▸ hc))
    rw [hcs] at hcut
    refine s_asgL (xs := cs.map V.int) (by rw [← hcut]; exact el_listN (el_sl (ev_var rfl) eo_none (eo_some ev_c) ha)) fun p H1 np e1 hp => ?_
    ((try refine s_next ?_); (try dsimp only); (try refine s_seq ?_))
    refine s_asg (v := .int (104729 + (cs.map V.int).length)) (ev_op ev_c (ev_len (ev_var rfl) (sq_of hp)) rv_I0) fun H2 e2 => ?_
    ((try refine s_next ?_); (try dsimp only); (try refine s_seq ?_))
    refine s_forLn (a := p) (xs := cs.map V.int) (ev_var rfl) (sq_of (e2 _ _ hp)) (fun _ σ H' => ∃ (s : Int) (v3 : Option V), σ = [some (.ref a), some (.ref p), some (.int s), v3] ∧ 0 ≤ s ∧ s < big ∧ Ex H2 H')
      (fun H3 e3 => ⟨_, none, rfl, by omega, by
        show _ < (170141183460469231731687303715884105727 : Int)
        rw [List.length_map]
        omega, e3⟩) (fun i σ' H' _ ⟨s, v3, _, _, _, e⟩ => sq_of (e _ _ (e2 _ _ hp))) (fun i x σ' H' hx ⟨s, v3, es, h1, h2, e⟩ => ?_) fun σ' H' ⟨s, v3, es, h1, h2, e⟩ => ?_
    · subst es
      rw [List.getElem?_map] at hx
      obtain ⟨c, _, rfl⟩ := Option.map_eq_some_iff.mp hx
      exact s_asg (v := .int ((s * 1000003 + c) % 170141183460469231731687303715884105727)) (ev_op (ev_op (ev_op (ev_var rfl) ev_c (rv_I (.inr (by decide)))) (ev_var rfl) rv_I0) ev_c (rv_I (by decide))) fun H3 e3 => ⟨_, _, rfl, Int.emod_nonneg _ (by decide), Int.emod_lt_of_pos _ (by decide), e.trans e3⟩
    · subst es
      ((try refine s_next ?_); (try dsimp only); (try refine s_seq ?_))
      have e' := (e1.trans e2).trans e
      refine fun D nD => ?_
      have nDp : p ≠ D := fun z => by
        rw [z] at hp
        rw [(e2.trans e) _ _ hp] at nD
        cases nD
      refine ⟨_, rfl, p, cs.map V.int, rfl, sq_of (by rw [upd_ne nDp]; exact (e2.trans e) _ _ hp), fun C nC => ?_⟩
      have nCD : D ≠ C := fun z => by
        rw [← z, upd_same] at nC
        cases nC
      have nC' : H' C = none := by rwa [upd_ne nCD.symm] at nC
      refine ⟨_, rfl, by rw [upd_ne nCD, upd_same], deckK C s 0, rfl, by show 3 ≤ 15; decide, ?_⟩
      rw [k_disp]
      refine q D C _ ?_ ⟨nCD, s, cs.reverse, h1, h2, upd_same, ?_, by rw [List.length_reverse]; exact hl, fun c hc => hb c (List.mem_reverse.mp hc)⟩ (fresh_back e' nD) (fresh_back e' nC')
      · exact Ex.mut (Ex.mut (Ex.mut e' (fresh_back e' nD)) (fresh_back e' nC')) (fresh_back e' nD)
      · rw [upd_ne nCD.symm, upd_same, List.map_reverse]
end
end Kk

/-! ## D9 -/
set_option Elab.async false
set_option linter.all false
set_option maxRecDepth 100000
namespace Kk
open PySem PySem.Spec PyProof.Rows L2 Evl Rd
theorem yes_to {te : TE} {σ : L2.St} {H : Hp} {Q : VK} {R : Hp → Prop} (h : te σ H Q) : tYes σ H (fun b H3 => if b = true then te σ H3 Q else R H3) := by
  show (if true = true then te σ H Q else R H)
  rw [if_pos rfl]
  exact h
/-- a thing as the law draws it -/
inductive Th : Nat → PyData → Prop
  | non (n : Nat) : Th n .none
  | str (n : Nat) {x : Str} : x.length ≤ 6 → Asc x → Th n (.str x)
  | int (n : Nat) {i : Int} : i.natAbs < 10 ^ 40 → Th n (.int i)
  | tup {n : Nat} {ds : List PyData} : ds.length ≤ 4 → (∀ d ∈ ds, Th n d) → Th (n + 1) (.tuple ds)
/-- how many draws it takes -/
def most : Nat → Nat
  | 0 => 8
  | n + 1 => 5 * most n
theorem most_ge : ∀ n, 8 ≤ most n
  | 0 => Nat.le_refl _
  | n + 1 => by
    have := most_ge n
    unfold most
    omega
section
variable {P : Program} {w : World} {K : PySem.W.Frag} {mg : Str → Option Value} {base : Heap} {A : Nat → Addr} {fd : Nat → FuncData} {tk : Nat → Tok}
theorem tk_ex2 {b t : Nat} {H H' : Hp} {D C : Addr} (d : Deck b H D C t) (x : Ex2 D C H H') : TK K H H' := fun a xs h => by
  obtain ⟨_, s, cs, _, _, hD, hC, _⟩ := d
  have key : ∀ o, H a = some o → (∀ kvs, o ≠ .dK kvs) → (∀ ys, o ≠ .lst ys) → H' a = some o := fun o h n1 n2 => x a o (fun z => by
    rw [z, hD] at h
    exact n1 _ (Option.some.inj h).symm) (fun z => by
    rw [z, hC] at h
    exact n2 _ (Option.some.inj h).symm) h
  rcases h with (h | ⟨ob, h⟩) | h
  · exact .inl (.inl (key _ h (fun _ => by simp) fun _ => by simp))
  · exact .inl (.inr ⟨ob, key _ h (fun _ => by simp) fun _ => by simp⟩)
  · exact .inr h
def never : Sp := fun _ _ _ _ => False
theorem ok_never {k : Nat} {f : Addr} {fd : FuncData} {ps : List Str} : FnOk P w K mg base CX0 k f fd ps never := ⟨fun _ _ _ _ h => h.elim, fun _ _ _ _ _ _ _ _ _ _ _ _ _ h => h.elim⟩
def spThing (K : PySem.W.Frag) (b n : Nat) : Sp := fun vs H Q _ => ∃ (D C : Addr) (t : Nat), vs = [.ref D, .int n] ∧ t + most n ≤ 900000 ∧ Deck b H D C t ∧ ∀ v d t' H', Th n d → Dv K H' v d → Ex2 D C H H' → Deck b H' D C t' → t' ≤ t + most n → Q v H'
def spPrev (K : PySem.W.Frag) (b : Nat) : Nat → Sp
  | 0 => never
  | n + 1 => spThing K b n
theorem draw_of {b t : Nat} {σ : L2.St} {H : Hp} {n : Int} {D C : Addr} {Q : VK} {E : XK} {te : TE} (h0 : σ[0]? = some (some (.ref D))) (he : Ev te σ H (.int n)) (h1 : 1 ≤ n) (h2 : n < 1073741824000) (ht : t < 1000000) (dk : Deck b H D C t)
    (k : ∀ (r : Nat) H', (r : Int) < n → Ex2 D C H H' → Deck b H' D C (t + 1) → Q (.int r) H') : tCall (spDraw b) [] E (tCons (tVar 0) (tCons te tNil)) σ H Q :=
  ⟨_, h0, he H (Ex.refl H) _ fun H1 e1 => ⟨D, C, n, t, rfl, h1, h2, ht, dk.on e1, fun r H' hr x d => k r H' hr ((ex2_of e1).trans x) d⟩⟩
theorem Ex2.ne {b t : Nat} {H H' : Hp} {D C L : Addr} (dk : Deck b H D C t) (h : H L = none) : L ≠ D ∧ L ≠ C := by
  obtain ⟨_, s, cs, _, _, hD, hC, _⟩ := dk
  exact ⟨fun z => (by rw [z, hD] at h; cases h), fun z => (by rw [z, hC] at h; cases h)⟩
theorem Ex2.mut {D C L : Addr} {H H' : Hp} {o : HO} (x : Ex2 D C H H') (n : H L = none) : Ex2 D C H (upd H' L o) := fun a u n1 n2 h => by
  rw [upd_ne (ne_of_none h n)]
  exact x a u n1 n2 h
theorem Deck.upd {b t : Nat} {H : Hp} {D C L : Addr} {o : HO} (dk : Deck b H D C t) (n : L ≠ D ∧ L ≠ C) : Deck b (upd H L o) D C t := by
  obtain ⟨h, s, cs, h1, h2, hD, hC, h3, h4⟩ := dk
  exact ⟨h, s, cs, h1, h2, by rw [upd_ne n.1.symm]; exact hD, by rw [upd_ne n.2.symm]; exact hC, h3, h4⟩
theorem thing_of {b n t : Nat} {σ : L2.St} {H : Hp} {D C : Addr} {Q : VK} {E : XK} {te : TE} (h0 : σ[0]? = some (some (.ref D))) (he : Ev te σ H (.int n)) (ht : t + most n ≤ 900000) (dk : Deck b H D C t)
    (k : ∀ v d t' H', Th n d → Dv K H' v d → Ex2 D C H H' → Deck b H' D C t' → t' ≤ t + most n → Q v H') : tCall (spThing K b n) [] E (tCons (tVar 0) (tCons te tNil)) σ H Q :=
  ⟨_, h0, he H (Ex.refl H) _ fun H1 e1 => ⟨D, C, t, rfl, ht, dk.on e1, fun v d t' H' h1 h2 x h3 h4 => k v d t' H' h1 h2 ((ex2_of e1).trans x) h3 h4⟩⟩
theorem t_ixLst {σ : L2.St} {H : Hp} {Q : VK} {ta : TA} {tb : TE} {xs : List V} (h : EvA ta σ H xs) (hl : xs.length ≤ 100000) (k : ∀ p H1, H p = none → Ex H H1 → H1 p = some (.lst xs) → tb σ H1 fun y H2 => rIxL K (.ref p) y H2 Q) : tOp (rIxL K) (tLst ta) tb σ H Q :=
  el_lst h hl H (Ex.refl H) _ fun p H1 n e q => k p H1 n e q
theorem pick {xs : List V} {Pr : V → Prop} (h : ∀ v ∈ xs, Pr v) {r : Nat} (hr : r < xs.length) : ∃ v, atI xs (r : Int) = some v ∧ Pr v := ⟨xs[r], atI_nat (List.getElem?_eq_getElem hr), h _ (List.getElem_mem hr)⟩
def WordOk (v : V) : Prop := ∃ x, v = .str x ∧ x.length ≤ 6 ∧ Asc x
theorem asc_of {x : Str} (h : (TL.tl x).all (fun c => decide (c < 128)) = true) : Asc x := fun c hc => of_decide_eq_true (List.all_eq_true.mp h c hc)
theorem word_ok (x : Str) (h : (decide (x.length ≤ 6) && (TL.tl x).all (fun c => decide (c < 128))) = true) : WordOk (.str x) := by
  rw [Bool.and_eq_true] at h
  exact ⟨x, rfl, of_decide_eq_true h.1, asc_of h.2⟩
def IntOk (v : V) : Prop := ∃ i : Int, v = .int i ∧ i.natAbs ≤ 10 ^ 39
theorem joinL_one (S : List Nat) (h : S = []) : ∀ (l : List (List Nat)), (∀ p ∈ l, ∀ c ∈ p, c < 128) → (∀ p ∈ l, p.length = 1) → (TL.joinL S l).length = l.length ∧ ∀ c ∈ TL.joinL S l, c < 128
  | [], _, _ => ⟨rfl, fun c hc => by cases hc⟩
  | [p], h1, h2 => ⟨h2 p (List.mem_singleton.mpr rfl), h1 p (List.mem_singleton.mpr rfl)⟩
  | p :: z :: r, h1, h2 => by
    obtain ⟨i1, i2⟩ := joinL_one S h (z :: r) (fun q hq => h1 q (List.mem_cons_of_mem _ hq)) (fun q hq => h2 q (List.mem_cons_of_mem _ hq))
    have e : TL.joinL S (p :: z :: r) = p ++ TL.joinL S (z :: r) := by
      subst h
      rfl
    rw [e]
    refine ⟨?_, fun c hc => ?_⟩
    · rw [List.length_append, i1, h2 p (List.mem_cons_self ..)]
      simp only [List.length_cons]
      omega
    · rcases List.mem_append.mp hc with hc | hc
      · exact h1 p (List.mem_cons_self ..) c hc
      · exact i2 c hc
theorem join_signs {ys : List Str} (h : ∀ y ∈ ys, y.length = 1 ∧ Asc y) : (Txt.join (Str.ofString "") ys).length = ys.length ∧ Asc (Txt.join (Str.ofString "") ys) := by
  have e : TL.tl (Txt.join (Str.ofString "") ys) = TL.joinL (TL.tl (Str.ofString "")) (ys.map TL.tl) := by
    rw [TL.join_eq, TL.tl_join]
  obtain ⟨h1, h2⟩ := joinL_one (TL.tl (Str.ofString "")) (by decide +kernel) (ys.map TL.tl) (fun p hp => by
    obtain ⟨y, hy, rfl⟩ := List.mem_map.mp hp
    exact (h y hy).2) (fun p hp => by
    obtain ⟨y, hy, rfl⟩ := List.mem_map.mp hp
    rw [← TL.len_tl]
    exact (h y hy).1)
  refine ⟨?_, ?_⟩
  · rw [TL.len_tl, e, h1, List.length_map]
  · unfold Asc
    rw [e]
    exact h2
theorem thing_step (T : Txt K mg A fd tk) {b : Nat} (hb : b ≤ 2000000) (n : Nat) (GT : FnOk P w K mg base CX0 (n + 1) (A 18) (fd 18) ["_law_deck_here", "_law_deep"] (spPrev K b n)) : FnOk P w K mg base CX0 (n + 2) (A 18) (fd 18) ["_law_deck_here", "_law_deep"] (spThing K b n) := by
  have GD := ok_law_draw (P := P) (w := w) (base := base) T hb
  refine T.F__law_thing.ok sc__law_thing (fun vs H Q E h => ?_) (fun cdv A' outer s H vs Q E hr h => ?_)
  · obtain ⟨D, C, t, rfl, _⟩ := h
    rfl
  · obtain ⟨D, C, t, rfl, ht, dk, q⟩ := h
    have hr1 : Room 1 _ := hr.mono (by omega)
    refine ⟨_, pss_cons (ps_set (i := 2) sc__law_thing.nd rfl (.inl rfl) (pe_call GD hr1 (by rfl) T.g__law_draw T.F__law_draw.kp T.b__law_draw .nil pass0 (pa_cons (pv 0) (pa_cons pe_int pa_nil))))
      (pss_cons (ps_if (PW.pt (pw_and (pt_cmpR op_gt (pv 1) pe_int (nomark _)) (pw_and1 (pt_cmpR op_lt (pv 2) pe_int (nomark _)))))
        (pss_one (ps_ret (pe_callTy call_tuple_of (by rfl) T.m_tuple (by decide +kernel) (pa_cons (pe_lc (own := [("_law_k", 5)]) (g := gName 5) (tt := tYes) rfl sc__law_thing.nd (pi_range1 (by rfl) T.m_range (pa_cons (pe_call GD hr1 (by rfl) T.g__law_draw T.F__law_draw.kp T.b__law_draw .nil pass0 (pa_cons (pv 0) (pa_cons pe_int pa_nil))) pa_nil))
          (blkOk_by (own := [("_law_k", 5)]) (N := N__law_thing) (sc := (defScope s__law_thing)) (by decide +kernel)) (fun _ _ _ _ _ => (pg_name (i := 5) sc__law_thing.nd rfl (.inl rfl))) (fun _ _ _ _ _ => pts_nil)
          (fun _ _ _ _ _ => (pe_call GT hr (by rfl) T.g__law_thing T.F__law_thing.kp T.b__law_thing .nil pass0 (pa_cons (pv 0) (pa_cons (pe_op op_sub (pv 1) pe_int) pa_nil))))) pa_nil)))) pss_nil)
      (pss_cons (ps_if (pt_cmpR op_eq (pv 2) pe_int (nomark _)) (pss_one (ps_ret pe_non)) pss_nil)
      (pss_cons (ps_if (pt_cmpR op_eq (pv 2) pe_int (nomark _))
        (pss_cons (ps_set (i := 3) sc__law_thing.nd rfl (.inr rfl) pe_str)
        (pss_one (ps_ret (pe_join pe_str (pe_lc (own := [("_law_k", 5)]) (g := gName 5) (tt := tYes) rfl sc__law_thing.nd (pi_range1 (by rfl) T.m_range (pa_cons (pe_op op_add pe_int (pe_call GD hr1 (by rfl) T.g__law_draw T.F__law_draw.kp T.b__law_draw .nil pass0 (pa_cons (pv 0) (pa_cons pe_int pa_nil)))) pa_nil))
          (blkOk_by (own := [("_law_k", 5)]) (N := N__law_thing) (sc := (defScope s__law_thing)) (by decide +kernel)) (fun _ _ _ _ _ => (pg_name (i := 5) sc__law_thing.nd rfl (.inl rfl))) (fun _ _ _ _ _ => pts_nil)
          (fun _ _ _ _ _ => (pe_ix ix_str (pv 3) (pe_call GD hr1 (by rfl) T.g__law_draw T.F__law_draw.kp T.b__law_draw .nil pass0 (pa_cons (pv 0) (pa_cons (pe_callB call_len_str (by rfl) T.m_len PySem.boot_len (pa_cons (pv 3) pa_nil)) pa_nil))) (fun _ _ => rfl))))))))
        pss_nil)
      (pss_cons (ps_if (pt_cmpR op_eq (pv 2) pe_int (nomark _)) (pss_one (ps_ret (pe_ix ix_list (pe_lst (pa_cons pe_str (pa_cons pe_str (pa_cons pe_str (pa_cons pe_str (pa_cons pe_str (pa_cons pe_str (pa_cons pe_str (pa_cons pe_str pa_nil))))))))) (pe_call GD hr1 (by rfl) T.g__law_draw T.F__law_draw.kp T.b__law_draw .nil pass0 (pa_cons (pv 0) (pa_cons pe_int pa_nil))) (fun _ _ => rfl)))) pss_nil)
      (pss_cons (ps_set (i := 4) sc__law_thing.nd rfl (.inl rfl) (pe_lst (pa_cons pe_int (pa_cons pe_int (pa_cons pe_int (pa_cons pe_int (pa_cons pe_int (pa_cons (pe_call GD hr1 (by rfl) T.g__law_draw T.F__law_draw.kp T.b__law_draw .nil pass0 (pa_cons (pv 0) (pa_cons pe_int pa_nil)))
          (pa_cons (pe_op op_sub (pe_op op_pow pe_int pe_int) (pe_call GD hr1 (by rfl) T.g__law_draw T.F__law_draw.kp T.b__law_draw .nil pass0 (pa_cons (pv 0) (pa_cons pe_int pa_nil)))) (pa_cons (pe_call GD hr1 (by rfl) T.g__law_draw T.F__law_draw.kp T.b__law_draw .nil pass0 (pa_cons (pv 0) (pa_cons (pe_op op_pow pe_int pe_int) pa_nil))) pa_nil))))))))))
      (pss_one (ps_ret (pe_op op_mul (pe_ix ix_list (pv 4) (pe_call GD hr1 (by rfl) T.g__law_draw T.F__law_draw.kp T.b__law_draw .nil pass0 (pa_cons (pv 0) (pa_cons pe_int pa_nil))) (fun _ _ => rfl))
        (pe_ix ix_list (pe_lst (pa_cons pe_int (pa_cons (pe_un un_neg pe_int) pa_nil))) (pe_call GD hr1 (by rfl) T.g__law_draw T.F__law_draw.kp T.b__law_draw .nil pass0 (pa_cons (pv 0) (pa_cons pe_int pa_nil))) (fun _ _ => rfl)))))))))), ?_⟩
    have h8 := most_ge n
    refine draw_of rfl ev_c (by decide) (by decide) (by omega) dk fun r H1 hrr x1 dk1 => ?_
    ((try refine s_next ?_); (try dsimp only); (try refine s_seq ?_))
    refine s_if (b := decide ((0 : Int) < n) && decide ((r : Int) < 3)) (et_and (et_test (ev_op (ev_var rfl) ev_c rv_I0)) fun _ => et_test (ev_op (ev_var rfl) ev_c rv_I0)) (fun hb H2 e2 => ?_) fun hb H2 e2 => ?_
    · cases n with
      | zero => exact absurd hb (by simp)
      | succ m =>
        have dk2 := dk1.on e2
        refine draw_of rfl ev_c (by decide) (by decide) (by omega) dk2 fun r2 H3 hr2 x3 dk3 => ⟨r2, rfl, by omega, by omega, fun L nL => ?_⟩
        have hm : most (m + 1) = 5 * most m := rfl
        have h8m := most_ge m
        have x03 := (x1.trans (ex2_of e2)).trans x3
        have nLD := Ex2.ne (H' := H3) dk3 nL
        have nL0 : H L = none := by
          cases hh : H L with
          | none => rfl
          | some o =>
            rw [x03 L o nLD.1 nLD.2 hh] at nL
            cases nL
        refine lc_it walk_range (fun i H' => ∃ vs ds t', H' L = some (.lst vs) ∧ vs.length = i ∧ DvAll K H' vs ds ∧ (∀ d ∈ ds, Th m d) ∧ Deck b H' D C t' ∧ t' ≤ t + 2 + i * most m ∧ Ex2 D C H H') ?_ (fun _ _ _ _ => trivial) (fun i x Ha Hb hi p y => ?_) fun Ha p => ?_
        · exact ⟨[], [], t + 2, upd_same, rfl, .nil, fun _ h => (by cases h), dk3.upd nLD, by omega, x03.mut nL0⟩
        · obtain ⟨rfl, rfl⟩ := y
          obtain ⟨vs, ds, t', hL, hlen, dv, th, dkA, ht', xA⟩ := p
          have hi4 : i < 4 := by omega
          refine ⟨rfl, yes_to ?_⟩
          have hm4 : i * most m ≤ 3 * most m := Nat.mul_le_mul_right _ (by omega)
          refine thing_of (n := m) rfl (ev_is (ev_op (ev_var rfl) ev_c rv_I0) (by show V.int _ = V.int _; congr 1; omega)) (by omega) dkA fun v d t4 H4 hd hv x4 dk4 h4 => ?_
          have hL4 := x4 L _ nLD.1 nLD.2 hL
          refine ⟨vs, hL4, ?_, vs ++ [v], ds ++ [d], t4, upd_same, by rw [List.length_append, hlen]; rfl, ((dv.on (tk_ex2 dkA x4)).on (tk_upd hL4)).snoc (hv.on (tk_upd hL4)), fun e he => ?_, dk4.upd nLD, ?_, (xA.trans x4).mut nL0⟩
          · rw [hlen]
            exact Nat.lt_of_lt_of_le hi4 (by decide)
          · rcases List.mem_append.mp he with he | he
            · exact th e he
            · rw [List.mem_singleton] at he
              subst he
              exact hd
          · have : (i + 1) * most m = i * most m + most m := Nat.succ_mul _ _
            omega
        · obtain ⟨vs, ds, t', hL, hlen, dv, th, dkA, ht', xA⟩ := p
          have h4 : r2 ≤ 4 := by omega
          have hlen' : vs.length = r2 := hlen
          refine ⟨L, vs, rfl, .inl ⟨sq_of hL, fun l nl => q (.ref l) (.tuple ds) t' _ (.tup (by rw [← dv.len]; omega) th) (.tup (st_of upd_same) (dv.on (tk_ex (Ex.new nl)))) (xA.trans (ex2_of (Ex.new nl))) (dkA.on (Ex.new nl)) ?_⟩⟩
          have : r2 * most m ≤ 4 * most m := Nat.mul_le_mul_right _ h4
          have e : ((r2 : Nat) : Int).toNat = r2 := Int.toNat_natCast _
          rw [e] at ht'
          omega
    · have dk2 := dk1.on e2
      have x2 := x1.trans (ex2_of e2)
      ((try refine s_next ?_); (try dsimp only); (try refine s_seq ?_))
      refine s_if (et_test (ev_op (ev_var rfl) ev_c (rv_eq rfl))) (fun _ H3 e3 => ?_) fun _ H3 e3 => ?_
      · exact s_ret ev_c fun H4 e4 => q .non .none (t + 1) H4 (.non n) .non (x2.trans (ex2_of (e3.trans e4))) (dk2.on (e3.trans e4)) (by omega)
      · ((try refine s_next ?_); (try dsimp only); (try refine s_seq ?_))
        have dk3 := dk2.on e3
        have x3 := x2.trans (ex2_of e3)
        refine s_if (et_test (ev_op (ev_var rfl) ev_c (rv_eq rfl))) (fun _ H4 e4 => ?_) fun _ H4 e4 => ?_
        · have dk4 := dk3.on e4
          have x4 := x3.trans (ex2_of e4)
          generalize hS : Str.ofString "!\"#$&'()*+,-./0123456789:;<=>?@AZ[\\]^_`az{|}~" = S
          have hSl : S.length ≤ 100 := by
            rw [← hS]
            decide +kernel
          have hS1 : 1 ≤ S.length := by
            rw [← hS]
            decide +kernel
          have hSa : Asc S := by
            rw [← hS]
            exact asc_of (by decide +kernel)
          refine s_asg ev_c fun H5 e5 => ?_
          have dk5 := dk4.on e5
          have x5 := x4.trans (ex2_of e5)
          ((try refine s_next ?_); (try dsimp only); (try refine s_seq ?_))
          refine ⟨⟨_, rfl⟩, ?_⟩
          refine draw_of rfl ev_c (by decide) (by decide) (by omega) dk5 fun r6 H6 hr6 x6 dk6 => ⟨_, _, rfl, rfl, _, rfl, by omega, by omega, fun L nL => ?_⟩
          have x06 := x5.trans x6
          have nLD := Ex2.ne (H' := H6) dk6 nL
          have nL0 : H L = none := by
            cases hh : H L with
            | none => rfl
            | some o =>
              rw [x06 L o nLD.1 nLD.2 hh] at nL
              cases nL
          have hcnt : ((1 : Int) + (r6 : Int)).toNat = 1 + r6 := by omega
          rw [hcnt]
          refine lc_it walk_range (fun i H' => ∃ ys : List Str, H' L = some (.lst (ys.map V.str)) ∧ ys.length = i ∧ (∀ y ∈ ys, y.length = 1 ∧ Asc y) ∧ Deck b H' D C (t + 2 + i) ∧ Ex2 D C H H') ?_ (fun _ _ _ _ => trivial) (fun i x Ha Hb hi p y => ?_) fun Ha p => ?_
          · exact ⟨[], upd_same, rfl, fun _ h => (by cases h), dk6.upd nLD, x06.mut nL0⟩
          · obtain ⟨rfl, rfl⟩ := y
            obtain ⟨ys, hL, hlen, hys, dkA, xA⟩ := p
            refine ⟨rfl, yes_to ?_⟩
            refine ⟨_, rfl, ?_⟩
            refine draw_of (n := S.length) rfl (ev_cb (ea_cons (ev_var rfl) ea_nil) (rc_lenS (Nat.le_trans hSl (by decide)))) (by omega) (by omega) (by omega) dkA fun r7 H7 hr7 x7 dk7 => ?_
            have hr7' : r7 < S.cps.toList.length := by
              have e : S.cps.toList.length = S.length := Array.length_toList
              omega
            have hL7 := x7 L _ nLD.1 nLD.2 hL
            refine ⟨S, r7, S.cps.toList[r7], rfl, rfl, Nat.le_trans hSl (by decide), atI_nat (List.getElem?_eq_getElem hr7'), ys.map V.str, hL7, ?_, ys ++ [⟨#[S.cps.toList[r7]]⟩], ?_, by rw [List.length_append, hlen]; rfl, fun z hz => ?_, dk7.upd nLD, (xA.trans x7).mut nL0⟩
            · rw [List.length_map, hlen]
              exact Nat.lt_of_lt_of_le (show i < 100 by omega) (by decide)
            · rw [upd_same, List.map_append]
              rfl
            · rcases List.mem_append.mp hz with hz | hz
              · exact hys z hz
              · rw [List.mem_singleton] at hz
                subst hz
                refine ⟨rfl, fun c hc => ?_⟩
                have hc : c ∈ [S.cps.toList[r7]] := hc
                rw [List.mem_singleton] at hc
                subst hc
                exact hSa _ (List.getElem_mem hr7')
          · obtain ⟨ys, hL, hlen, hys, dkA, xA⟩ := p
            obtain ⟨j1, j2⟩ := join_signs hys
            refine ⟨_, L, ys, rfl, rfl, .inl (sq_of hL), ?_, q _ (.str _) _ Ha (.str n (by omega) j2) (.str _) xA dkA (by omega)⟩
            have e1 : (ys.map (·.length)).sum = ys.length := by
              have : ∀ l : List Str, (∀ y ∈ l, y.length = 1 ∧ Asc y) → (l.map (·.length)).sum = l.length := by
                intro l
                induction l with
                | nil => intro _; rfl
                | cons a r ih =>
                  intro h
                  rw [List.map_cons, List.sum_cons, ih fun y hy => h y (List.mem_cons_of_mem _ hy), (h a (List.mem_cons_self ..)).1, List.length_cons]
                  omega
              exact this ys hys
            have e2 : (Str.ofString "").length = 0 := by decide +kernel
            rw [e1, e2]
            omega
        · ((try refine s_next ?_); (try dsimp only); (try refine s_seq ?_))
          have dk4 := dk3.on e4
          have x4 := x3.trans (ex2_of e4)
          refine s_if (et_test (ev_op (ev_var rfl) ev_c (rv_eq rfl))) (fun _ H5 e5 => ?_) fun _ H5 e5 => ?_
          · have dk5 := dk4.on e5
            have x5 := x4.trans (ex2_of e5)
            refine t_ixLst (xs := [.str (Str.ofString "none"), .str (Str.ofString "("), .str (Str.ofString ")"), .str (Str.ofString "'"), .str (Str.ofString "-1"), .str (Str.ofString "0"), .str (Str.ofString "gate"), .str (Str.ofString "and")]) (ea_cons ev_c (ea_cons ev_c (ea_cons ev_c (ea_cons ev_c (ea_cons ev_c (ea_cons ev_c (ea_cons ev_c (ea_cons ev_c ea_nil)))))))) (by show 8 ≤ 100000; decide) fun p H6 np e6 hp => ?_
            have np2 := Ex2.ne (H' := H5) dk5 np
            refine draw_of rfl ev_c (by decide) (by decide) (by omega) (dk5.on e6) fun r5 H7 hr5 x7 dk7 => ?_
            obtain ⟨v, hv, x, rfl, hx1, hx2⟩ := pick (xs := [.str (Str.ofString "none"), .str (Str.ofString "("), .str (Str.ofString ")"), .str (Str.ofString "'"), .str (Str.ofString "-1"), .str (Str.ofString "0"), .str (Str.ofString "gate"), .str (Str.ofString "and")]) (Pr := WordOk) (fun v hv => by
              simp only [List.mem_cons, List.not_mem_nil, or_false] at hv
              rcases hv with rfl | rfl | rfl | rfl | rfl | rfl | rfl | rfl <;> exact word_ok _ (by decide +kernel)) (r := r5) (by show r5 < 8; omega)
            exact ⟨p, _, r5, _, rfl, rfl, sq_of (x7 _ _ np2.1 np2.2 hp), hv, q _ (.str x) (t + 2) H7 (.str n hx1 hx2) (.str x) ((x5.trans (ex2_of e6)).trans x7) dk7 (by omega)⟩
          · ((try refine s_next ?_); (try dsimp only); (try refine s_seq ?_))
            have dk5 := dk4.on e5
            have x5 := x4.trans (ex2_of e5)
            refine draw_of rfl ev_c (by decide) (by decide) (by omega) dk5 fun ra H6 hra x6 dk6 => ?_
            refine ⟨10, 39, rfl, rfl, ⟨by decide, by decide, by decide⟩, ?_⟩
            refine draw_of rfl ev_c (by decide) (by decide) (by omega) dk6 fun rc H7 hrc x7 dk7 => ⟨_, _, rfl, rfl, ?_⟩
            refine draw_of (n := 1000000000000) rfl (ev_is (ev_op ev_c ev_c (rv_I ⟨by decide, by decide, by decide⟩)) (by decide +kernel)) (by decide) (by decide) (by omega) dk7 fun re H8 hre x8 dk8 => ⟨by show 8 ≤ sizeLine; decide, fun p np => ?_⟩
            have np2 := Ex2.ne (H' := H8) dk8 np
            have x58 := ((x5.trans x6).trans x7).trans x8
            have np0 : H p = none := by
              cases hh : H p with
              | none => rfl
              | some o =>
                rw [x58 p o np2.1 np2.2 hh] at np
                cases np
            have hint : ∀ v ∈ [V.int 0, .int 9, .int 10, .int 99, .int 100, .int ra, .int (10 ^ (39 : Int).toNat - rc), .int re], IntOk v := fun v hv => by
              have e39 : (10 : Int) ^ (39 : Int).toNat = 1000000000000000000000000000000000000000 := by decide +kernel
              have e39' : (10 : Nat) ^ 39 = 1000000000000000000000000000000000000000 := by decide +kernel
              rw [e39] at hv
              unfold IntOk
              rw [e39']
              simp only [List.mem_cons, List.not_mem_nil, or_false] at hv
              rcases hv with rfl | rfl | rfl | rfl | rfl | rfl | rfl | rfl <;> exact ⟨_, rfl, by omega⟩
            have h9 : (upd H8 p (.lst [V.int 0, .int 9, .int 10, .int 99, .int 100, .int ra, .int (10 ^ (39 : Int).toNat - rc), .int re])) p = some (.lst [V.int 0, .int 9, .int 10, .int 99, .int 100, .int ra, .int (10 ^ (39 : Int).toNat - rc), .int re]) := upd_same
            have dk9 : Deck b (upd H8 p (.lst [V.int 0, .int 9, .int 10, .int 99, .int 100, .int ra, .int (10 ^ (39 : Int).toNat - rc), .int re])) D C _ := dk8.upd np2
            have x9 : Ex2 D C H (upd H8 p (.lst [V.int 0, .int 9, .int 10, .int 99, .int 100, .int ra, .int (10 ^ (39 : Int).toNat - rc), .int re])) := x58.mut np0
            generalize upd H8 p (.lst [V.int 0, .int 9, .int 10, .int 99, .int 100, .int ra, .int (10 ^ (39 : Int).toNat - rc), .int re]) = H9 at h9 dk9 x9
            generalize hxs : [V.int 0, .int 9, .int 10, .int 99, .int 100, .int ra, .int (10 ^ (39 : Int).toNat - rc), .int re] = xs at h9 hint
            have hxl : xs.length = 8 := by rw [← hxs]; rfl
            ((try refine s_next ?_); (try dsimp only); (try refine s_seq ?_))
            refine ⟨_, rfl, ?_⟩
            refine draw_of rfl ev_c (by decide) (by decide) (by omega) dk9 fun r8 H10 hr8 x10 dk10 => ?_
            obtain ⟨v, hv, i, rfl, hi⟩ := pick hint (r := r8) (by omega)
            refine ⟨p, xs, r8, _, rfl, rfl, sq_of (x10 _ _ np2.1 np2.2 h9), hv, ?_⟩
            refine t_ixLst (xs := [.int 1, .int (-1)]) (ea_cons ev_c (ea_cons (ev_un ev_c ru_neg) ea_nil)) (by show 2 ≤ 100000; decide) fun p2 H11 np11 e11 hp11 => ?_
            have np12 := Ex2.ne (H' := H10) dk10 np11
            refine draw_of rfl ev_c (by decide) (by decide) (by omega) (dk10.on e11) fun r2 H12 hr2 x12 dk12 => ?_
            obtain ⟨v2, hv2, j, rfl, hj⟩ := pick (xs := [.int 1, .int (-1)]) (Pr := fun v => ∃ j : Int, v = .int j ∧ (j = 1 ∨ j = -1)) (fun v hv => by
              simp only [List.mem_cons, List.not_mem_nil, or_false] at hv
              rcases hv with rfl | rfl
              · exact ⟨_, rfl, .inl rfl⟩
              · exact ⟨_, rfl, .inr rfl⟩) (r := r2) (by show r2 < 2; omega)
            refine ⟨p2, _, r2, _, rfl, rfl, sq_of (x12 _ _ np12.1 np12.2 hp11), hv2, i, j, rfl, rfl, .inr (by omega), ?_⟩
            refine q _ (.int (i * j)) _ H12 (.int n ?_) (.int _) ((x9.trans x10).trans ((ex2_of e11).trans x12)) dk12 (by omega)
            have e40 : (10 : Nat) ^ 40 = 10 * 10 ^ 39 := by decide +kernel
            have e0 : 0 < (10 : Nat) ^ 39 := by decide +kernel
            rw [e40]
            rcases hj with rfl | rfl
            · rw [Int.mul_one]
              omega
            · rw [Int.natAbs_mul]
              show i.natAbs * 1 < _
              omega
theorem ok_law_thing (T : Txt K mg A fd tk) {b : Nat} (hb : b ≤ 2000000) : ∀ n : Nat, FnOk P w K mg base CX0 (n + 2) (A 18) (fd 18) ["_law_deck_here", "_law_deep"] (spThing K b n)
  | 0 => thing_step T hb 0 ok_never
  | n + 1 => thing_step T hb (n + 1) (ok_law_thing T hb n)
end
end Kk

/-! ## D10 -/
set_option Elab.async false
set_option linter.all false
set_option maxRecDepth 100000
namespace L2
open PySem PySem.Spec PyProof.Rows
/-- what str says of None, a text, an int -/
def StrOf (v : V) (z : Str) : Prop := (v = .non ∧ z = Str.ofString "None") ∨ v = .str z ∨ ∃ i : Int, v = .int i ∧ i.natAbs.log2 < 1920 ∧ z = Str.ofString (toString i)
def rStrA : List V → Hp → VK → Prop := fun xs H Q => ∃ v z, xs = [v] ∧ StrOf v z ∧ Q (.str z) H
theorem call_strA {X : Cx} : CallR X (.type "str") rStrA := by
  intro pins s σ H xs us Q I r h
  obtain ⟨v, z, rfl, k, q⟩ := h
  obtain ⟨u, rfl, rx⟩ := vals1 r
  rcases k with ⟨rfl, rfl⟩ | rfl | ⟨i, rfl, hi, rfl⟩
  · cases (show u = Value.none from rx)
    exact PySem.P.str_of_none ⟨.str _, H, I.tok _, ⟨_, rfl⟩, q⟩
  · obtain ⟨t, rfl⟩ := rx
    exact PySem.P.str_of_str ⟨.str _, H, I, ⟨_, rfl⟩, q⟩
  · obtain ⟨t, rfl⟩ := rx
    exact PySem.P.str_of_int hi ⟨.str _, H, I.tok _, ⟨_, rfl⟩, q⟩
end L2
namespace Evl
open PySem L2
section
variable {K : PySem.W.Frag} {σ : L2.St} {H : Hp} {ta tb : TE}
theorem el_cat {p : Addr} {xs ys : List V} (ha : Ev ta σ H (.ref p)) (hp : H p = some (.lst xs)) (hb : EvL tb σ H ys) (hl : xs.length + ys.length ≤ 100000) : EvL (tOp rCat ta tb) σ H (xs ++ ys) := fun H1 e Q q =>
  ha H1 e _ fun H2 e2 => hb H2 (e.trans e2) _ fun p2 H3 n2 e3 h2 => ⟨p, p2, xs, ys, rfl, rfl, ((e.trans e2).trans e3) _ _ hp, h2, Nat.le_trans hl (by decide), fun l nl => q l _ (fresh_back (e2.trans e3) nl) ((e2.trans e3).trans (Ex.new nl)) upd_same⟩
theorem el_catLL {xs ys : List V} (ha : EvL ta σ H xs) (hb : EvL tb σ H ys) (hl : xs.length + ys.length ≤ 100000) : EvL (tOp rCat ta tb) σ H (xs ++ ys) := fun H1 e Q q =>
  ha H1 e _ fun p H2 n e2 hp => hb H2 (e.trans e2) _ fun p2 H3 n2 e3 h2 => ⟨p, p2, xs, ys, rfl, rfl, e3 _ _ hp, h2, Nat.le_trans hl (by decide), fun l nl => q l _ (fresh_back (e2.trans e3) nl) ((e2.trans e3).trans (Ex.new nl)) upd_same⟩
end
end Evl
namespace Rd
open PySem
def cs (x : Str) : Nat := (TL.tl x).count 32
theorem cs_len (x : Str) : cs x ≤ x.length := by
  unfold cs
  rw [TL.len_tl]
  exact List.count_le_length
end Rd
namespace Kk
open PySem PySem.Spec PyProof.Rows L2 Evl Rd
def cnt : Nat → Nat
  | 0 => 1
  | n + 1 => 2 + 4 * cnt n
structure Ws (n : Nat) (ws : List Str) : Prop where
  each : ∀ w ∈ ws, w.length ≤ 41 ∧ Asc w ∧ cs w ≤ 7
  few : ws.length ≤ cnt n
theorem cnt_ge : ∀ n, 1 ≤ cnt n
  | 0 => Nat.le_refl _
  | n + 1 => by
    unfold cnt
    omega
section
variable {P : Program} {w : World} {K : PySem.W.Frag} {mg : Str → Option Value} {base : Heap} {A : Nat → Addr} {fd : Nat → FuncData} {tk : Nat → Tok}
def spWords (K : PySem.W.Frag) (n : Nat) : Sp := fun vs H Q _ => ∃ v d, vs = [v] ∧ Th n d ∧ Dv K H v d ∧ ∀ p ws H', Ex H H' → H p = none → H' p = some (.lst (ws.map V.str)) → Ws n ws → Q (.ref p) H'
theorem ws_one {n : Nat} {x : Str} (h1 : x.length ≤ 41) (h2 : Asc x) (h3 : cs x ≤ 7) : Ws n [x] := ⟨fun w hw => (by
    rw [List.mem_singleton] at hw
    subst hw
    exact ⟨h1, h2, h3⟩), cnt_ge n⟩
theorem asc_int (i : Int) : Asc (Str.ofString (toString i)) := by
  have key : ∀ m : Nat, ∀ c ∈ TL.tl (Str.ofString (toString ((m : Nat) : Int))), c < 128 := fun m c hc => by
    rw [TL.tl_num] at hc
    have := TL.numL_digits m c hc
    omega
  cases i with
  | ofNat m => exact key m
  | negSucc m =>
    have e : toString (Int.negSucc m) = "-" ++ toString (((m + 1 : Nat)) : Int) := rfl
    intro c hc
    rw [e, TL.tl_ofString, String.toList_append, List.map_append] at hc
    rcases List.mem_append.mp hc with hc | hc
    · have : c ∈ [45] := hc
      rw [List.mem_singleton] at this
      omega
    · rw [← TL.tl_ofString] at hc
      exact key _ c hc
theorem cs_int (i : Int) : cs (Str.ofString (toString i)) = 0 := by
  have key : ∀ m : Nat, cs (Str.ofString (toString ((m : Nat) : Int))) = 0 := fun m => by
    unfold cs
    rw [TL.tl_num]
    exact List.count_eq_zero.mpr (TL.numL_free (.inl (by decide)))
  cases i with
  | ofNat m => exact key m
  | negSucc m =>
    have e : toString (Int.negSucc m) = "-" ++ toString (((m + 1 : Nat)) : Int) := rfl
    have k := key (m + 1)
    unfold cs at k ⊢
    rw [TL.tl_ofString] at k
    rw [e, TL.tl_ofString, String.toList_append, List.map_append, List.count_append, k]
    rfl
def isI : V → Bool
  | .int _ => true
  | _ => false
/-- what is no tuple -/
theorem th_leaf {n : Nat} {d : PyData} {v : V} {H : Hp} (th : Th n d) (dv : Dv K H v d) (nt : ∀ ds, d ≠ .tuple ds) : ∃ z, StrOf v z ∧ z.length ≤ 41 ∧ Asc z ∧ cs z ≤ 6 ∧ (z.length ≤ 40 ∨ ∃ i, v = .int i) ∧ ∃ t, TyX K H v t ∧ PySem.W.kitOne K t (.type "tuple") = some false ∧ PySem.W.kitOne K t (.type "int") = some (isI v) := by
  cases th with
  | non =>
    cases dv
    exact ⟨_, .inl ⟨rfl, rfl⟩, by decide +kernel, asc_of (by decide +kernel), by decide +kernel, .inl (by decide +kernel), _, .base .non, rfl, rfl⟩
  | str n h1 h2 =>
    cases dv
    exact ⟨_, .inr (.inl rfl), by omega, h2, Nat.le_trans (cs_len _) h1, .inl (by omega), _, .base (.str _), rfl, rfl⟩
  | int n h =>
    cases dv
    rename_i i
    have l := int_text_length_le10 (k := 40) (by decide) h
    have l2 : i.natAbs < 2 ^ 140 := Nat.lt_trans h (by decide +kernel)
    refine ⟨_, .inr (.inr ⟨i, rfl, ?_, rfl⟩), by rw [PySem.ofString_length]; omega, asc_int i, by rw [cs_int]; decide, .inr ⟨i, rfl⟩, _, .base (.int _), rfl, rfl⟩
    exact Nat.lt_trans (PySem.Flt.log2_lt_of (by decide) l2) (by decide)
  | tup h1 h2 => exact absurd rfl (nt _)
theorem ty_tup {H : Hp} {a : Addr} {xs : List V} (h : SqT K H a xs) : TyX K H (.ref a) (.type "tuple") := by
  rcases h with (h | ⟨o, h⟩) | ⟨o, its, n, lk, cl, _⟩
  · exact .base (.tup h)
  · exact .fTuple h
  · exact .kTuple lk cl
theorem DvAll.get {H : Hp} : ∀ {vs : List V} {ds : List PyData} {i : Nat} {v : V}, DvAll K H vs ds → vs[i]? = some v → ∃ d ∈ ds, Dv K H v d
  | _, _, 0, _, .cons h t, e => by
    cases Option.some.inj e
    exact ⟨_, List.mem_cons_self .., h⟩
  | _, _, i + 1, _, .cons h t, e => by
    obtain ⟨d, hd, hv⟩ := DvAll.get (i := i) t (by simpa using e)
    exact ⟨d, List.mem_cons_of_mem _ hd, hv⟩
def spWordsPrev (K : PySem.W.Frag) : Nat → Sp
  | 0 => never
  | n + 1 => spWords K n
theorem words_step (T : Txt K mg A fd tk) (n : Nat) (hn : n ≤ 5) (GW : FnOk P w K mg base CX0 n (A 19) (fd 19) ["_law_thing_here"] (spWordsPrev K n)) : FnOk P w K mg base CX0 (n + 1) (A 19) (fd 19) ["_law_thing_here"] (spWords K n) := by
  refine T.F__law_words_of.ok sc__law_words_of (fun vs H Q E h => ?_) (fun cdv A' outer s H vs Q E hr h => ?_)
  · obtain ⟨v, d, rfl, _⟩ := h
    rfl
  · obtain ⟨v, d, rfl, th, dv, q⟩ := h
    refine ⟨_, pss_cons (ps_if (pt_val (pe_callB call_isi (by rfl) T.m_isinstance (by decide +kernel) (pa_cons (pv 0) (pa_cons (pe_bltn (v := .ty "tuple") (by rfl) T.m_tuple (by decide +kernel) rfl) pa_nil))))
        (pss_cons (ps_set (i := 1) sc__law_words_of.nd rfl (.inl rfl) (pe_lst (pa_cons pe_str pa_nil)))
        (pss_cons (ps_for PassesOwn.never rfl (pi_tup (pv 0)) (pg_name (i := 2) sc__law_words_of.nd rfl (.inl rfl)) (pss_one (ps_set (i := 1) sc__law_words_of.nd rfl (.inl rfl) (pe_op op_cat (pv 1) (pe_call GW hr (by rfl) T.g__law_words_of T.F__law_words_of.kp T.b__law_words_of .nil pass0 (pa_cons (pv 2) pa_nil))))))
        (pss_one (ps_ret (pe_op op_cat (pv 1) (pe_lst (pa_cons pe_str pa_nil))))))) pss_nil)
      (pss_one (ps_ret (pe_lst (pa_cons (pe_ix ix_list (pe_lst (pa_cons pe_str (pa_cons (pe_op op_add_str pe_str (pe_callTy call_strA (by rfl) T.m_str (by decide +kernel) (pa_cons (pv 0) pa_nil))) (pa_cons (pe_callTy call_strA (by rfl) T.m_str (by decide +kernel) (pa_cons (pv 0) pa_nil)) pa_nil))))
        (pe_op op_add (pe_callTy call_int1 (by rfl) T.m_int (by decide +kernel) (pa_cons (pe_cmpR op_notN (pv 0) pe_non (nomark _)) pa_nil)) (pe_callTy call_int1 (by rfl) T.m_int (by decide +kernel) (pa_cons (pe_callB call_isi (by rfl) T.m_isinstance (by decide +kernel) (pa_cons (pv 0) (pa_cons (pe_bltn (v := .ty "int") (by rfl) T.m_int (by decide +kernel) rfl) pa_nil))) pa_nil))) (fun _ _ => rfl)) pa_nil)))), ?_⟩
    by_cases ht : ∃ ds, d = .tuple ds
    · obtain ⟨ds, rfl⟩ := ht
      cases dv with
      | @tup a xs _ sq da =>
        cases th with
        | @tup m _ hl hds =>
          refine s_if (b := true) (et_B (ev_cb (ea_cons (ev_var rfl) (ea_cons ev_c ea_nil)) fun H1 e1 Q k => ⟨_, _, .type "tuple", _, true, rfl, .ty "tuple", ty_tup (ex_t e1 sq), rfl, k H1 (Ex.refl _)⟩)) (fun _ H1 e1 => ?_) fun z => absurd z (by decide)
          refine s_asgL (xs := [.str (Str.ofString "(")]) (el_lst (ea_cons ev_c ea_nil) (by show 1 ≤ 100000; decide)) fun p H2 np e2 hp => ?_
          ((try refine s_next ?_); (try dsimp only); (try refine s_seq ?_))
          have sq2 := ex_t (e1.trans e2) sq
          have hcm : cnt (m + 1) = 2 + 4 * cnt m := rfl
          have hlx : xs.length ≤ 4 := by rw [da.len]; exact hl
          have hc5 : ∀ k, k ≤ 4 → cnt k ≤ 500 := by decide
          have hcm2 : cnt m ≤ 500 := hc5 m (by omega)
          refine s_forT (a := a) (xs := xs) (ev_var rfl) sq2 (fun i σ' H' => ∃ (p : Addr) (ws : List Str) (v2 : Option V), σ' = [some (.ref a), some (.ref p), v2] ∧ H' p = some (.lst (ws.map V.str)) ∧ ws.length ≤ 1 + i * cnt m ∧ (∀ w ∈ ws, w.length ≤ 41 ∧ Asc w ∧ cs w ≤ 7) ∧ Ex H2 H')
            (fun H3 e3 => ⟨p, [Str.ofString "("], none, rfl, e3 _ _ hp, by simp, fun w hw => ?_, e3⟩) (fun i σ' H' _ ⟨p, ws, v2, _, _, _, _, e⟩ => ex_t e sq2) (fun i x σ' H' hx ⟨p, ws, v2, es, h1, h2, h3, e⟩ => ?_) fun σ' H' ⟨p, ws, v2, es, h1, h2, h3, e⟩ => ?_
          · rw [List.mem_singleton] at hw
            subst hw
            exact ⟨by decide +kernel, asc_of (by decide +kernel), by decide +kernel⟩
          · subst es
            obtain ⟨d, hd, hv⟩ := DvAll.get da hx
            have hi : i < xs.length := (List.getElem?_eq_some_iff.mp hx).1
            have hi2 : i * cnt m ≤ 4 * cnt m := Nat.mul_le_mul_right _ (by omega)
            have hi3 : (i + 1) * cnt m = i * cnt m + cnt m := Nat.succ_mul _ _
            refine ⟨_, rfl, _, rfl, x, d, rfl, hds d hd, hv.on (tk_ex ((e1.trans e2).trans e)), fun p2 ws2 H4 e4 _ h4 W => ⟨p, p2, _, _, rfl, rfl, e4 _ _ h1, h4, ?_, fun l nl => ⟨l, ws ++ ws2, _, rfl, ?_, ?_, fun w hw => ?_, (e.trans e4).trans (Ex.new nl)⟩⟩⟩
            · have := W.few
              rw [List.length_map, List.length_map]
              exact Nat.le_trans (show ws.length + ws2.length ≤ 100000 by omega) (by decide)
            · rw [upd_same, List.map_append]
            · have := W.few
              rw [List.length_append]
              omega
            · rcases List.mem_append.mp hw with hw | hw
              · exact h3 w hw
              · exact W.each w hw
          · subst es
            have hi2 : xs.length * cnt m ≤ 4 * cnt m := Nat.mul_le_mul_right _ hlx
            ((try refine s_next ?_); (try dsimp only); (try refine s_seq ?_))
            refine s_retL (xs := (ws ++ [Str.ofString ")"]).map V.str) (by
              rw [List.map_append]
              refine el_cat (ev_var rfl) h1 (el_lst (vs := [.str (Str.ofString ")")]) (ea_cons ev_c ea_nil) (by show 1 ≤ 100000; decide)) ?_
              rw [List.length_map]
              show ws.length + 1 ≤ 100000
              omega) fun l H4 nl e4 h4 => q l (ws ++ [Str.ofString ")"]) H4 (((e1.trans e2).trans e).trans e4) (fresh_back ((e1.trans e2).trans e) nl) h4 ⟨fun w hw => ?_, ?_⟩
            · rcases List.mem_append.mp hw with hw | hw
              · exact h3 w hw
              · rw [List.mem_singleton] at hw
                subst hw
                exact ⟨by decide +kernel, asc_of (by decide +kernel), by decide +kernel⟩
            · rw [List.length_append, hcm]
              show ws.length + 1 ≤ _
              omega
    · have nt : ∀ ds, d ≠ .tuple ds := fun ds e => ht ⟨ds, e⟩
      obtain ⟨z, hz, hzl, hza, hzc, hz40, t, ty, k1, k2⟩ := th_leaf th dv nt
      refine s_if (b := false) (et_B (ev_cb (ea_cons (ev_var rfl) (ea_cons ev_c ea_nil)) fun H1 e1 Q k => ⟨_, _, t, _, false, rfl, .ty "tuple", ty_ex ty e1, k1, k H1 (Ex.refl _)⟩)) (fun z => absurd z (by decide)) fun _ H1 e1 => ?_
      ((try refine s_next ?_); (try dsimp only); (try refine s_seq ?_))
      have lq : (Str.ofString "'" ++ z).length = 1 + z.length := by
        rw [PySem.Str.length_append]
        rfl
      have aq : Asc (Str.ofString "'" ++ z) := fun c hc => by
        rw [TL.tl_append] at hc
        rcases List.mem_append.mp hc with hc | hc
        · exact asc_of (x := Str.ofString "'") (by decide +kernel) c hc
        · exact hza c hc
      have cq : cs (Str.ofString "'" ++ z) ≤ 7 := by
        unfold cs at hzc ⊢
        rw [TL.tl_append, List.count_append]
        have : (TL.tl (Str.ofString "'")).count 32 = 0 := by decide +kernel
        omega
      obtain ⟨k, x, hk, hx, hxl, hxa, hxc⟩ : ∃ (k : Nat) (x : Str), (if (!decide (v = .non)) = true then (1 : Int) else 0) + (if isI v = true then 1 else 0) = k ∧ [V.str (Str.ofString "none"), .str (Str.ofString "'" ++ z), .str z][k]? = some (.str x) ∧ x.length ≤ 41 ∧ Asc x ∧ cs x ≤ 7 := by
        rcases hz with ⟨rfl, rfl⟩ | rfl | ⟨i, rfl, _⟩
        · exact ⟨0, _, rfl, rfl, by decide +kernel, asc_of (by decide +kernel), by decide +kernel⟩
        · refine ⟨1, _, rfl, rfl, ?_, aq, cq⟩
          rcases hz40 with h | ⟨i, h⟩
          · omega
          · cases h
        · exact ⟨2, _, rfl, rfl, hzl, hza, by omega⟩
      refine s_retL (xs := [.str x]) (el_lst (ea_cons (ev_opL1 (el_lst (vs := [.str (Str.ofString "none"), .str (Str.ofString "'" ++ z), .str z]) (ea_cons ev_c (ea_cons (ev_op ev_c (ev_cb (ea_cons (ev_var rfl) ea_nil) fun H3 _ Q k => ⟨v, z, rfl, hz, k H3 (Ex.refl _)⟩) fun H3 _ Q k => ⟨_, _, rfl, rfl, ?_, k H3 (Ex.refl _)⟩)
        (ea_cons (ev_cb (ea_cons (ev_var rfl) ea_nil) fun H3 _ Q k => ⟨v, z, rfl, hz, k H3 (Ex.refl _)⟩) ea_nil))) (by show 3 ≤ 100000; decide)) (fun H2 e2 => ev_is (w := .int k) (ev_op (ev_cb (ea_cons (ev_op (ev_var rfl) ev_c fun H3 _ Q k => ⟨rfl, k H3 (Ex.refl _)⟩) ea_nil) fun H3 _ Q k => .inr ⟨_, rfl, k H3 (Ex.refl _)⟩)
        (ev_cb (ea_cons (ev_cb (ea_cons (ev_var rfl) (ea_cons ev_c ea_nil)) fun H3 e3 Q k => ⟨_, _, t, _, _, rfl, .ty "int", ty_ex ty ((e1.trans e2).trans e3), k2, k H3 (Ex.refl _)⟩) ea_nil) fun H3 _ Q k => .inr ⟨_, rfl, k H3 (Ex.refl _)⟩) rv_I0) (congrArg V.int hk)) fun p H2 hp e2 => rv_ixL (sq_of hp) (atI_nat hx)) ea_nil) (by show 1 ≤ 100000; decide)) fun p H2 np e2 hp => q p [x] H2 (e1.trans e2) (fresh_back e1 np) hp (ws_one hxl hxa hxc)
      have : (Str.ofString "'").length = 1 := by decide +kernel
      rw [this]
      exact Nat.le_trans (show 1 + z.length ≤ 100 by omega) (by decide)
theorem ok_law_words_of (T : Txt K mg A fd tk) : ∀ n : Nat, n ≤ 5 → FnOk P w K mg base CX0 (n + 1) (A 19) (fd 19) ["_law_thing_here"] (spWords K n)
  | 0, _ => words_step T 0 (by decide) ok_never
  | n + 1, h => words_step T (n + 1) h (ok_law_words_of T n (by omega))
end
end Kk

/-! ## D11 -/
set_option Elab.async false
set_option linter.all false
set_option maxRecDepth 100000
/-! the mathematics of bent lines -/
namespace Rd
open PySem PySem.Spec PyProof.Rows L2 TL
theorem pre_is {c : Nat} {r : List Nat} : pre [32] (c :: r) = (c == 32) := by
  unfold pre
  show ([c] == [32]) = (c == 32)
  simp
theorem spl_count : ∀ (l acc : List Nat), (spl [32] 0 acc l).length = l.count 32 + 1
  | [], acc => by simp [spl_nil]
  | c :: r, acc => by
    by_cases h : c = 32
    · subst h
      rw [spl_hit (by rw [pre_is]; rfl)]
      show ([acc] ++ spl [32] 0 [] r).length = _
      rw [List.length_append, spl_count r, List.count_cons_self]
      simp only [List.length_singleton]
      omega
    · rw [spl_miss (by rw [pre_is]; simpa using h), spl_count r, List.count_cons_of_ne (by simpa using h)]
theorem spl_free : ∀ (l acc : List Nat), acc.count 32 = 0 → ∀ p ∈ spl [32] 0 acc l, p.count 32 = 0
  | [], acc, h, p, hp => by
    rw [spl_nil, List.mem_singleton] at hp
    subst hp
    exact h
  | c :: r, acc, h, p, hp => by
    by_cases hc : c = 32
    · subst hc
      rw [spl_hit (by rw [pre_is]; rfl)] at hp
      rcases List.mem_cons.mp hp with e | hp
      · subst e
        exact h
      · exact spl_free r [] rfl p hp
    · rw [spl_miss (by rw [pre_is]; simpa using hc)] at hp
      exact spl_free r _ (by rw [List.count_append, h, List.count_cons_of_ne (by simpa using hc)]; rfl) p hp
theorem words_count (x : Str) : (words x).length = cs x + 1 := by
  have h := congrArg List.length (words_tl x)
  rw [List.length_map, spl_count] at h
  exact h
theorem words_free {x w : Str} (h : w ∈ words x) : cs w = 0 :=
  spl_free (tl x) [] rfl (tl w) (by rw [← words_tl]; exact List.mem_map_of_mem h)
def csum (ws : List Str) : Nat := (ws.map cs).sum
theorem wsum_app (a b : List Str) : wsum (a ++ b) = wsum a + wsum b := by simp [wsum]
theorem csum_app (a b : List Str) : csum (a ++ b) = csum a + csum b := by simp [csum]
theorem wsum_rev (a : List Str) : wsum a.reverse = wsum a := by
  unfold wsum
  rw [List.map_reverse, List.sum_reverse]
theorem csum_rev (a : List Str) : csum a.reverse = csum a := by
  unfold csum
  rw [List.map_reverse, List.sum_reverse]
theorem csum_zero : ∀ {ws : List Str}, (∀ w ∈ ws, cs w = 0) → csum ws = 0
  | [], _ => rfl
  | w :: r, h => by
    have := csum_zero (ws := r) fun v hv => h v (List.mem_cons_of_mem _ hv)
    unfold csum at this ⊢
    rw [List.map_cons, List.sum_cons, this, h w (List.mem_cons_self ..)]
theorem joinL_len : ∀ ps : List Str, (joinL [32] (ps.map tl)).length ≤ wsum ps ∧ (joinL [32] (ps.map tl)).count 32 ≤ csum ps + ps.length ∧ ∀ c ∈ joinL [32] (ps.map tl), c = 32 ∨ ∃ w ∈ ps, c ∈ tl w
  | [] => ⟨Nat.le_refl _, Nat.le_refl _, fun c hc => by cases hc⟩
  | [p] => by
    refine ⟨?_, ?_, fun c hc => .inr ⟨p, List.mem_singleton.mpr rfl, hc⟩⟩
    · show (tl p).length ≤ _
      rw [← len_tl]
      simp [wsum]
    · show (tl p).count 32 ≤ _
      simp [csum, cs]
  | p :: z :: r => by
    obtain ⟨h1, h2, h3⟩ := joinL_len (z :: r)
    have e : joinL [32] ((p :: z :: r).map tl) = tl p ++ ([32] ++ joinL [32] ((z :: r).map tl)) := rfl
    have e1 : wsum (p :: z :: r) = (p.length + 1) + wsum (z :: r) := by simp [wsum]
    have e2 : csum (p :: z :: r) = cs p + csum (z :: r) := by simp [csum]
    rw [e]
    refine ⟨?_, ?_, fun c hc => ?_⟩
    · rw [List.length_append, List.length_append, ← len_tl, e1]
      simp only [List.length_singleton]
      omega
    · rw [List.count_append, List.count_append, e2]
      have e3 : ([32] : List Nat).count 32 = 1 := rfl
      have e4 : (tl p).count 32 = cs p := rfl
      have e5 : (p :: z :: r).length = (z :: r).length + 1 := rfl
      rw [e3, e4, e5]
      omega
    · rcases List.mem_append.mp hc with hc | hc
      · exact .inr ⟨p, List.mem_cons_self .., hc⟩
      · rcases List.mem_append.mp hc with hc | hc
        · exact .inl (List.mem_singleton.mp hc)
        · rcases h3 c hc with h | ⟨w, hw, h⟩
          · exact .inl h
          · exact .inr ⟨w, List.mem_cons_of_mem _ hw, h⟩
/-- a line of at most L signs, n spaces -/
structure Ln (L n : Nat) (x : Str) : Prop where
  len : x.length ≤ L
  asc : Asc x
  few : cs x ≤ n
theorem Ln.mono {L L' n n' : Nat} {x : Str} (h : Ln L n x) (a : L ≤ L') (b : n ≤ n') : Ln L' n' x := ⟨Nat.le_trans h.len a, h.asc, Nat.le_trans h.few b⟩
theorem join_ln {ws : List Str} {L n : Nat} (h1 : wsum ws ≤ L) (h2 : csum ws + ws.length ≤ n) (h3 : ∀ w ∈ ws, Asc w) : Ln L n (Txt.join sp ws) := by
  have e : tl (Txt.join sp ws) = joinL [32] (ws.map tl) := by rw [TL.join_eq, TL.tl_join]; rfl
  obtain ⟨a, b, c⟩ := joinL_len ws
  refine ⟨?_, fun z hz => ?_, ?_⟩
  · rw [len_tl, e]
    omega
  · rw [e] at hz
    rcases c z hz with h | ⟨w, hw, h⟩
    · omega
    · exact h3 w hw z h
  · unfold cs
    rw [e]
    omega
/-- a row of words: what the law joins -/
structure Row (L n : Nat) (ws : List Str) : Prop where
  sum : wsum ws ≤ L
  few : csum ws + ws.length ≤ n
  asc : ∀ w ∈ ws, Asc w
theorem Row.ln {L n : Nat} {ws : List Str} (r : Row L n ws) : Ln L n (Txt.join sp ws) := join_ln r.sum r.few r.asc
section
variable {x : Str} {L n a : Nat}
theorem words_asc (h : Ln L n x) : ∀ w ∈ words x, Asc w := fun w hw => words_mem h.asc w hw
theorem pieces (h : Ln L n x) (ps : List Str) (hp : ∀ w ∈ ps, w ∈ words x) : csum ps = 0 ∧ ∀ w ∈ ps, Asc w := ⟨csum_zero fun w hw => words_free (hp w hw), fun w hw => words_asc h w (hp w hw)⟩
theorem take_drop (ws : List Str) (a : Nat) : wsum (ws.take a) + wsum (ws.drop a) = wsum ws := by rw [← wsum_app, List.take_append_drop]
theorem drop_up (ws : List Str) (a b : Nat) : wsum (ws.drop (a + b)) ≤ wsum (ws.drop a) := by
  have := take_drop (ws.drop a) b
  rw [List.drop_drop] at this
  omega
theorem row_left (h : Ln L n x) : Row (2 * L + 70) (n + 3) ((words x).take a ++ (words x).drop (a + 1)) := by
  have l := h.len
  have f := h.few
  have s := words_sum x
  have c := words_count x
  have t := take_drop (words x) a
  have u := drop_up (words x) a 1
  obtain ⟨p1, p2⟩ := pieces h ((words x).take a ++ (words x).drop (a + 1)) fun w hw => (List.mem_append.mp hw).elim List.mem_of_mem_take List.mem_of_mem_drop
  refine ⟨?_, ?_, p2⟩
  · rw [wsum_app]
    omega
  · rw [p1, List.length_append, List.length_take, List.length_drop]
    omega
theorem row_twice (h : Ln L n x) : Row (2 * L + 70) (n + 3) ((words x).take (a + 1) ++ (words x).drop a) := by
  have l := h.len
  have f := h.few
  have s := words_sum x
  have c := words_count x
  have t := take_drop (words x) a
  have t2 := take_drop (words x) (a + 1)
  obtain ⟨p1, p2⟩ := pieces h ((words x).take (a + 1) ++ (words x).drop a) fun w hw => (List.mem_append.mp hw).elim List.mem_of_mem_take List.mem_of_mem_drop
  refine ⟨?_, ?_, p2⟩
  · rw [wsum_app]
    omega
  · rw [p1, List.length_append, List.length_take, List.length_drop]
    omega
theorem row_swap (h : Ln L n x) : Row (2 * L + 70) (n + 3) ((words x).take a ++ (((words x).drop a).take 2).reverse ++ (words x).drop (a + 2)) := by
  have l := h.len
  have f := h.few
  have s := words_sum x
  have c := words_count x
  have t := take_drop (words x) a
  have t2 := take_drop ((words x).drop a) 2
  rw [List.drop_drop] at t2
  obtain ⟨p1, p2⟩ := pieces h ((words x).take a ++ (((words x).drop a).take 2).reverse ++ (words x).drop (a + 2)) fun w hw => by
    rcases List.mem_append.mp hw with hw | hw
    · rcases List.mem_append.mp hw with hw | hw
      · exact List.mem_of_mem_take hw
      · exact List.mem_of_mem_drop (List.mem_of_mem_take (List.mem_reverse.mp hw))
    · exact List.mem_of_mem_drop hw
  refine ⟨?_, ?_, p2⟩
  · rw [wsum_app, wsum_app, wsum_rev]
    omega
  · rw [p1]
    simp only [List.length_append, List.length_take, List.length_drop, List.length_reverse]
    omega
/-- a word put in -/
structure New (w : Str) : Prop where
  len : w.length ≤ 60
  asc : Asc w
  few : cs w ≤ 1
theorem row_new {k : Nat} (h : Ln L n x) {w : Str} (hw : New w) (hk : k ≤ 1) : Row (2 * L + 70) (n + 3) ((words x).take a ++ [w] ++ (words x).drop (a + k)) := by
  have l := h.len
  have f := h.few
  have s := words_sum x
  have c := words_count x
  have t := take_drop (words x) a
  have u := drop_up (words x) a k
  have wl := hw.len
  have wf := hw.few
  have e1 : wsum [w] = w.length + 1 := by simp [wsum]
  have e2 : csum [w] = cs w := by simp [csum]
  obtain ⟨p1, p2⟩ := pieces h ((words x).take a) fun w hw => List.mem_of_mem_take hw
  obtain ⟨p3, p4⟩ := pieces h ((words x).drop (a + k)) fun w hw => List.mem_of_mem_drop hw
  refine ⟨?_, ?_, fun v hv => ?_⟩
  · rw [wsum_app, wsum_app, e1]
    omega
  · rw [csum_app, csum_app, p1, p3, e2]
    simp only [List.length_append, List.length_take, List.length_drop, List.length_singleton]
    omega
  · rcases List.mem_append.mp hv with hv | hv
    · rcases List.mem_append.mp hv with hv | hv
      · exact p2 v hv
      · rw [List.mem_singleton] at hv
        subst hv
        exact hw.asc
    · exact p4 v hv
/-- signs put in, left out -/
theorem ln_signs (h : Ln L n x) {y : Str} {m : Nat} {z : List Nat} (hz : z.length ≤ 1) (hza : ∀ c ∈ z, c < 128) (e : tl y = (tl x).take a ++ z ++ (tl x).drop m) : a ≤ m → Ln (2 * L + 70) (n + 3) y := fun hm => by
  have l := h.len
  have f := h.few
  rw [len_tl] at l
  unfold cs at f
  have e1 : (tl x).count 32 = ((tl x).take a).count 32 + ((tl x).drop a).count 32 := by rw [← List.count_append, List.take_append_drop]
  have e2 : ((tl x).drop m).count 32 ≤ ((tl x).drop a).count 32 := by
    have : (tl x).drop m = ((tl x).drop a).drop (m - a) := by
      rw [List.drop_drop]
      congr 1
      omega
    rw [this]
    exact (List.drop_sublist _ _).count_le _
  have e3 : z.count 32 ≤ 1 := Nat.le_trans List.count_le_length hz
  refine ⟨?_, fun c hc => ?_, ?_⟩
  · rw [len_tl, e]
    simp only [List.length_append, List.length_take, List.length_drop]
    omega
  · rw [e] at hc
    rcases List.mem_append.mp hc with hc | hc
    · rcases List.mem_append.mp hc with hc | hc
      · exact h.asc c (List.mem_of_mem_take hc)
      · exact hza c hc
    · exact h.asc c (List.mem_of_mem_drop hc)
  · unfold cs
    rw [e, List.count_append, List.count_append]
    omega
end
end Rd

/-! ## D12 -/
set_option Elab.async false
set_option linter.all false
set_option maxRecDepth 100000
namespace Evl
open PySem L2
section
variable {K : PySem.W.Frag} {σ : L2.St} {H : Hp} {D : Ends} {te tk tj : TE} {W : Addr} {ws : List Str} {a k j : Nat}
theorem el_is {xs ys : List V} (h : EvL te σ H xs) (e : xs = ys) : EvL te σ H ys := e ▸ h
theorem cut_from (xs : List V) (k : Nat) : cutV xs (some (k : Int)) none = xs.drop k := by
  unfold cutV
  rw [HT.sIx_nat, HT.sIx_none]
  by_cases h : k ≤ xs.length
  · rw [Nat.min_eq_left h]
    exact List.take_of_length_le (by rw [List.length_drop]; omega)
  · rw [Nat.min_eq_right (by omega), List.drop_eq_nil_of_le (Nat.le_refl _), List.drop_eq_nil_of_le (by omega)]
    exact List.take_nil
theorem cut_mid (xs : List V) (k j : Nat) : cutV xs (some (k : Int)) (some ((k + j : Nat) : Int)) = (xs.drop k).take j := by
  unfold cutV
  rw [HT.sIx_nat, HT.sIx_nat]
  by_cases h : k ≤ xs.length
  · rw [Nat.min_eq_left h]
    by_cases h2 : k + j ≤ xs.length
    · rw [Nat.min_eq_left h2, Nat.add_sub_cancel_left]
    · rw [Nat.min_eq_right (by omega), List.take_of_length_le (by rw [List.length_drop]; omega), List.take_of_length_le (by rw [List.length_drop]; omega)]
  · rw [Nat.min_eq_right (show xs.length ≤ k by omega), Nat.min_eq_right (show xs.length ≤ k + j by omega), List.drop_eq_nil_of_le (Nat.le_refl _), List.drop_eq_nil_of_le (show xs.length ≤ k by omega), List.take_nil, List.take_nil]
theorem el_to (h : Ev te σ H (.ref W)) (hk : Ev tk σ H (.int (k : Nat))) (hW : H W = some (.lst (ws.map V.str))) : EvL (tSl (rSlL K) te tNoPart (tPart tk)) σ H ((ws.take k).map V.str) :=
  el_is (el_sl h eo_none (eo_some hk) (sq_of hW)) (by rw [cut_to, List.map_take])
theorem el_from (h : Ev te σ H (.ref W)) (hk : Ev tk σ H (.int (k : Nat))) (hW : H W = some (.lst (ws.map V.str))) : EvL (tSl (rSlL K) te (tPart tk) tNoPart) σ H ((ws.drop k).map V.str) :=
  el_is (el_sl h (eo_some hk) eo_none (sq_of hW)) (by rw [cut_from, List.map_drop])
theorem el_mid (h : Ev te σ H (.ref W)) (hk : Ev tk σ H (.int (k : Nat))) (hj : Ev tj σ H (.int ((k + j : Nat) : Int))) (hW : H W = some (.lst (ws.map V.str))) : EvL (tSl (rSlL K) te (tPart tk) (tPart tj)) σ H (((ws.drop k).take j).map V.str) :=
  el_is (el_sl h (eo_some hk) (eo_some hj) (sq_of hW)) (by rw [cut_mid, List.map_take, List.map_drop])
theorem el_catLV {ta tb : TE} {p : Addr} {xs ys : List V} (ha : EvL ta σ H xs) (hb : Ev tb σ H (.ref p)) (hp : H p = some (.lst ys)) (hl : xs.length + ys.length ≤ 100000) : EvL (tOp rCat ta tb) σ H (xs ++ ys) := fun H1 e Q q =>
  ha H1 e _ fun p1 H2 n e2 h1 => hb H2 (e.trans e2) _ fun H3 e3 => ⟨p1, p, xs, ys, rfl, rfl, e3 _ _ h1, ((e.trans e2).trans e3) _ _ hp, Nat.le_trans hl (by decide), fun l nl => q l _ (fresh_back (e2.trans e3) nl) ((e2.trans e3).trans (Ex.new nl)) upd_same⟩
theorem rv_adds {u v : Str} (h : u.length + v.length ≤ 100000) : RV (fun x y H Q => ∃ i j, x = .str i ∧ y = .str j ∧ i.length + j.length ≤ sizeLine ∧ Q (.str (i ++ j)) H) (.str u) (.str v) H (.str (u ++ v)) := fun H1 _ Q k => ⟨u, v, rfl, rfl, Nat.le_trans h (by decide), k H1 (Ex.refl _)⟩
theorem el_rev {xs : List V} (h : EvL te σ H xs) : EvL (tRevL K te) σ H xs.reverse := fun H1 e Q q =>
  h H1 e _ fun p H2 np e2 hp => ⟨p, xs, rfl, sq_of hp, fun l nl => q l _ (fresh_back e2 nl) (e2.trans (Ex.new nl)) upd_same⟩
theorem s_lst3 {i : Nat} {ta tb tc : TE} {xs ys zs : List V} (h1 : EvL ta σ H xs) (h2 : EvL tb σ H ys) (h3 : EvL tc σ H zs)
    (k : ∀ p1 p2 p3 l H1, Ex H H1 → H1 p1 = some (.lst xs) → H1 p2 = some (.lst ys) → H1 p3 = some (.lst zs) → H1 l = some (.lst [.ref p1, .ref p2, .ref p3]) → D.nx (σ.set i (some (.ref l))) H1) :
    tAsg (tLst (tCons ta (tCons tb (tCons tc tNil)))) (gName i) D σ H :=
  h1 H (Ex.refl H) _ fun p1 H1 n1 e1 g1 => h2 H1 e1 _ fun p2 H2 n2 e2 g2 => h3 H2 (e1.trans e2) _ fun p3 H3 n3 e3 g3 => ⟨by show 3 ≤ sizeLine; decide, fun l nl =>
    k p1 p2 p3 l _ (((e1.trans e2).trans e3).trans (Ex.new nl)) (((e2.trans e3).trans (Ex.new nl)) _ _ g1) ((e3.trans (Ex.new nl)) _ _ g2) ((Ex.new nl) _ _ g3) upd_same⟩
theorem s_cat2 {i : Nat} {tv ta tb : TE} {l0 : Addr} {rs xs ys : List V} (hv : Ev tv σ H (.ref l0)) (hl : H l0 = some (.lst rs)) (hn : rs.length ≤ 1000) (h1 : EvL ta σ H xs) (h2 : EvL tb σ H ys)
    (k : ∀ p1 p2 l H1, Ex H H1 → H1 p1 = some (.lst xs) → H1 p2 = some (.lst ys) → H1 l = some (.lst (rs ++ [.ref p1, .ref p2])) → D.nx (σ.set i (some (.ref l))) H1) :
    tAsg (tOp rCat tv (tLst (tCons ta (tCons tb tNil)))) (gName i) D σ H :=
  hv H (Ex.refl H) _ fun H0 e0 => h1 H0 e0 _ fun p1 H1 n1 e1 g1 => h2 H1 (e0.trans e1) _ fun p2 H2 n2 e2 g2 => ⟨by show 2 ≤ sizeLine; decide, fun l nl =>
    ⟨l0, l, rs, [.ref p1, .ref p2], rfl, rfl, (((e0.trans e1).trans e2).trans (Ex.new nl)) _ _ hl, upd_same, Nat.le_trans (show rs.length + 2 ≤ 1002 by omega) (by decide), fun q nq =>
      k p1 p2 q _ ((((e0.trans e1).trans e2).trans (Ex.new nl)).trans (Ex.new nq)) (((e2.trans (Ex.new nl)).trans (Ex.new nq)) _ _ g1) (((Ex.new nl).trans (Ex.new nq)) _ _ g2) upd_same⟩⟩
theorem ev_up {i : Nat} {c : Nat} (h : σ[i]? = some (some (.int (a : Nat)))) : Ev (tOp (rI0 fun i j => .int (i + j)) (tVar i) (tC (.int (c : Nat)))) σ H (.int ((a + c : Nat) : Int)) := ev_is (ev_op (ev_var h) ev_c rv_I0) rfl
end
end Evl
namespace Kk
open PySem PySem.Spec PyProof.Rows L2 Evl Rd
section
variable {P : Program} {w : World} {K : PySem.W.Frag} {mg : Str → Option Value} {base : Heap} {A : Nat → Addr} {fd : Nat → FuncData} {tk : Nat → Tok}
def NewV (v : V) : Prop := ∃ w, v = .str w ∧ New w
theorem new_ok (x : Str) (h : (decide (x.length ≤ 60) && (TL.tl x).all (fun c => decide (c < 128)) && decide (cs x ≤ 1)) = true) : NewV (.str x) := by
  rw [Bool.and_eq_true, Bool.and_eq_true] at h
  exact ⟨x, rfl, of_decide_eq_true h.1.1, asc_of h.1.2, of_decide_eq_true h.2⟩
def some1 : List V := [.str (Str.ofString "("), .str (Str.ofString ")"), .str (Str.ofString "none"), .str (Str.ofString "None"), .str (Str.ofString "'"), .str (Str.ofString "''"), .str (Str.ofString "'a"), .str (Str.ofString "a"), .str (Str.ofString "0"), .str (Str.ofString "00"), .str (Str.ofString "-0"), .str (Str.ofString "-"), .str (Str.ofString "-1"), .str (Str.ofString "+1"), .str (Str.ofString "1_0"), .str (Str.ofString "1.0"), .str (Str.ofString ""), .str (Str.ofString "'\n")]
def some2 : List V := [.str (Str.ofString "()"), .str (Str.ofString "( )"), .str (Str.ofString "12"), .str (Str.ofString "-12a"), .str (Str.ofString "'none"), .str (Str.ofString "nonet"), .str (repS (Str.ofString "1") 60), .str (Str.ofString "(("), .str (Str.ofString "'("), .str (Str.ofString "\n"), .str (Str.ofString "none)"), .str (Str.ofString "0x1"), .str (Str.ofString "7"), .str (Str.ofString "'b'")]
theorem some_ok : ∀ v ∈ some1 ++ some2, NewV v := fun v hv => by
  simp only [some1, some2, List.cons_append, List.nil_append, List.mem_cons, List.not_mem_nil, or_false] at hv
  rcases hv with rfl | rfl | rfl | rfl | rfl | rfl | rfl | rfl | rfl | rfl | rfl | rfl | rfl | rfl | rfl | rfl | rfl | rfl | rfl | rfl | rfl | rfl | rfl | rfl | rfl | rfl | rfl | rfl | rfl | rfl | rfl | rfl <;> exact new_ok _ (by decide +kernel)
theorem back2 {D C a : Addr} {H H1 : Hp} {o : HO} (x : Ex2 D C H H1) (n : a ≠ D ∧ a ≠ C) (h : H a = some o) : H1 a = some o := x a o n.1 n.2 h
def spBent (b : Nat) : Sp := fun vs H Q _ => ∃ (D C : Addr) (t way L n : Nat) (x : Str), vs = [.ref D, .str x, .int way] ∧ t ≤ 900000 ∧ way < 8 ∧ L ≤ 20000 ∧ Ln L n x ∧ Deck b H D C t ∧ ∀ y H', Ln (2 * L + 70) (n + 3) y → Ex2 D C H H' → Deck b H' D C (t + 4) → Q (.str y) H'
set_option maxHeartbeats 4000000 in
theorem ok_law_bent (T : Txt K mg A fd tk) {b : Nat} (hb : b ≤ 2000000) : FnOk P w K mg base CX0 2 (A 24) (fd 24) ["_law_deck_here", "_law_line", "_law_way"] (spBent b) := by
  have GD := ok_law_draw (P := P) (w := w) (base := base) T hb
  refine T.F__law_bent.ok sc__law_bent (fun vs H Q E h => ?_) (fun cdv A' outer s H vs Q E hr h => ?_)
  · obtain ⟨D, C, t, way, L, n, x, rfl, _⟩ := h
    rfl
  · obtain ⟨D, C, t, way, L, n, x, rfl, ht, hway, hL, ln, dk, q⟩ := h
    refine ⟨_, pss_cons (ps_par (i := 3) (j := 4) rfl sc__law_bent.nd rfl rfl (by decide) rfl rfl (pa_cons (pe_split (pv 1) pe_str) (pa_cons (pe_call GD hr (by rfl) T.g__law_draw T.F__law_draw.kp T.b__law_draw .nil pass0 (pa_cons (pv 0) (pa_cons (pe_op op_add (pe_callB call_len_str (by rfl) T.m_len PySem.boot_len (pa_cons (pv 1) pa_nil)) pe_int) pa_nil))) pa_nil)) (by rfl))
      (pss_cons (ps_set (i := 5) sc__law_bent.nd rfl (.inl rfl) (pe_call GD hr (by rfl) T.g__law_draw T.F__law_draw.kp T.b__law_draw .nil pass0 (pa_cons (pv 0) (pa_cons (pe_callB call_len_seq (by rfl) T.m_len PySem.boot_len (pa_cons (pv 3) pa_nil)) pa_nil))))
      (pss_cons (ps_set (i := 6) sc__law_bent.nd rfl (.inl rfl) (pe_lst (pa_cons pe_str (pa_cons pe_str (pa_cons pe_str (pa_cons pe_str (pa_cons pe_str (pa_cons pe_str (pa_cons pe_str (pa_cons pe_str (pa_cons pe_str (pa_cons pe_str (pa_cons pe_str (pa_cons pe_str (pa_cons pe_str (pa_cons pe_str (pa_cons pe_str (pa_cons pe_str (pa_cons pe_str (pa_cons pe_str pa_nil))))))))))))))))))))
      (pss_cons (ps_set (i := 6) sc__law_bent.nd rfl (.inl rfl) (pe_op op_cat (pv 6) (pe_lst (pa_cons pe_str (pa_cons pe_str (pa_cons pe_str (pa_cons pe_str (pa_cons pe_str (pa_cons pe_str (pa_cons (pe_op op_mulS pe_str pe_int) (pa_cons pe_str (pa_cons pe_str (pa_cons pe_str (pa_cons pe_str (pa_cons pe_str (pa_cons pe_str (pa_cons pe_str pa_nil)))))))))))))))))
      (pss_cons (ps_par (i := 7) (j := 8) rfl sc__law_bent.nd rfl rfl (by decide) rfl rfl (pa_cons (pe_ix ix_list (pv 6) (pe_call GD hr (by rfl) T.g__law_draw T.F__law_draw.kp T.b__law_draw .nil pass0 (pa_cons (pv 0) (pa_cons pe_int pa_nil))) (fun _ _ => rfl)) (pa_cons (pe_ix ix_str pe_str (pe_call GD hr (by rfl) T.g__law_draw T.F__law_draw.kp T.b__law_draw .nil pass0 (pa_cons (pv 0) (pa_cons pe_int pa_nil))) (fun _ _ => rfl)) pa_nil)) (by rfl))
      (pss_cons (ps_set (i := 9) sc__law_bent.nd rfl (.inl rfl) (pe_revL (pe_slice sl_list (pv 3) (po_some (pv 5)) (po_some (pe_op op_add (pv 5) pe_int)))))
      (pss_cons (ps_set (i := 10) sc__law_bent.nd rfl (.inl rfl) (pe_lst (pa_cons (pe_op op_cat (pe_slice sl_list (pv 3) po_none (po_some (pv 5))) (pe_slice sl_list (pv 3) (po_some (pe_op op_add (pv 5) pe_int)) po_none))
        (pa_cons (pe_op op_cat (pe_slice sl_list (pv 3) po_none (po_some (pe_op op_add (pv 5) pe_int))) (pe_slice sl_list (pv 3) (po_some (pv 5)) po_none))
        (pa_cons (pe_op op_cat (pe_op op_cat (pe_slice sl_list (pv 3) po_none (po_some (pv 5))) (pv 9)) (pe_slice sl_list (pv 3) (po_some (pe_op op_add (pv 5) pe_int)) po_none)) pa_nil)))))
      (pss_cons (ps_set (i := 10) sc__law_bent.nd rfl (.inl rfl) (pe_op op_cat (pv 10) (pe_lst (pa_cons (pe_op op_cat (pe_op op_cat (pe_slice sl_list (pv 3) po_none (po_some (pv 5))) (pe_lst (pa_cons (pv 7) pa_nil))) (pe_slice sl_list (pv 3) (po_some (pv 5)) po_none))
        (pa_cons (pe_op op_cat (pe_op op_cat (pe_slice sl_list (pv 3) po_none (po_some (pv 5))) (pe_lst (pa_cons (pv 7) pa_nil))) (pe_slice sl_list (pv 3) (po_some (pe_op op_add (pv 5) pe_int)) po_none)) pa_nil)))))
      (pss_cons (ps_if (pt_cmpR op_lt (pv 2) pe_int (nomark _)) (pss_one (ps_ret (pe_join pe_str (pe_ix ix_list (pv 10) (pv 2) (fun _ _ => rfl))))) pss_nil)
      (pss_cons (ps_set (i := 11) sc__law_bent.nd rfl (.inl rfl) (pe_lst (pa_cons (pe_op op_add_str (pe_op op_add_str (pe_slice sl_str (pv 1) po_none (po_some (pv 4))) (pv 8)) (pe_slice sl_str (pv 1) (po_some (pv 4)) po_none))
        (pa_cons (pe_op op_add_str (pe_slice sl_str (pv 1) po_none (po_some (pv 4))) (pe_slice sl_str (pv 1) (po_some (pe_op op_add (pv 4) pe_int)) po_none)) pa_nil))))
      (pss_one (ps_ret (pe_ix ix_list (pe_op op_cat (pv 11) (pe_lst (pa_cons (pe_op op_add_str (pe_op op_add_str (pe_slice sl_str (pv 1) po_none (po_some (pv 4))) (pv 8)) (pe_slice sl_str (pv 1) (po_some (pe_op op_add (pv 4) pe_int)) po_none)) pa_nil))) (pe_op op_sub (pv 2) pe_int) (fun _ _ => rfl))))))))))))), ?_⟩
    have hx30 : x.length ≤ 20000 := Nat.le_trans ln.len hL
    have hxs : x.length ≤ sizeLine := Nat.le_trans hx30 (by decide)
    have hx' : x.length + 2 ≤ sizeLine := Nat.le_trans (show x.length + 2 ≤ 20002 by omega) (by decide)
    have esp : (Str.ofString " ") = sp := by decide +kernel
    refine s_parL (xs := (words x).map V.str) (by unfold words; rw [← esp]; exact el_split (ev_var rfl) ev_c (by decide +kernel) hx') fun W H1 nW e1 hW => ?_
    have dk1 := dk.on e1
    have nW2 := Ex2.ne (H' := H) dk nW
    refine draw_of (n := ((x.length + 1 : Nat) : Int)) rfl (ev_is (ev_op (ev_cb (ea_cons (ev_var rfl) ea_nil) (rc_lenS hxs)) ev_c rv_I0) rfl) (by omega) (by omega) (by omega) dk1 fun spot H2 hspot x2 dk2 => ⟨_, _, rfl, ?_⟩
    have hW2 := back2 x2 nW2 hW
    ((try refine s_next ?_); (try dsimp only); (try refine s_seq ?_))
    have hwc : 1 ≤ (words x).length := by
      rw [words_count]
      omega
    have hwl : (words x).length ≤ 20001 := Nat.le_trans (words_len x) (by omega)
    have hml : ((words x).map V.str).length = (words x).length := List.length_map ..
    refine draw_of (n := (words x).length) rfl (ev_is (ev_len (ev_var rfl) (sq_of hW2)) (by rw [hml])) (by omega) (by omega) (by omega) dk2 fun a H3 ha x3 dk3 => ?_
    have hW3 := back2 x3 nW2 hW2
    ((try refine s_next ?_); (try dsimp only); (try refine s_seq ?_))
    refine s_asgL (xs := some1) (el_lst (vs := some1) (ea_cons ev_c (ea_cons ev_c (ea_cons ev_c (ea_cons ev_c (ea_cons ev_c (ea_cons ev_c (ea_cons ev_c (ea_cons ev_c (ea_cons ev_c (ea_cons ev_c (ea_cons ev_c (ea_cons ev_c (ea_cons ev_c (ea_cons ev_c (ea_cons ev_c (ea_cons ev_c (ea_cons ev_c (ea_cons ev_c ea_nil)))))))))))))))))) (by decide)) fun p6 H4 np6 e4 hp6 => ?_
    ((try refine s_next ?_); (try dsimp only); (try refine s_seq ?_))
    refine s_asgL (xs := some1 ++ some2) (el_cat (ev_var rfl) hp6 (el_lst (vs := some2) (ea_cons ev_c (ea_cons ev_c (ea_cons ev_c (ea_cons ev_c (ea_cons ev_c (ea_cons ev_c (ea_cons (ev_op ev_c ev_c fun H5 _ Q k => ⟨_, 60, rfl, rfl, by decide, by decide, by decide, by decide, k H5 (Ex.refl _)⟩) (ea_cons ev_c (ea_cons ev_c (ea_cons ev_c (ea_cons ev_c (ea_cons ev_c (ea_cons ev_c (ea_cons ev_c ea_nil)))))))))))))) (by decide)) (by decide)) fun p7 H5 np7 e5 hp7 => ?_
    ((try refine s_next ?_); (try dsimp only); (try refine s_seq ?_))
    have dk5 := dk3.on (e4.trans e5)
    have np72 := Ex2.ne (H' := H5) (dk3.on e4) np7
    refine ⟨_, rfl, ?_⟩
    refine draw_of rfl ev_c (by decide) (by decide) (by omega) dk5 fun r6 H6 hr6 x6 dk6 => ?_
    obtain ⟨v7, hv7, w7, rfl, nw⟩ := pick some_ok (r := r6) (by show r6 < 32; omega)
    refine ⟨p7, _, r6, _, rfl, rfl, sq_of (back2 x6 np72 hp7), hv7, ?_⟩
    refine draw_of rfl ev_c (by decide) (by decide) (by omega) dk6 fun r7 H7 hr7 x7 dk7' => ?_
    generalize hS : Str.ofString "()'0-n \n" = S
    have hSl : S.length = 8 := by
      rw [← hS]
      decide +kernel
    have hSa : Asc S := by
      rw [← hS]
      exact asc_of (by decide +kernel)
    have hr7' : r7 < S.cps.toList.length := by
      have e : S.cps.toList.length = S.length := Array.length_toList
      omega
    obtain ⟨c, hc⟩ : ∃ c, S.cps.toList[r7] = c := ⟨_, rfl⟩
    have hca : c < 128 := hc ▸ hSa _ (List.getElem_mem hr7')
    refine ⟨S, r7, c, rfl, rfl, by rw [hSl]; decide, atI_nat (by rw [List.getElem?_eq_getElem hr7', hc]), ?_⟩
    refine ⟨_, _, rfl, ?_⟩
    have hW7 := back2 x7 nW2 (back2 x6 nW2 ((e4.trans e5) _ _ hW3))
    have x07 : Ex2 D C H H7 := ((ex2_of e1).trans x2).trans ((x3.trans (ex2_of (e4.trans e5))).trans (x6.trans x7))
    ((try refine s_next ?_); (try dsimp only); (try refine s_seq ?_))
    refine s_asgL (el_rev (el_mid (ev_var rfl) (ev_var rfl) (ev_up (c := 2) rfl) hW7)) fun p9 H8 np9 e8 hp9 => ?_
    ((try refine s_next ?_); (try dsimp only); (try refine s_seq ?_))
    have hW8 := e8 _ _ hW7
    have hn1 : ∀ k : Nat, (((words x).take k).map V.str).length ≤ 20001 := fun k => by
      rw [List.length_map, List.length_take]
      omega
    have hn2 : ∀ k : Nat, (((words x).drop k).map V.str).length ≤ 20001 := fun k => by
      rw [List.length_map, List.length_drop]
      omega
    rw [← List.map_reverse] at hp9
    refine s_lst3 (el_catLL (el_to (ev_var rfl) (ev_var rfl) hW8) (el_from (ev_var rfl) (ev_up (c := 1) rfl) hW8) ?_) (el_catLL (el_to (ev_var rfl) (ev_up (c := 1) rfl) hW8) (el_from (ev_var rfl) (ev_var rfl) hW8) ?_)
      (el_catLL (el_catLV (el_to (ev_var rfl) (ev_var rfl) hW8) (ev_var rfl) hp9 ?_) (el_from (ev_var rfl) (ev_up (c := 2) rfl) hW8) ?_) fun p0 p1 p2 l0 H9 e9 h0 h1 h2 hl0 => ?_
    · simp only [List.length_map, List.length_take, List.length_drop]
      omega
    · simp only [List.length_map, List.length_take, List.length_drop]
      omega
    · simp only [List.length_map, List.length_take, List.length_drop, List.length_reverse]
      omega
    · simp only [List.length_append, List.length_map, List.length_take, List.length_drop, List.length_reverse]
      omega
    · ((try refine s_next ?_); (try dsimp only); (try refine s_seq ?_))
      have hW9 := e9 _ _ hW8
      have one : EvL (tLst (tCons (tVar 7) tNil)) [some (.ref D), some (.str x), some (.int way), some (.ref W), some (.int spot), some (.int a), some (.ref p7), some (.str w7), some (.str ⟨#[c]⟩), some (.ref p9), some (.ref l0), none] H9 [.str w7] := el_lst (ea_cons (ev_var rfl) ea_nil) (by show 1 ≤ 100000; decide)
      refine s_cat2 (ev_var rfl) hl0 (by show 3 ≤ 1000; decide) (el_catLL (el_catLL (el_to (ev_var rfl) (ev_var rfl) hW9) one ?_) (el_from (ev_var rfl) (ev_var rfl) hW9) ?_) (el_catLL (el_catLL (el_to (ev_var rfl) (ev_var rfl) hW9) one ?_) (el_from (ev_var rfl) (ev_up (c := 1) rfl) hW9) ?_) fun p3 p4 l1 H10 e10 h3 h4 hl1 => ?_
      · simp only [List.length_map, List.length_take, List.length_singleton]
        omega
      · simp only [List.length_append, List.length_map, List.length_take, List.length_drop, List.length_singleton]
        omega
      · simp only [List.length_map, List.length_take, List.length_singleton]
        omega
      · simp only [List.length_append, List.length_map, List.length_take, List.length_drop, List.length_singleton]
        omega
      · ((try refine s_next ?_); (try dsimp only); (try refine s_seq ?_))
        have x10 : Ex2 D C H H10 := x07.trans (ex2_of ((e8.trans e9).trans e10))
        have dk10 : Deck b H10 D C (t + 4) := dk7'.on ((e8.trans e9).trans e10)
        have rows : ∀ k : Nat, k < 5 → ∃ pw R, [V.ref p0, .ref p1, .ref p2, .ref p3, .ref p4][k]? = some (.ref pw) ∧ H10 pw = some (.lst (R.map V.str)) ∧ Row (2 * L + 70) (n + 3) R := fun k hk => by
          have hk : k = 0 ∨ k = 1 ∨ k = 2 ∨ k = 3 ∨ k = 4 := by omega
          rcases hk with rfl | rfl | rfl | rfl | rfl
          · exact ⟨p0, _, rfl, (e10 _ _ h0).trans (by rw [← List.map_append]), row_left ln⟩
          · exact ⟨p1, _, rfl, (e10 _ _ h1).trans (by rw [← List.map_append]), row_twice ln⟩
          · exact ⟨p2, _, rfl, (e10 _ _ h2).trans (by rw [← List.map_append, ← List.map_append]), row_swap ln⟩
          · exact ⟨p3, (words x).take a ++ [w7] ++ (words x).drop (a + 0), rfl, h3.trans (by rw [List.map_append, List.map_append]; rfl), row_new ln nw (by decide)⟩
          · exact ⟨p4, (words x).take a ++ [w7] ++ (words x).drop (a + 1), rfl, h4.trans (by rw [List.map_append, List.map_append]; rfl), row_new ln nw (by decide)⟩
        refine s_if (b := decide ((way : Int) < 5)) (et_test (ev_op (ev_var rfl) ev_c rv_I0)) (fun hb2 H11 e11 => ?_) fun hb2 H11 e11 => ?_
        · have hk : way < 5 := by
            have := of_decide_eq_true hb2
            omega
          obtain ⟨pw, R, hat, hpw, row⟩ := rows way hk
          refine ⟨⟨_, rfl⟩, _, rfl, _, rfl, l1, _, way, .ref pw, rfl, rfl, sq_of (e11 _ _ hl1), atI_nat hat, _, pw, R, rfl, rfl, .inl (sq_of (e11 _ _ hpw)), ?_, ?_⟩
          · have hs := row.sum
            have e1 : (R.map (·.length)).sum + R.length = wsum R := by
              have : ∀ l : List Str, (l.map (·.length)).sum + l.length = wsum l := by
                intro l
                induction l with
                | nil => rfl
                | cons z r ih =>
                  unfold wsum at ih ⊢
                  simp only [List.map_cons, List.sum_cons, List.length_cons]
                  omega
              exact this R
            have e2 : (Str.ofString " ").length = 1 := by decide +kernel
            rw [e2]
            omega
          · have r := q (Txt.join sp R) H11 row.ln (x10.trans (ex2_of e11)) (dk10.on e11)
            rw [esp]
            exact r
        · have e12 : Ex2 D C H H11 := x10.trans (ex2_of e11)
          have dk12 := dk10.on e11
          have c1 : ∀ lo hi, (cutS x lo hi).length ≤ 20000 := fun lo hi => Nat.le_trans (cutS_length _ _ _) hx30
          have l1c : (⟨#[c]⟩ : Str).length = 1 := rfl
          have la : ∀ u v : Str, (u ++ v).length = u.length + v.length := fun u v => PySem.Str.length_append ..
          refine s_asgL (xs := [.str (cutS x none (some (spot : Int)) ++ (⟨#[c]⟩ : Str) ++ cutS x (some (spot : Int)) none), .str (cutS x none (some (spot : Int)) ++ cutS x (some ((spot + 1 : Nat) : Int)) none)]) (el_lst (ea_cons (ev_op (ev_op (ev_slS (ev_var rfl) eo_none (eo_some (ev_var rfl)) hxs) (ev_var rfl) (rv_adds ?_)) (ev_slS (ev_var rfl) (eo_some (ev_var rfl)) eo_none hxs) (rv_adds ?_))
            (ea_cons (ev_op (ev_slS (ev_var rfl) eo_none (eo_some (ev_var rfl)) hxs) (ev_slS (ev_var rfl) (eo_some (ev_up (c := 1) rfl)) eo_none hxs) (rv_adds ?_)) ea_nil)) (by show 2 ≤ 100000; decide)) fun p12 H12 np12 e12' hp12 => ?_
          · have := c1 none (some (spot : Int))
            omega
          · have := c1 none (some (spot : Int))
            have := c1 (some (spot : Int)) none
            rw [la]
            omega
          · have := c1 none (some (spot : Int))
            have := c1 (some ((spot + 1 : Nat) : Int)) none
            omega
          · ((try refine s_next ?_); (try dsimp only); (try refine s_seq ?_))
            have five : 5 ≤ way := by
              have := of_decide_eq_false hb2
              omega
            obtain ⟨k, hk⟩ : ∃ k, way = k + 5 := ⟨way - 5, by omega⟩
            have z1 : (1 : Nat) ≤ 1 := Nat.le_refl 1
            have sg : ∀ d ∈ [c], d < 128 := fun d hd => by
              rw [List.mem_singleton] at hd
              subst hd
              exact hca
            have said : ∃ y, [V.str (cutS x none (some (spot : Int)) ++ (⟨#[c]⟩ : Str) ++ cutS x (some (spot : Int)) none), .str (cutS x none (some (spot : Int)) ++ cutS x (some ((spot + 1 : Nat) : Int)) none), .str (cutS x none (some (spot : Int)) ++ (⟨#[c]⟩ : Str) ++ cutS x (some ((spot + 1 : Nat) : Int)) none)][k]? = some (.str y) ∧ Ln (2 * L + 70) (n + 3) y := by
              have hk : k = 0 ∨ k = 1 ∨ k = 2 := by omega
              rcases hk with rfl | rfl | rfl
              · exact ⟨_, rfl, ln_signs (a := spot) (m := spot) (z := [c]) ln z1 sg (by rw [TL.tl_append, TL.tl_append, tl_to, tl_from]) (Nat.le_refl _)⟩
              · exact ⟨_, rfl, ln_signs (a := spot) (m := spot + 1) (z := []) ln (by decide) (fun d hd => by cases hd) (by rw [TL.tl_append, tl_to, tl_from, List.append_nil]) (Nat.le_succ _)⟩
              · exact ⟨_, rfl, ln_signs (a := spot) (m := spot + 1) (z := [c]) ln z1 sg (by rw [TL.tl_append, TL.tl_append, tl_to, tl_from]) (Nat.le_succ _)⟩
            obtain ⟨y, hy, hly⟩ := said
            refine s_ret (v := .str y) (ev_opL1 (el_cat (ev_var rfl) hp12 (el_lst (vs := [.str (cutS x none (some (spot : Int)) ++ (⟨#[c]⟩ : Str) ++ cutS x (some ((spot + 1 : Nat) : Int)) none)]) (ea_cons (ev_op (ev_op (ev_slS (ev_var rfl) eo_none (eo_some (ev_var rfl)) hxs) (ev_var rfl) (rv_adds ?_)) (ev_slS (ev_var rfl) (eo_some (ev_up (c := 1) rfl)) eo_none hxs) (rv_adds ?_)) ea_nil) (by show 1 ≤ 100000; decide)) (by show 3 ≤ 100000; decide))
              (fun H13 e13 => ev_is (w := .int (k : Nat)) (ev_op (ev_var rfl) ev_c rv_I0) (by show V.int _ = V.int _; congr 1; omega)) fun p13 H13 hp13 e13 => rv_ixL (sq_of hp13) (atI_nat hy)) fun H13 e13 => q y H13 hly (e12.trans (ex2_of (e12'.trans e13))) (dk12.on (e12'.trans e13))
            · have := c1 none (some (spot : Int))
              omega
            · have := c1 none (some (spot : Int))
              have := c1 (some ((spot + 1 : Nat) : Int)) none
              rw [la]
              omega
end
end Kk

/-! ## D13 -/
set_option Elab.async false
set_option linter.all false
set_option maxRecDepth 100000
namespace Rd
open PySem PySem.Spec PyProof.Rows L2 TL
theorem ln_app {L L' n n' : Nat} {x y : Str} (h : Ln L n x) (g : Ln L' n' y) : Ln (L + L') (n + n') (x ++ y) := by
  have h1 := h.len
  have h2 := g.len
  have h3 := h.few
  have h4 := g.few
  unfold cs at h3 h4
  refine ⟨?_, fun c hc => ?_, ?_⟩
  · rw [PySem.Str.length_append]
    omega
  · rw [tl_append] at hc
    rcases List.mem_append.mp hc with hc | hc
    · exact h.asc c hc
    · exact g.asc c hc
  · unfold cs
    rw [tl_append, List.count_append]
    omega
theorem rep_fold : ∀ (k : Nat) (z acc : Array Nat), ((List.replicate k z).foldl (· ++ ·) acc).toList = acc.toList ++ (List.replicate k z.toList).flatten
  | 0, z, acc => by simp
  | k + 1, z, acc => by
    rw [List.replicate_succ, List.foldl_cons, rep_fold k z (acc ++ z), List.replicate_succ, List.flatten_cons, Array.toList_append, List.append_assoc]
theorem tl_rep (z : Str) (k : Nat) : tl (repS z (k : Nat)) = (List.replicate k (tl z)).flatten := by
  have := rep_fold k z.cps #[]
  rw [List.nil_append] at this
  exact this
theorem ln_rep {L n : Nat} {z : Str} (h : Ln L n z) (k : Nat) : Ln (k * L) (k * n) (repS z (k : Nat)) := by
  have h1 := h.len
  have h3 := h.few
  unfold cs at h3
  rw [len_tl] at h1
  have e1 : ∀ k, ((List.replicate k (tl z)).flatten).length ≤ k * L := fun k => by
    induction k with
    | zero => simp
    | succ k ih =>
      rw [List.replicate_succ, List.flatten_cons, List.length_append, Nat.succ_mul]
      omega
  have e2 : ∀ k, ((List.replicate k (tl z)).flatten).count 32 ≤ k * n := fun k => by
    induction k with
    | zero => simp
    | succ k ih =>
      rw [List.replicate_succ, List.flatten_cons, List.count_append, Nat.succ_mul]
      omega
  refine ⟨?_, fun c hc => ?_, ?_⟩
  · rw [len_tl, tl_rep]
    exact e1 k
  · rw [tl_rep] at hc
    obtain ⟨l, hl, hc⟩ := List.mem_flatten.mp hc
    rw [List.eq_of_mem_replicate hl] at hc
    exact h.asc c hc
  · unfold cs
    rw [tl_rep]
    exact e2 k
theorem asc_str {x : Str} (h : (tl x).all (fun c => decide (c < 128)) = true) : Asc x := fun c hc => of_decide_eq_true (List.all_eq_true.mp h c hc)
theorem ln_of {L n : Nat} (x : Str) (h : (decide (x.length ≤ L) && (tl x).all (fun c => decide (c < 128)) && decide (cs x ≤ n)) = true) : Ln L n x := by
  rw [Bool.and_eq_true, Bool.and_eq_true] at h
  exact ⟨of_decide_eq_true h.1.1, asc_str h.1.2, of_decide_eq_true h.2⟩
theorem ws_ln {ws : List Str} {m : Nat} (h1 : ∀ w ∈ ws, w.length ≤ 41 ∧ Asc w ∧ cs w ≤ 7) (h2 : ws.length ≤ m) : Ln (42 * m) (8 * m) (Txt.join sp ws) := by
  have e1 : ∀ l : List Str, (∀ w ∈ l, w.length ≤ 41 ∧ Asc w ∧ cs w ≤ 7) → wsum l ≤ 42 * l.length ∧ csum l ≤ 7 * l.length := fun l => by
    induction l with
    | nil => exact fun _ => ⟨Nat.le_refl _, Nat.le_refl _⟩
    | cons a r ih =>
      intro h
      have g := ih fun w hw => h w (List.mem_cons_of_mem _ hw)
      have ha := (h a (List.mem_cons_self ..)).1
      have hc := (h a (List.mem_cons_self ..)).2.2
      unfold wsum csum at *
      simp only [List.map_cons, List.sum_cons, List.length_cons]
      omega
  have g := e1 ws h1
  exact join_ln (by omega) (by omega) fun w hw => (h1 w hw).2.1
end Rd
namespace Kk
open PySem PySem.Spec PyProof.Rows L2 Evl Rd
theorem line_of {L n : Nat} {x : Str} (h : Ln L n x) (a : L ≤ 30000) (b : n ≤ 1590) : Line x := ⟨Nat.le_trans h.len a, h.asc, by
  have := h.few
  rw [words_count]
  omega⟩
def FixV (v : V) : Prop := ∃ x, v = .str x ∧ Line x
theorem fix_of (x : Str) (h : (decide (x.length ≤ 100) && (TL.tl x).all (fun c => decide (c < 128)) && decide (cs x ≤ 100)) = true) : FixV (.str x) := ⟨x, rfl, line_of (ln_of x h) (by decide) (by decide)⟩
def fix1 : List V := [.str (Str.ofString ""), .str (Str.ofString " "), .str (Str.ofString "("), .str (Str.ofString ")"), .str (Str.ofString "( )"), .str (Str.ofString "()"), .str (Str.ofString "( ) "), .str (Str.ofString " ( )"), .str (Str.ofString "none none"), .str (Str.ofString "0 0"), .str (Str.ofString "( none"), .str (Str.ofString ") ("), .str (Str.ofString "'"), .str (Str.ofString "'a b"), .str (Str.ofString "-")]
def fix2 : List V := [.str (Str.ofString "00"), .str (repS (Str.ofString "( ") 60 ++ Str.ofString "0" ++ repS (Str.ofString " )") 60), .str (repS (Str.ofString "( ") 60 ++ Str.ofString "0" ++ repS (Str.ofString " )") 59), .str (Str.ofString "( )" ++ repS (Str.ofString " )") 300)]
def fix3 : List V := [.str (Str.ofString "' a"), .str (repS (Str.ofString "1") 900), .str (repS (Str.ofString "1") 4000), .str (repS (Str.ofString "1") 4001), .str (Str.ofString "( " ++ repS (Str.ofString "9") 4400 ++ Str.ofString " )"), .str (Str.ofString "-" ++ repS (Str.ofString "1") 4000)]
theorem fix1_ok : ∀ v ∈ fix1, FixV v := fun v hv => by
  simp only [fix1, List.mem_cons, List.not_mem_nil, or_false] at hv
  rcases hv with rfl | rfl | rfl | rfl | rfl | rfl | rfl | rfl | rfl | rfl | rfl | rfl | rfl | rfl | rfl <;> exact fix_of _ (by decide +kernel)
theorem fix2_ok : ∀ v ∈ fix2, FixV v := fun v hv => by
  have a := ln_of (L := 2) (n := 1) (Str.ofString "( ") (by decide +kernel)
  have b := ln_of (L := 2) (n := 1) (Str.ofString " )") (by decide +kernel)
  have c := ln_of (L := 1) (n := 0) (Str.ofString "0") (by decide +kernel)
  have d := ln_of (L := 3) (n := 1) (Str.ofString "( )") (by decide +kernel)
  simp only [fix2, List.mem_cons, List.not_mem_nil, or_false] at hv
  rcases hv with rfl | rfl | rfl | rfl
  · exact fix_of _ (by decide +kernel)
  · exact ⟨_, rfl, line_of (ln_app (ln_app (ln_rep a 60) c) (ln_rep b 60)) (by decide) (by decide)⟩
  · exact ⟨_, rfl, line_of (ln_app (ln_app (ln_rep a 60) c) (ln_rep b 59)) (by decide) (by decide)⟩
  · exact ⟨_, rfl, line_of (ln_app d (ln_rep b 300)) (by decide) (by decide)⟩
theorem fix3_ok : ∀ v ∈ fix3, FixV v := fun v hv => by
  have a := ln_of (L := 2) (n := 1) (Str.ofString "( ") (by decide +kernel)
  have b := ln_of (L := 2) (n := 1) (Str.ofString " )") (by decide +kernel)
  have c := ln_of (L := 1) (n := 0) (Str.ofString "1") (by decide +kernel)
  have d := ln_of (L := 1) (n := 0) (Str.ofString "9") (by decide +kernel)
  have e := ln_of (L := 1) (n := 0) (Str.ofString "-") (by decide +kernel)
  simp only [fix3, List.mem_cons, List.not_mem_nil, or_false] at hv
  rcases hv with rfl | rfl | rfl | rfl | rfl | rfl
  · exact fix_of _ (by decide +kernel)
  · exact ⟨_, rfl, line_of (ln_rep c 900) (by decide) (by decide)⟩
  · exact ⟨_, rfl, line_of (ln_rep c 4000) (by decide) (by decide)⟩
  · exact ⟨_, rfl, line_of (ln_rep c 4001) (by decide) (by decide)⟩
  · exact ⟨_, rfl, line_of (ln_app (ln_app a (ln_rep d 4400)) b) (by decide) (by decide)⟩
  · exact ⟨_, rfl, line_of (ln_app e (ln_rep c 4000)) (by decide) (by decide)⟩
theorem bits_lt {z : Int} {b : Nat} (h : Builtin.Int.intBits z ≤ b) : z.natAbs < 2 ^ b := by
  refine Nat.lt_of_lt_of_le ?_ (Nat.pow_le_pow_right (by decide) h)
  unfold Builtin.Int.intBits
  split
  · rename_i e
    simp_all
  · exact Nat.lt_log2_self
end Kk

/-! ## D14 -/
set_option Elab.async false
set_option linter.all false
set_option maxRecDepth 100000
namespace Kk
open PySem PySem.Spec PyProof.Rows L2 Evl Rd
section
variable {P : Program} {w : World} {K : PySem.W.Frag} {mg : Str → Option Value} {base : Heap} {A : Nat → Addr} {fd : Nat → FuncData} {tk : Nat → Tok}
def spLaw (K : PySem.W.Frag) : Sp := fun vs H Q _ => ∃ (a : Addr) (ns : List Int), vs = [.ref a] ∧ SqL K H a (ns.map V.int) ∧ (∀ z ∈ ns, Builtin.Int.intBits z ≤ 1048576) ∧ ∀ H', Q (.bl true) H'
theorem draw_at {b t i : Nat} {σ : L2.St} {H : Hp} {n : Int} {D C : Addr} {Q : VK} {E : XK} {te : TE} (h0 : σ[i]? = some (some (.ref D))) (he : Ev te σ H (.int n)) (h1 : 1 ≤ n) (h2 : n < 1073741824000) (ht : t < 1000000) (dk : Deck b H D C t)
    (k : ∀ (r : Nat) H', (r : Int) < n → Ex2 D C H H' → Deck b H' D C (t + 1) → Q (.int r) H') : tCall (spDraw b) [] E (tCons (tVar i) (tCons te tNil)) σ H Q :=
  ⟨_, h0, he H (Ex.refl H) _ fun H1 e1 => ⟨D, C, n, t, rfl, h1, h2, ht, dk.on e1, fun r H' hr x d => k r H' hr ((ex2_of e1).trans x) d⟩⟩
theorem thing_at {b n t i : Nat} {σ : L2.St} {H : Hp} {D C : Addr} {Q : VK} {E : XK} {te : TE} (h0 : σ[i]? = some (some (.ref D))) (he : Ev te σ H (.int n)) (ht : t + most n ≤ 900000) (dk : Deck b H D C t)
    (k : ∀ v d t' H', Th n d → Dv K H' v d → Ex2 D C H H' → Deck b H' D C t' → t' ≤ t + most n → Q v H') : tCall (spThing K b n) [] E (tCons (tVar i) (tCons te tNil)) σ H Q :=
  ⟨_, h0, he H (Ex.refl H) _ fun H1 e1 => ⟨D, C, t, rfl, ht, dk.on e1, fun v d t' H' h1 h2 x h3 h4 => k v d t' H' h1 h2 ((ex2_of e1).trans x) h3 h4⟩⟩
theorem join_size : ∀ l : List Str, (l.map (·.length)).sum + l.length = wsum l
  | [] => rfl
  | z :: r => by
    have ih := join_size r
    unfold wsum at ih ⊢
    simp only [List.map_cons, List.sum_cons, List.length_cons]
    omega
def Good1 (K : PySem.W.Frag) (H : Hp) (v : V) : Prop := (∃ x, v = .str x ∧ Line x) ∨ NoStr K H v
theorem Good1.on {H H1 : Hp} {v : V} (g : Good1 K H v) (e : Ex H H1) : Good1 K H1 v := g.imp id fun ⟨t, ty, n⟩ => ⟨t, ty_ex ty e, n⟩
theorem rv_mulS {z : Str} {n : Int} {H : Hp} (h1 : 2 ≤ n) (h2 : n ≤ 100000) (h3 : 1 ≤ z.length) (h4 : z.length ≤ 100) : RV rMulS (.str z) (.int n) H (.str (repS z n)) := fun H1 _ Q k => ⟨z, n, rfl, rfl, h1, h2, h3, h4, k H1 (Ex.refl _)⟩
theorem odd_list {σ : L2.St} {H : Hp} {f : Addr} {fs : List V} {u : Str} {Q : VK} (h2 : σ[2]? = some (some (.ref f))) (hf : H f = some (.lst fs)) (hl : fs.length ≤ 1000) (hfs : ∀ v ∈ fs, FixV v)
    (k : ∀ p xs H1, Ex H H1 → H1 p = some (.lst xs) → (∀ v ∈ xs, Good1 K H1 v) → Q (.ref p) H1) :
    tOp rCat (tVar 2) (tLst (tCons (tC .non) (tCons (tC (.bl true)) (tCons (tC (.int 0)) (tCons (tTup tNil) (tCons (tTup (tCons (tC (.str u)) tNil)) (tCons (tLst tNil) (tCons tDNewK (tCons (tLst (tCons (tC (.str u)) tNil)) tNil))))))))) σ H Q := by
  refine ⟨_, h2, ?_⟩
  refine ⟨Nat.zero_le _, fun t0 n0 => ⟨by show 1 ≤ sizeLine; decide, fun t1 n1 => ⟨Nat.zero_le _, fun l0 n2 => fun d0 n3 => ⟨by show 1 ≤ sizeLine; decide, fun l1 n4 => ⟨by show 8 ≤ sizeLine; decide, fun L nL => ?_⟩⟩⟩⟩⟩
  have e0 := Ex.new (o := .tup []) n0
  have e1 := Ex.new (o := .tup [.str u]) n1
  have e2 := Ex.new (o := .lst []) n2
  have e3 := Ex.new (o := .dK []) n3
  have e4 := Ex.new (o := .lst [.str u]) n4
  have eL := Ex.new (o := .lst [.non, .bl true, .int 0, .ref t0, .ref t1, .ref l0, .ref d0, .ref l1]) nL
  refine ⟨f, L, fs, _, rfl, rfl, (((((e0.trans e1).trans e2).trans e3).trans e4).trans eL) _ _ hf, upd_same, Nat.le_trans (show fs.length + 8 ≤ 1008 by omega) (by decide), fun p np => ?_⟩
  have ep := Ex.new (o := .lst (fs ++ [.non, .bl true, .int 0, .ref t0, .ref t1, .ref l0, .ref d0, .ref l1])) np
  refine k p _ _ ((((((e0.trans e1).trans e2).trans e3).trans e4).trans eL).trans ep) upd_same fun v hv => ?_
  rcases List.mem_append.mp hv with hv | hv
  · exact .inl (hfs v hv)
  · simp only [List.mem_cons, List.not_mem_nil, or_false] at hv
    rcases hv with rfl | rfl | rfl | rfl | rfl | rfl | rfl | rfl
    · exact .inr ⟨_, .base .non, rfl⟩
    · exact .inr ⟨_, .base (.bl _), rfl⟩
    · exact .inr ⟨_, .base (.int _), rfl⟩
    · exact .inr ⟨_, .base (.tup (((((e1.trans e2).trans e3).trans e4).trans (eL.trans ep)) _ _ upd_same)), rfl⟩
    · exact .inr ⟨_, .base (.tup ((((e2.trans e3).trans e4).trans (eL.trans ep)) _ _ upd_same)), rfl⟩
    · exact .inr ⟨_, .base (.lst (((e3.trans e4).trans (eL.trans ep)) _ _ upd_same)), rfl⟩
    · exact .inr ⟨_, .base (.dK ((e4.trans (eL.trans ep)) _ _ upd_same)), rfl⟩
    · exact .inr ⟨_, .base (.lst ((eL.trans ep) _ _ upd_same)), rfl⟩
def Way3 (H : Hp) (v : V) : Prop := ∃ (p : Addr) (x y z : Nat), v = .ref p ∧ H p = some (.tup [.int x, .int y, .int z]) ∧ x < 8 ∧ y < 8
theorem Way3.ex2 {b t : Nat} {H H1 : Hp} {D C : Addr} {v : V} (g : Way3 H v) (dk : Deck b H D C t) (x : Ex2 D C H H1) : Way3 H1 v := by
  obtain ⟨p, i, j, k, rfl, hp, h1, h2⟩ := g
  obtain ⟨_, s, cs, _, _, hD, hC, _⟩ := dk
  exact ⟨p, i, j, k, rfl, x p _ (fun z => by rw [z, hD] at hp; cases hp) (fun z => by rw [z, hC] at hp; cases hp) hp, h1, h2⟩
theorem Way3.upd {H : Hp} {L : Addr} {vs : List V} {o : HO} {v : V} (g : Way3 H v) (h : H L = some (.lst vs)) : Way3 (upd H L o) v := by
  obtain ⟨p, i, j, k, rfl, hp, h1, h2⟩ := g
  exact ⟨p, i, j, k, rfl, by rw [upd_ne (fun z => by rw [z, h] at hp; cases hp)]; exact hp, h1, h2⟩
theorem ok_law (T : Txt K mg A fd tk) (ND : base.NoDigits) : FnG P w K mg base CX0 102 (A 25) (fd 25) ["_law_script"] (spLaw K) := by
  obtain ⟨b, hb0, hb⟩ : ∃ b : Nat, 1048576 ≤ b ∧ b ≤ 2000000 := ⟨1048576, by decide, by decide⟩
  have GK := ok_law_deck (P := P) (w := w) (base := base) T (b := b)
  have GD := ok_law_draw (P := P) (w := w) (base := base) T hb
  have GT := ok_law_thing (P := P) (w := w) (base := base) T hb 3
  have GW := ok_law_words_of (P := P) (w := w) (base := base) T 3 (by decide)
  have GB := ok_law_bent (P := P) (w := w) (base := base) T hb
  have GR := ok_law_right (P := P) (w := w) T ND
  refine T.F_law.okG sc_law (fun vs H Q E h => ?_) (fun cdv A' outer s H vs Q E hr gd h => ?_)
  · obtain ⟨a, ns, rfl, _⟩ := h
    rfl
  · obtain ⟨a, ns, rfl, ha, hns, q⟩ := h
    have hrR : Room 100 _ := hr.mono (by decide)
    have hr1 : Room 1 _ := hr.mono (by decide)
    have hr2 : Room 2 _ := hr.mono (by decide)
    have hr5 : Room 5 _ := hr.mono (by decide)
    have hr4 : Room 4 _ := hr.mono (by decide)
    refine ⟨_, pss_cons (ps_set (i := 1) sc_law.nd rfl (.inr rfl) (pe_call GK hr1 (by rfl) T.g__law_deck T.F__law_deck.kp T.b__law_deck .nil pass0 (pa_cons (pv 0) pa_nil)))
      (pss_cons (ps_set (i := 2) sc_law.nd rfl (.inl rfl) (pe_lst (pa_cons pe_str (pa_cons pe_str (pa_cons pe_str (pa_cons pe_str (pa_cons pe_str (pa_cons pe_str (pa_cons pe_str (pa_cons pe_str (pa_cons pe_str (pa_cons pe_str (pa_cons pe_str (pa_cons pe_str (pa_cons pe_str (pa_cons pe_str (pa_cons pe_str pa_nil)))))))))))))))))
      (pss_cons (ps_set (i := 2) sc_law.nd rfl (.inl rfl) (pe_op op_cat (pv 2) (pe_lst (pa_cons pe_str (pa_cons (pe_op op_add_str (pe_op op_add_str (pe_op op_mulS pe_str pe_int) pe_str) (pe_op op_mulS pe_str pe_int)) (pa_cons (pe_op op_add_str (pe_op op_add_str (pe_op op_mulS pe_str pe_int) pe_str) (pe_op op_mulS pe_str pe_int)) (pa_cons (pe_op op_add_str pe_str (pe_op op_mulS pe_str pe_int)) pa_nil)))))))
      (pss_cons (ps_set (i := 2) sc_law.nd rfl (.inl rfl) (pe_op op_cat (pv 2) (pe_lst (pa_cons pe_str (pa_cons (pe_op op_mulS pe_str pe_int) (pa_cons (pe_op op_mulS pe_str pe_int) (pa_cons (pe_op op_mulS pe_str pe_int) (pa_cons (pe_op op_add_str (pe_op op_add_str pe_str (pe_op op_mulS pe_str pe_int)) pe_str) (pa_cons (pe_op op_add_str pe_str (pe_op op_mulS pe_str pe_int)) pa_nil)))))))))
      (pss_cons (ps_for PassesOwn.never rfl (pi_list (pe_op op_cat (pv 2) (pe_lst (pa_cons pe_non (pa_cons pe_bl (pa_cons pe_int (pa_cons (pe_tup pa_nil) (pa_cons (pe_tup (pa_cons pe_str pa_nil)) (pa_cons (pe_lst pa_nil) (pa_cons pe_dnewK (pa_cons (pe_lst (pa_cons pe_str pa_nil)) pa_nil))))))))))) (pg_name (i := 3) sc_law.nd rfl (.inl rfl))
        (pss_one (ps_if (pt_not (pt_val (pe_callG GR gd hrR (by rfl) T.g__law_right T.F__law_right.kp T.b__law_right .nil pass0 (pa_cons (pv 3) pa_nil)))) (pss_one (ps_ret pe_bl)) pss_nil)))
      (pss_cons (ps_for PassesOwn.never rfl (pi_range1 (by rfl) T.m_range (pa_cons pe_int pa_nil)) (pg_name (i := 4) sc_law.nd rfl (.inl rfl))
        (pss_cons (ps_setLc (i := 5) (own := [("_law_k", 10)]) (g := gName 10) (tt := tYes) rfl sc_law.nd rfl rfl (sw_true rfl rfl rfl (by decide +kernel)) (pi_range1 (by rfl) T.m_range (pa_cons pe_int pa_nil)) (blkOk_by (own := [("_law_k", 10)]) (N := N_law) (sc := (defScope s_law)) (by decide +kernel)) (fun _ _ _ _ _ => (pg_name (i := 10) sc_law.nd rfl (.inl rfl))) (fun _ _ _ _ _ => pts_nil)
          (fun _ _ _ _ _ => (pe_tup (pa_cons (pe_call GD hr1 (by rfl) T.g__law_draw T.F__law_draw.kp T.b__law_draw .nil pass0 (pa_cons (pv 1) (pa_cons pe_int pa_nil))) (pa_cons (pe_call GD hr1 (by rfl) T.g__law_draw T.F__law_draw.kp T.b__law_draw .nil pass0 (pa_cons (pv 1) (pa_cons pe_int pa_nil))) (pa_cons (pe_call GD hr1 (by rfl) T.g__law_draw T.F__law_draw.kp T.b__law_draw .nil pass0 (pa_cons (pv 1) (pa_cons pe_int pa_nil))) pa_nil))))))
        (pss_cons (ps_set (i := 3) sc_law.nd rfl (.inl rfl) (pe_join pe_str (pe_call GW hr4 (by rfl) T.g__law_words_of T.F__law_words_of.kp T.b__law_words_of .nil pass0 (pa_cons (pe_call GT hr5 (by rfl) T.g__law_thing T.F__law_thing.kp T.b__law_thing .nil pass0 (pa_cons (pv 1) (pa_cons pe_int pa_nil))) pa_nil))))
        (pss_one (ps_for PassesOwn.never rfl (pi_list (pv 5)) (pg_tup rfl (pgs_cons (pg_name (i := 6) sc_law.nd rfl (.inl rfl)) (pgs_cons (pg_name (i := 7) sc_law.nd rfl (.inl rfl)) (pgs_cons (pg_name (i := 8) sc_law.nd rfl (.inl rfl)) pgs_nil))))
          (pss_cons (ps_set (i := 9) sc_law.nd rfl (.inl rfl) (pe_call GB hr2 (by rfl) T.g__law_bent T.F__law_bent.kp T.b__law_bent .nil pass0 (pa_cons (pv 1) (pa_cons (pv 3) (pa_cons (pv 6) pa_nil)))))
          (pss_cons (ps_if (pt_cmpR op_eq (pv 8) pe_int (nomark _)) (pss_one (ps_set (i := 9) sc_law.nd rfl (.inl rfl) (pe_call GB hr2 (by rfl) T.g__law_bent T.F__law_bent.kp T.b__law_bent .nil pass0 (pa_cons (pv 1) (pa_cons (pv 9) (pa_cons (pv 7) pa_nil)))))) pss_nil)
          (pss_one (ps_if (PW.pt (pw_or (pt_not (pt_val (pe_callG GR gd hrR (by rfl) T.g__law_right T.F__law_right.kp T.b__law_right .nil pass0 (pa_cons (pv 9) pa_nil)))) (pw_or1 (pt_not (pt_val (pe_callG GR gd hrR (by rfl) T.g__law_right T.F__law_right.kp T.b__law_right .nil pass0 (pa_cons (pv 3) pa_nil))))))) (pss_one (ps_ret pe_bl)) pss_nil)))))))))
      (pss_one (ps_ret pe_bl))))))), ?_⟩
    have esp : (Str.ofString " ") = sp := by decide +kernel
    refine ⟨_, rfl, a, ns, rfl, ha, fun c hc => bits_lt (Nat.le_trans (hns c hc) hb0), fun D C H1 e1 dk1 nD nC => ?_⟩
    ((try refine s_next ?_); (try dsimp only); (try refine s_seq ?_))
    refine s_asgL (xs := fix1) (el_lst (vs := fix1) (ea_cons ev_c (ea_cons ev_c (ea_cons ev_c (ea_cons ev_c (ea_cons ev_c (ea_cons ev_c (ea_cons ev_c (ea_cons ev_c (ea_cons ev_c (ea_cons ev_c (ea_cons ev_c (ea_cons ev_c (ea_cons ev_c (ea_cons ev_c (ea_cons ev_c ea_nil))))))))))))))) (by decide)) fun f1 H2 nf1 e2 hf1 => ?_
    ((try refine s_next ?_); (try dsimp only); (try refine s_seq ?_))
    have la := ln_of (L := 2) (n := 1) (Str.ofString "( ") (by decide +kernel)
    have lb := ln_of (L := 2) (n := 1) (Str.ofString " )") (by decide +kernel)
    have lc := ln_of (L := 1) (n := 0) (Str.ofString "1") (by decide +kernel)
    have ld := ln_of (L := 1) (n := 0) (Str.ofString "9") (by decide +kernel)
    have l0 := ln_of (L := 1) (n := 0) (Str.ofString "0") (by decide +kernel)
    have l3 := ln_of (L := 3) (n := 1) (Str.ofString "( )") (by decide +kernel)
    have lm := ln_of (L := 1) (n := 0) (Str.ofString "-") (by decide +kernel)
    have two : ∀ {L L' n n' : Nat} {x y : Str}, Ln L n x → Ln L' n' y → L + L' ≤ 100000 → x.length + y.length ≤ 100000 := fun g h k => by
      have := g.len
      have := h.len
      omega
    have ml : ∀ {z : Str} {n : Int} {σ : L2.St} {H : Hp}, 2 ≤ n → n ≤ 100000 → 1 ≤ z.length → z.length ≤ 100 → Ev (tOp rMulS (tC (.str z)) (tC (.int n))) σ H (.str (repS z n)) := fun h1 h2 h3 h4 => ev_op ev_c ev_c (rv_mulS h1 h2 h3 h4)
    refine s_asgL (xs := fix1 ++ fix2) (el_cat (ev_var rfl) hf1 (el_lst (vs := fix2) (ea_cons ev_c
      (ea_cons (ev_op (ev_op (ml (by decide) (by decide) (by decide) (by decide)) ev_c (rv_adds (two (ln_rep la 60) l0 (by decide)))) (ml (by decide) (by decide) (by decide) (by decide)) (rv_adds (two (ln_app (ln_rep la 60) l0) (ln_rep lb 60) (by decide))))
      (ea_cons (ev_op (ev_op (ml (by decide) (by decide) (by decide) (by decide)) ev_c (rv_adds (two (ln_rep la 60) l0 (by decide)))) (ml (by decide) (by decide) (by decide) (by decide)) (rv_adds (two (ln_app (ln_rep la 60) l0) (ln_rep lb 59) (by decide))))
      (ea_cons (ev_op ev_c (ml (by decide) (by decide) (by decide) (by decide)) (rv_adds (two l3 (ln_rep lb 300) (by decide)))) ea_nil)))) (by decide)) (by decide)) fun f2 H3 nf2 e3 hf2 => ?_
    ((try refine s_next ?_); (try dsimp only); (try refine s_seq ?_))
    refine s_asgL (xs := fix1 ++ fix2 ++ fix3) (el_cat (ev_var rfl) hf2 (el_lst (vs := fix3) (ea_cons ev_c (ea_cons (ml (by decide) (by decide) (by decide) (by decide)) (ea_cons (ml (by decide) (by decide) (by decide) (by decide)) (ea_cons (ml (by decide) (by decide) (by decide) (by decide))
      (ea_cons (ev_op (ev_op ev_c (ml (by decide) (by decide) (by decide) (by decide)) (rv_adds (two la (ln_rep ld 4400) (by decide)))) ev_c (rv_adds (two (ln_app la (ln_rep ld 4400)) lb (by decide))))
      (ea_cons (ev_op ev_c (ml (by decide) (by decide) (by decide) (by decide)) (rv_adds (two lm (ln_rep lc 4000) (by decide)))) ea_nil)))))) (by decide)) (by decide)) fun f3 H4 nf3 e4 hf3 => ?_
    ((try refine s_next ?_); (try dsimp only); (try refine s_seq ?_))
    have fixok : ∀ v ∈ fix1 ++ fix2 ++ fix3, FixV v := fun v hv => by
      rcases List.mem_append.mp hv with hv | hv
      · rcases List.mem_append.mp hv with hv | hv
        · exact fix1_ok v hv
        · exact fix2_ok v hv
      · exact fix3_ok v hv
    have dk4 := dk1.on ((e2.trans e3).trans e4)
    have right : ∀ (i : Nat) (σ : L2.St) (H : Hp) (v : V) (E : XK), σ[i]? = some (some v) → Good1 K H v → Ev (tCall (spRight K) [] E (tCons (tVar i) tNil)) σ H (.bl true) := fun i σ H v E hi g =>
      ev_call (ea_cons (ev_var hi) ea_nil) fun H1 e Q k E => ⟨v, rfl, g.on e, fun H' e' => k H' e'⟩
    refine odd_list (K := K) rfl hf3 (by decide) fixok fun p xs H5 e5 hp hxs => ⟨p, rfl, ⟨xs, sq_of hp⟩, for_list (fun i σ' H' => ∃ v3, σ' = [some (.ref a), some (.ref D), some (.ref f3), v3, none, none, none, none, none, none, none] ∧ Ex H5 H') ⟨none, rfl, Ex.refl _⟩ (fun i σ' H' _ ⟨v3, _, e⟩ => sq_of (e _ _ hp)) (fun i v σ' H' hv ⟨v3, es, e⟩ => ?_) fun σ' H' ⟨v3, es, e⟩ => ?_⟩
    · subst es
      have g := (hxs v (List.mem_of_getElem? hv)).on e
      refine s_if (b := false) (et_not (a := true) (et_B (right 3 _ H' v _ rfl g))) (fun z => absurd z (by decide)) fun _ H6 e6 => ?_
      exact ⟨some v, rfl, e.trans e6⟩
    · subst es
      ((try refine s_next ?_); (try dsimp only); (try refine s_seq ?_))
      have dk5 := dk4.on (e5.trans e)
      refine s_forR1 (n := 2) (ea_cons ev_c ea_nil) (by decide) (fun i σ' H' => ∃ (t : Nat) (v3 v4 v5 v6 v7 v8 v9 v10 : Option V), σ' = [some (.ref a), some (.ref D), some (.ref f3), v3, v4, v5, v6, v7, v8, v9, v10] ∧ Deck b H' D C t ∧ t ≤ i * 2000) (fun H6 e6 => ⟨0, _, _, _, _, _, _, _, _, rfl, dk5.on e6, Nat.zero_le _⟩) (fun i σ6 H6 hi ⟨t, v3, v4, v5, v6, v7, v8, v9, v10, es6, dk6, ht⟩ => ?_) fun σ6 H6 ⟨t, v3, v4, v5, v6, v7, v8, v9, v10, es6, dk6, ht⟩ => ?_
      · subst es6
        have hi' : i * 2000 ≤ 2000 := by omega
        refine ⟨16, rfl, by decide, by decide, fun L nL => ?_⟩
        have nLD := Ex2.ne (H' := H6) dk6 nL
        refine lc_it walk_range (fun i H' => ∃ vs, H' L = some (.lst vs) ∧ vs.length = i ∧ (∀ v ∈ vs, Way3 H' v) ∧ Deck b H' D C (t + 3 * i)) ?_ (fun _ _ _ _ => trivial) (fun i x Ha Hb hi p y => ?_) fun Ha p => ?_
        · exact ⟨[], upd_same, rfl, fun _ h => (by cases h), dk6.upd nLD⟩
        · obtain ⟨rfl, rfl⟩ := y
          obtain ⟨vs, hL, hlen, hvs, dkA⟩ := p
          have hi16 : i < 16 := hi
          refine ⟨rfl, yes_to ?_⟩
          refine draw_at (i := 1) rfl ev_c (by decide) (by decide) (by omega) dkA fun r1 H7 h1 x7 dk7 => ?_
          refine draw_at (i := 1) rfl ev_c (by decide) (by decide) (by omega) dk7 fun r2 H8 h2 x8 dk8 => ?_
          refine draw_at (i := 1) rfl ev_c (by decide) (by decide) (by omega) dk8 fun r3 H9 h3 x9 dk9 => ⟨by show 3 ≤ sizeLine; decide, fun q nq => ?_⟩
          have x79 := (x7.trans x8).trans x9
          have hL9 := back2 x79 nLD hL
          have eq := Ex.new (o := .tup [.int r1, .int r2, .int r3]) nq
          refine ⟨vs, eq _ _ hL9, by rw [hlen]; exact Nat.lt_of_lt_of_le hi16 (by decide), vs ++ [.ref q], upd_same, by rw [List.length_append, hlen]; rfl, fun v hv => ?_, (dk9.on eq).upd nLD⟩
          rcases List.mem_append.mp hv with hv | hv
          · exact (((hvs v hv).ex2 dkA x79).ex2 dk9 (ex2_of eq)).upd (eq _ _ hL9)
          · rw [List.mem_singleton] at hv
            subst hv
            exact Way3.upd ⟨q, r1, r2, r3, rfl, upd_same, by omega, by omega⟩ (eq _ _ hL9)
        · obtain ⟨vs, hL, hlen, hvs, dkA⟩ := p
          have hlen' : vs.length = 16 := hlen
          ((try refine s_next ?_); (try dsimp only); (try refine s_seq ?_))
          refine ⟨⟨_, rfl⟩, ?_⟩
          have m3 : most 3 = 1000 := by decide
          refine thing_at (n := 3) (i := 1) rfl ev_c (by rw [m3]; omega) dkA fun v d t7 H7 th dv x7 dk7 ht7 => ?_
          have hL7 := back2 x7 nLD hL
          have hvs7 : ∀ v ∈ vs, Way3 H7 v := fun v hv => (hvs v hv).ex2 dkA x7
          refine ⟨v, d, rfl, th, dv, fun pw ws H8 e8 _ hpw W => ?_⟩
          have c3 : cnt 3 = 106 := by decide
          have few := W.few
          rw [c3] at few
          have lnw := ws_ln W.each few
          refine ⟨_, pw, ws, rfl, rfl, .inl (sq_of hpw), ?_, ?_⟩
          · have e2 : (Str.ofString " ").length = 1 := by decide +kernel
            have e3 := join_size ws
            have e4 : ∀ l : List Str, (∀ w ∈ l, w.length ≤ 41 ∧ Asc w ∧ cs w ≤ 7) → wsum l ≤ 42 * l.length := fun l => by
              induction l with
              | nil => exact fun _ => Nat.le_refl _
              | cons z r ih =>
                intro h
                have g := ih fun w hw => h w (List.mem_cons_of_mem _ hw)
                have hz := (h z (List.mem_cons_self ..)).1
                unfold wsum at g ⊢
                simp only [List.map_cons, List.sum_cons, List.length_cons]
                omega
            have e5 := e4 ws W.each
            rw [e2]
            omega
          · ((try refine s_next ?_); (try dsimp only); (try refine s_seq ?_))
            rw [esp]
            generalize hx : Txt.join sp ws = x at lnw
            have hL8 := e8 _ _ hL7
            have dk8 := dk7.on e8
            have hvs8 : ∀ v ∈ vs, Way3 H8 v := fun v hv => (hvs7 v hv).ex2 dk7 (ex2_of e8)
            have linex : Line x := line_of lnw (by decide) (by decide)
            obtain ⟨t8, ht8⟩ : ∃ t8, t7 = t8 := ⟨_, rfl⟩
            rw [ht8] at dk8 ht7
            have hnat : ((16 : Int)).toNat = 16 := by decide
            refine s_forL (a := L) (xs := vs) (ev_var rfl) (sq_of hL8) (fun j σ' H' => ∃ (t : Nat) (v4 v6 v7 v8 v9 v10 : Option V), σ' = [some (.ref a), some (.ref D), some (.ref f3), some (.str x), v4, some (.ref L), v6, v7, v8, v9, v10] ∧ Deck b H' D C t ∧ t ≤ t8 + 8 * j ∧ H' L = some (.lst vs) ∧ ∀ v ∈ vs, Way3 H' v)
              (fun H9 e9 => ⟨t8, _, _, _, _, _, _, rfl, dk8.on e9, by omega, e9 _ _ hL8, fun v hv => (hvs8 v hv).ex2 dk8 (ex2_of e9)⟩) (fun j σ' H' _ ⟨t, v4, v6, v7, v8, v9, v10, _, _, _, h, _⟩ => sq_of h) (fun j v σ' H' hv ⟨t, v4, v6, v7, v8, v9, v10, es, dk', htj, hL', hvs'⟩ => ?_) fun σ' H' ⟨t, v4, v6, v7, v8, v9, v10, es, dk', htj, hL', hvs'⟩ => ?_
            · subst es
              have hj : j < vs.length := (List.getElem?_eq_some_iff.mp hv).1
              obtain ⟨p3, wy, mo, tw, rfl, hp3, hwy, hmo⟩ := hvs' v (List.mem_of_getElem? hv)
              refine ⟨p3, [.int wy, .int mo, .int tw], rfl, st_of hp3, rfl, _, _, rfl, _, _, rfl, _, _, rfl, rfl, ?_⟩
              refine s_seq ?_
              refine ⟨_, rfl, _, rfl, _, rfl, D, C, t, wy, 42 * 106, 8 * 106, x, rfl, by omega, hwy, by decide, lnw, dk', fun y H9 ly x9 dk9 => ?_⟩
              have liney : Line y := line_of ly (by decide) (by decide)
              have hL9 := back2 x9 nLD hL'
              have hv9 : ∀ v ∈ vs, Way3 H9 v := fun v hv => (hvs' v hv).ex2 dk' x9
              ((try refine s_next ?_); (try dsimp only); (try refine s_seq ?_))
              refine s_if (et_test (ev_op (ev_var rfl) ev_c (rv_eq rfl))) (fun _ H10 e10 => ?_) fun _ H10 e10 => ?_
              · refine ⟨_, rfl, _, rfl, _, rfl, D, C, t + 4, mo, 2 * (42 * 106) + 70, 8 * 106 + 3, y, rfl, by omega, hmo, by decide, ly, dk9.on e10, fun y2 H11 ly2 x11 dk11 => ?_⟩
                have liney2 : Line y2 := line_of ly2 (by decide) (by decide)
                ((try refine s_next ?_); (try dsimp only); (try refine s_seq ?_))
                refine s_if (b := false) (et_is (et_or (a := false) (b := false) (et_is (et_not (a := true) (et_B (right 9 _ _ (.str y2) _ rfl (.inl ⟨_, rfl, liney2⟩)))) rfl) fun _ => et_is (et_not (a := true) (et_B (right 3 _ _ (.str x) _ rfl (.inl ⟨_, rfl, linex⟩)))) rfl) rfl) (fun z => absurd z (by decide)) fun _ H12 e12 => ?_
                exact ⟨t + 4 + 4, _, _, _, _, _, _, rfl, dk11.on e12, by omega, e12 _ _ (back2 x11 nLD (e10 _ _ hL9)), fun v hv => ((((hv9 v hv).ex2 dk9 (ex2_of e10)).ex2 (dk9.on e10) x11).ex2 dk11 (ex2_of e12))⟩
              · ((try refine s_next ?_); (try dsimp only); (try refine s_seq ?_))
                refine s_if (b := false) (et_is (et_or (a := false) (b := false) (et_is (et_not (a := true) (et_B (right 9 _ _ (.str y) _ rfl (.inl ⟨_, rfl, liney⟩)))) rfl) fun _ => et_is (et_not (a := true) (et_B (right 3 _ _ (.str x) _ rfl (.inl ⟨_, rfl, linex⟩)))) rfl) rfl) (fun z => absurd z (by decide)) fun _ H12 e12 => ?_
                exact ⟨t + 4, _, _, _, _, _, _, rfl, (dk9.on e10).on e12, by omega, (e10.trans e12) _ _ hL9, fun v hv => ((hv9 v hv).ex2 dk9 (ex2_of (e10.trans e12)))⟩
            · subst es
              rw [hlen'] at htj
              refine ⟨t, _, _, _, _, _, _, _, _, rfl, dk', ?_⟩
              have : (i + 1) * 2000 = i * 2000 + 2000 := Nat.succ_mul _ _
              omega
      · ((try refine s_next ?_); (try dsimp only); (try refine s_seq ?_))
        exact s_ret ev_c fun H7 _ => q H7
end
end Kk

/-! ## E1 -/
set_option Elab.async false
set_option linter.all false
set_option maxRecDepth 100000
namespace Kk
open PySem PySem.Spec PyProof.Rows L2 Evl
theorem exm_own {K : PySem.W.Frag} {S : Addr} (h1 : PySem.W.subIn K (.ref S) (.type "BaseException") = some true) (h2 : PySem.W.isClsIn K S = true) (h3 : PySem.W.typeIn K (.ref S) = some (.type "type")) (h4 : PySem.W.subIn K (.ref S) (.ref S) = some true) : PySem.W.exmOne K (.ref S) (.ref S) = some true := by
  have h2' : (PySem.W.clsIn K S).isSome = true := h2
  unfold PySem.W.exmOne
  rw [h1, if_pos (by rfl)]
  show (if ((PySem.W.clsIn K S).isSome && PySem.W.typeIn K (.ref S) == some (.type "type")) = true then PySem.W.subIn K (.ref S) (.ref S) else none) = some true
  rw [if_pos (by rw [h2', h3] <;> rfl), h4]
theorem kit_no {K : PySem.W.Frag} {S U : Addr} (hd : (S == U) = false) (h2 : PySem.W.isClsIn K U = true) (h3 : PySem.W.typeIn K (.ref U) = some (.type "type")) (h4 : PySem.W.subIn K (.ref S) (.ref U) = some false) : PySem.W.kitOne K (.ref S) (.ref U) = some false := by
  have h2' : (PySem.W.clsIn K U).isSome = true := h2
  have ne : ¬ ((Value.ref S == Value.ref U) = true) := fun z => by
    have e : S = U := Value.ref.inj (beq_iff_eq.mp z)
    rw [e, beq_self_eq_true] at hd
    cases hd
  unfold PySem.W.kitOne
  rw [if_neg ne]
  show (if ((PySem.W.clsIn K U).isSome && PySem.W.typeIn K (.ref U) == some (.type "type")) = true then PySem.W.subIn K (.ref S) (.ref U) else none) = some false
  rw [if_pos (by rw [h2', h3] <;> rfl), h4]
theorem kit_ve {K : PySem.W.Frag} {S : Addr} (h : PySem.W.subIn K (.ref S) (.type "ValueError") = some true) : PySem.W.kitOne K (.ref S) (.type "ValueError") = some true := by
  unfold PySem.W.kitOne
  rw [if_neg (by intro z; cases beq_iff_eq.mp z)]
  show (if PySem.W.kitMeta "ValueError" = true then PySem.W.subIn K (.ref S) (.type "ValueError") else none) = some true
  rw [if_pos (by decide +kernel), h]
theorem all_mk {P : Program} {w : World} {K : PySem.W.Frag} {h : Heap} {mg : Str → Option Value} {fa : Addr} (X : K.In h) (G : h.Ns mainGlobals mg) (hfa : mg "law" = some (.ref fa))
    {C1 : Addr}
    {C2 : Addr}
    {C3 : Addr}
    {C4 : Addr}
    {nm q : Str} {N : Addr} {bs : List Value} {sn : List Str} {sub : List Value} {ab : Bool} {col : Option Bool} {dd : Option Addr} {m0 m1 m2 m3 m5 : Option Value}
    {f100 : Addr}
    {oc100 kV100 dc100 pm100 cd100 ct100 : Value} {od100 an100 : Option Addr} {sl100 : Array (Option Value)}
    {f12 : Addr}
    {oc12 kV12 dc12 pm12 cd12 ct12 : Value} {od12 an12 : Option Addr} {sl12 : Array (Option Value)}
    {f13 : Addr}
    {oc13 kV13 dc13 pm13 cd13 ct13 : Value} {od13 an13 : Option Addr} {sl13 : Array (Option Value)}
    {f14 : Addr}
    {oc14 kV14 dc14 pm14 cd14 ct14 : Value} {od14 an14 : Option Addr} {sl14 : Array (Option Value)}
    {f16 : Addr}
    {oc16 kV16 dc16 pm16 cd16 ct16 : Value} {od16 an16 : Option Addr} {sl16 : Array (Option Value)}
    {f17 : Addr}
    {oc17 kV17 dc17 pm17 cd17 ct17 : Value} {od17 an17 : Option Addr} {sl17 : Array (Option Value)}
    {f18 : Addr}
    {oc18 kV18 dc18 pm18 cd18 ct18 : Value} {od18 an18 : Option Addr} {sl18 : Array (Option Value)}
    {f19 : Addr}
    {oc19 kV19 dc19 pm19 cd19 ct19 : Value} {od19 an19 : Option Addr} {sl19 : Array (Option Value)}
    {f20 : Addr}
    {oc20 kV20 dc20 pm20 cd20 ct20 : Value} {od20 an20 : Option Addr} {sl20 : Array (Option Value)}
    {f21 : Addr}
    {oc21 kV21 dc21 pm21 cd21 ct21 : Value} {od21 an21 : Option Addr} {sl21 : Array (Option Value)}
    {f22 : Addr}
    {oc22 kV22 dc22 pm22 cd22 ct22 : Value} {od22 an22 : Option Addr} {sl22 : Array (Option Value)}
    {f23 : Addr}
    {oc23 kV23 dc23 pm23 cd23 ct23 : Value} {od23 an23 : Option Addr} {sl23 : Array (Option Value)}
    {f24 : Addr}
    {oc24 kV24 dc24 pm24 cd24 ct24 : Value} {od24 an24 : Option Addr} {sl24 : Array (Option Value)}
    {f25 : Addr}
    {oc25 kV25 dc25 pm25 cd25 ct25 : Value} {od25 an25 : Option Addr} {sl25 : Array (Option Value)}
    {tk6 : Tok}
    {tk7 : Tok}
    {tk8 : Tok}
    {tk9 : Tok}
    {tk10 : Tok}
    {tk11 : Tok}
    (gC1 : PySem.W.nsIn K mainGlobals "NoText" = some (some (.ref C1)))
    (gC2 : PySem.W.nsIn K mainGlobals "NoName" = some (some (.ref C2)))
    (gC3 : PySem.W.nsIn K mainGlobals "NoPath" = some (some (.ref C3)))
    (gC4 : PySem.W.nsIn K mainGlobals "WireError" = some (some (.ref C4)))
    (xC : K.lookup C1 = some (excClassObj nm q C1 N bs [.type "ValueError", .type "Exception", .type "BaseException", .type "object"] true sn sub ab col dd m0 m1 m2 m3 m5 "ValueError.__new__"))
    (sa : PySem.W.findIn K (.ref C1) "__setattr__" = some (some (.builtin "object.__setattr__")))
    (ga : PySem.W.findIn K (.ref C1) "__getattribute__" = some (some (.builtin "BaseException.__getattribute__")))
    (gg : PySem.W.findIn K (.ref C1) "__getattr__" = some none)
    (nb : PySem.W.findIn K (.ref C1) "place" = some none)
    (cl : PySem.W.findIn K (.ref C1) "__class__" = some (some (.builtin "object.__class__")))
    (cn : PySem.W.specialIn K (.builtin "object.__class__") "__get__" = some (some (.builtin "getset_descriptor.__get__")))
    (ct : PySem.W.takesIn K (.builtin "object.__class__") = some true)
    (cm : PySem.W.mroIn K C1 (.type "object") = some true)
    (kC : PySem.W.keepIn K (.ref C1) = true)
    (eC : PySem.W.subIn K (.ref C1) (.type "BaseException") = some true)
    (tC : PySem.W.typeIn K (.ref C1) = some (.type "type"))
    (hC : PySem.W.hasDictIn K C1 = true)
    (iC : PySem.W.isClsIn K C1 = true)
    (sC : PySem.W.subIn K (.ref C1) (.ref C1) = some true)
    (vC : PySem.W.subIn K (.ref C1) (.type "ValueError") = some true)
    (vV : PySem.W.findCls K (.type "ValueError") (.type "type") "__init__" = some (.val (.builtin "ValueError.__init__")))
    (i2 : PySem.W.isClsIn K C2 = true)
    (t2 : PySem.W.typeIn K (.ref C2) = some (.type "type"))
    (s2 : PySem.W.subIn K (.ref C1) (.ref C2) = some false)
    (d2 : (C1 == C2) = false)
    (i3 : PySem.W.isClsIn K C3 = true)
    (t3 : PySem.W.typeIn K (.ref C3) = some (.type "type"))
    (s3 : PySem.W.subIn K (.ref C1) (.ref C3) = some false)
    (d3 : (C1 == C3) = false)
    (i4 : PySem.W.isClsIn K C4 = true)
    (t4 : PySem.W.typeIn K (.ref C4) = some (.type "type"))
    (s4 : PySem.W.subIn K (.ref C1) (.ref C4) = some false)
    (d4 : (C1 == C4) = false)
    (a100 : PySem.W.findIn K (.ref C1) "__init__" = some (some (.ref f100)))
    (t100 : PySem.W.typeIn K (.ref f100) = some (.type "function"))
    (l100 : K.lookup f100 = some ⟨oc100, od100, .func (PySem.W.fnOf "__init__" "NoText.__init__" (defArgs s_init) (defBody s_init) (defScope s_init) .none kV100 dc100 pm100 an100 cd100 ct100), sl100⟩)
    (c100 : PySem.W.codeIn K cd100 "NoText.__init__" = true)
    (k100 : PySem.W.keepIn K (.ref f100) = true)
    (a12 : PySem.W.nsIn K mainGlobals "is_number" = some (some (.ref f12)))
    (l12 : K.lookup f12 = some ⟨oc12, od12, .func (PySem.W.fnOf "is_number" "is_number" (defArgs s_is_number) (defBody s_is_number) (defScope s_is_number) .none kV12 dc12 pm12 an12 cd12 ct12), sl12⟩)
    (c12 : PySem.W.codeIn K cd12 "is_number" = true)
    (k12 : PySem.W.keepIn K (.ref f12) = true)
    (a13 : PySem.W.nsIn K mainGlobals "part_in" = some (some (.ref f13)))
    (l13 : K.lookup f13 = some ⟨oc13, od13, .func (PySem.W.fnOf "part_in" "part_in" (defArgs s_part_in) (defBody s_part_in) (defScope s_part_in) .none kV13 dc13 pm13 an13 cd13 ct13), sl13⟩)
    (c13 : PySem.W.codeIn K cd13 "part_in" = true)
    (k13 : PySem.W.keepIn K (.ref f13) = true)
    (a14 : PySem.W.nsIn K mainGlobals "read_thing" = some (some (.ref f14)))
    (l14 : K.lookup f14 = some ⟨oc14, od14, .func (PySem.W.fnOf "read_thing" "read_thing" (defArgs s_read_thing) (defBody s_read_thing) (defScope s_read_thing) .none kV14 dc14 pm14 an14 cd14 ct14), sl14⟩)
    (c14 : PySem.W.codeIn K cd14 "read_thing" = true)
    (k14 : PySem.W.keepIn K (.ref f14) = true)
    (a16 : PySem.W.nsIn K mainGlobals "_law_deck" = some (some (.ref f16)))
    (l16 : K.lookup f16 = some ⟨oc16, od16, .func (PySem.W.fnOf "_law_deck" "_law_deck" (defArgs s__law_deck) (defBody s__law_deck) (defScope s__law_deck) .none kV16 dc16 pm16 an16 cd16 ct16), sl16⟩)
    (c16 : PySem.W.codeIn K cd16 "_law_deck" = true)
    (k16 : PySem.W.keepIn K (.ref f16) = true)
    (a17 : PySem.W.nsIn K mainGlobals "_law_draw" = some (some (.ref f17)))
    (l17 : K.lookup f17 = some ⟨oc17, od17, .func (PySem.W.fnOf "_law_draw" "_law_draw" (defArgs s__law_draw) (defBody s__law_draw) (defScope s__law_draw) .none kV17 dc17 pm17 an17 cd17 ct17), sl17⟩)
    (c17 : PySem.W.codeIn K cd17 "_law_draw" = true)
    (k17 : PySem.W.keepIn K (.ref f17) = true)
    (a18 : PySem.W.nsIn K mainGlobals "_law_thing" = some (some (.ref f18)))
    (l18 : K.lookup f18 = some ⟨oc18, od18, .func (PySem.W.fnOf "_law_thing" "_law_thing" (defArgs s__law_thing) (defBody s__law_thing) (defScope s__law_thing) .none kV18 dc18 pm18 an18 cd18 ct18), sl18⟩)
    (c18 : PySem.W.codeIn K cd18 "_law_thing" = true)
    (k18 : PySem.W.keepIn K (.ref f18) = true)
    (a19 : PySem.W.nsIn K mainGlobals "_law_words_of" = some (some (.ref f19)))
    (l19 : K.lookup f19 = some ⟨oc19, od19, .func (PySem.W.fnOf "_law_words_of" "_law_words_of" (defArgs s__law_words_of) (defBody s__law_words_of) (defScope s__law_words_of) .none kV19 dc19 pm19 an19 cd19 ct19), sl19⟩)
    (c19 : PySem.W.codeIn K cd19 "_law_words_of" = true)
    (k19 : PySem.W.keepIn K (.ref f19) = true)
    (a20 : PySem.W.nsIn K mainGlobals "_law_is_number" = some (some (.ref f20)))
    (l20 : K.lookup f20 = some ⟨oc20, od20, .func (PySem.W.fnOf "_law_is_number" "_law_is_number" (defArgs s__law_is_number) (defBody s__law_is_number) (defScope s__law_is_number) .none kV20 dc20 pm20 an20 cd20 ct20), sl20⟩)
    (c20 : PySem.W.codeIn K cd20 "_law_is_number" = true)
    (k20 : PySem.W.keepIn K (.ref f20) = true)
    (a21 : PySem.W.nsIn K mainGlobals "_law_read" = some (some (.ref f21)))
    (l21 : K.lookup f21 = some ⟨oc21, od21, .func (PySem.W.fnOf "_law_read" "_law_read" (defArgs s__law_read) (defBody s__law_read) (defScope s__law_read) .none kV21 dc21 pm21 an21 cd21 ct21), sl21⟩)
    (c21 : PySem.W.codeIn K cd21 "_law_read" = true)
    (k21 : PySem.W.keepIn K (.ref f21) = true)
    (a22 : PySem.W.nsIn K mainGlobals "_law_heard" = some (some (.ref f22)))
    (l22 : K.lookup f22 = some ⟨oc22, od22, .func (PySem.W.fnOf "_law_heard" "_law_heard" (defArgs s__law_heard) (defBody s__law_heard) (defScope s__law_heard) .none kV22 dc22 pm22 an22 cd22 ct22), sl22⟩)
    (c22 : PySem.W.codeIn K cd22 "_law_heard" = true)
    (k22 : PySem.W.keepIn K (.ref f22) = true)
    (a23 : PySem.W.nsIn K mainGlobals "_law_right" = some (some (.ref f23)))
    (l23 : K.lookup f23 = some ⟨oc23, od23, .func (PySem.W.fnOf "_law_right" "_law_right" (defArgs s__law_right) (defBody s__law_right) (defScope s__law_right) .none kV23 dc23 pm23 an23 cd23 ct23), sl23⟩)
    (c23 : PySem.W.codeIn K cd23 "_law_right" = true)
    (k23 : PySem.W.keepIn K (.ref f23) = true)
    (a24 : PySem.W.nsIn K mainGlobals "_law_bent" = some (some (.ref f24)))
    (l24 : K.lookup f24 = some ⟨oc24, od24, .func (PySem.W.fnOf "_law_bent" "_law_bent" (defArgs s__law_bent) (defBody s__law_bent) (defScope s__law_bent) .none kV24 dc24 pm24 an24 cd24 ct24), sl24⟩)
    (c24 : PySem.W.codeIn K cd24 "_law_bent" = true)
    (k24 : PySem.W.keepIn K (.ref f24) = true)
    (a25 : PySem.W.nsIn K mainGlobals "law" = some (some (.ref f25)))
    (l25 : K.lookup f25 = some ⟨oc25, od25, .func (PySem.W.fnOf "law" "law" (defArgs s_law) (defBody s_law) (defScope s_law) .none kV25 dc25 pm25 an25 cd25 ct25), sl25⟩)
    (c25 : PySem.W.codeIn K cd25 "law" = true)
    (k25 : PySem.W.keepIn K (.ref f25) = true)
    (v6 : PySem.W.nsIn K mainGlobals "OPEN" = some (some (.str "(" tk6)))
    (v7 : PySem.W.nsIn K mainGlobals "SHUT" = some (some (.str ")" tk7)))
    (v8 : PySem.W.nsIn K mainGlobals "NONE" = some (some (.str "none" tk8)))
    (v9 : PySem.W.nsIn K mainGlobals "QUOTE" = some (some (.str "'" tk9)))
    (v10 : PySem.W.nsIn K mainGlobals "FIGURES" = some (some (.str "0123456789" tk10)))
    (v11 : PySem.W.nsIn K mainGlobals "MOST_FIGURES" = some (some (.int 4000 tk11)))
    (b_Exception : PySem.W.nsIn K mainGlobals "Exception" = some none)
    (b_KeyError : PySem.W.nsIn K mainGlobals "KeyError" = some none)
    (b_ValueError : PySem.W.nsIn K mainGlobals "ValueError" = some none)
    (b_all : PySem.W.nsIn K mainGlobals "all" = some none)
    (b_enumerate : PySem.W.nsIn K mainGlobals "enumerate" = some none)
    (b_int : PySem.W.nsIn K mainGlobals "int" = some none)
    (b_isinstance : PySem.W.nsIn K mainGlobals "isinstance" = some none)
    (b_len : PySem.W.nsIn K mainGlobals "len" = some none)
    (b_list : PySem.W.nsIn K mainGlobals "list" = some none)
    (b_range : PySem.W.nsIn K mainGlobals "range" = some none)
    (b_repr : PySem.W.nsIn K mainGlobals "repr" = some none)
    (b_str : PySem.W.nsIn K mainGlobals "str" = some none)
    (b_tuple : PySem.W.nsIn K mainGlobals "tuple" = some none) :
    ∃ fd : FuncData, (∀ (s : Shared) (u : Value), BindsTo s fd ⟨[u], []⟩ [("_law_script", u)]) ∧ ∀ base : Heap, K.In base → base.Ns mainGlobals mg → base.NoDigits → FnG P w K mg base CX0 102 fa fd ["_law_script"] (spLaw K) := by
  have e : f25 = fa := by
    have e := hfa.symm.trans (PySem.W.mg_of X G a25)
    cases e
    rfl
  subst e
  have K2 : PySem.W.kitAny K (.ref C1) [.ref C4, .ref C2, .ref C3] = some false := by
    unfold PySem.W.kitAny
    rw [kit_no d4 i4 t4 s4]
    show PySem.W.kitAny K (.ref C1) [.ref C2, .ref C3] = some false
    unfold PySem.W.kitAny
    rw [kit_no d2 i2 t2 s2]
    show PySem.W.kitAny K (.ref C1) [.ref C3] = some false
    unfold PySem.W.kitAny
    rw [kit_no d3 i3 t3 s3]
    rfl
  have F100 := fun_mk (st := s_init) (x := "__init__") (qual := "NoText.__init__") l100 c100 k100
  have B100 := F100.binds (ps := ["self", "place"]) fun _ _ _ _ _ _ us hl => match us, hl with | [_, _], _ => rfl
  have F12 := fun_mk (st := s_is_number) (x := "is_number") (qual := "is_number") l12 c12 k12
  have B12 := F12.binds (ps := ["word"]) fun _ _ _ _ _ _ us hl => match us, hl with | [_], _ => rfl
  have F13 := fun_mk (st := s_part_in) (x := "part_in") (qual := "part_in") l13 c13 k13
  have B13 := F13.binds (ps := ["word", "at"]) fun _ _ _ _ _ _ us hl => match us, hl with | [_, _], _ => rfl
  have F14 := fun_mk (st := s_read_thing) (x := "read_thing") (qual := "read_thing") l14 c14 k14
  have B14 := F14.binds (ps := ["text"]) fun _ _ _ _ _ _ us hl => match us, hl with | [_], _ => rfl
  have F16 := fun_mk (st := s__law_deck) (x := "_law_deck") (qual := "_law_deck") l16 c16 k16
  have B16 := F16.binds (ps := ["_law_script"]) fun _ _ _ _ _ _ us hl => match us, hl with | [_], _ => rfl
  have F17 := fun_mk (st := s__law_draw) (x := "_law_draw") (qual := "_law_draw") l17 c17 k17
  have B17 := F17.binds (ps := ["_law_deck_here", "_law_sides"]) fun _ _ _ _ _ _ us hl => match us, hl with | [_, _], _ => rfl
  have F18 := fun_mk (st := s__law_thing) (x := "_law_thing") (qual := "_law_thing") l18 c18 k18
  have B18 := F18.binds (ps := ["_law_deck_here", "_law_deep"]) fun _ _ _ _ _ _ us hl => match us, hl with | [_, _], _ => rfl
  have F19 := fun_mk (st := s__law_words_of) (x := "_law_words_of") (qual := "_law_words_of") l19 c19 k19
  have B19 := F19.binds (ps := ["_law_thing_here"]) fun _ _ _ _ _ _ us hl => match us, hl with | [_], _ => rfl
  have F20 := fun_mk (st := s__law_is_number) (x := "_law_is_number") (qual := "_law_is_number") l20 c20 k20
  have B20 := F20.binds (ps := ["_law_word"]) fun _ _ _ _ _ _ us hl => match us, hl with | [_], _ => rfl
  have F21 := fun_mk (st := s__law_read) (x := "_law_read") (qual := "_law_read") l21 c21 k21
  have B21 := F21.binds (ps := ["_law_line"]) fun _ _ _ _ _ _ us hl => match us, hl with | [_], _ => rfl
  have F22 := fun_mk (st := s__law_heard) (x := "_law_heard") (qual := "_law_heard") l22 c22 k22
  have B22 := F22.binds (ps := ["_law_line"]) fun _ _ _ _ _ _ us hl => match us, hl with | [_], _ => rfl
  have F23 := fun_mk (st := s__law_right) (x := "_law_right") (qual := "_law_right") l23 c23 k23
  have B23 := F23.binds (ps := ["_law_line"]) fun _ _ _ _ _ _ us hl => match us, hl with | [_], _ => rfl
  have F24 := fun_mk (st := s__law_bent) (x := "_law_bent") (qual := "_law_bent") l24 c24 k24
  have B24 := F24.binds (ps := ["_law_deck_here", "_law_line", "_law_way"]) fun _ _ _ _ _ _ us hl => match us, hl with | [_, _, _], _ => rfl
  have F25 := fun_mk (st := s_law) (x := "law") (qual := "law") l25 c25 k25
  have B25 := F25.binds (ps := ["_law_script"]) fun _ _ _ _ _ _ us hl => match us, hl with | [_], _ => rfl
  have T : Txt K mg (fun i => match i with | 1 => C1 | 2 => C2 | 3 => C3 | 4 => C4 | 100 => f100 | 12 => f12 | 13 => f13 | 14 => f14 | 16 => f16 | 17 => f17 | 18 => f18 | 19 => f19 | 20 => f20 | 21 => f21 | 22 => f22 | 23 => f23 | 24 => f24 | 25 => f25 | _ => 0)
      (fun i => match i with | 100 => PySem.W.fnOf "__init__" "NoText.__init__" (defArgs s_init) (defBody s_init) (defScope s_init) .none kV100 dc100 pm100 an100 cd100 ct100 | 12 => PySem.W.fnOf "is_number" "is_number" (defArgs s_is_number) (defBody s_is_number) (defScope s_is_number) .none kV12 dc12 pm12 an12 cd12 ct12 | 13 => PySem.W.fnOf "part_in" "part_in" (defArgs s_part_in) (defBody s_part_in) (defScope s_part_in) .none kV13 dc13 pm13 an13 cd13 ct13 | 14 => PySem.W.fnOf "read_thing" "read_thing" (defArgs s_read_thing) (defBody s_read_thing) (defScope s_read_thing) .none kV14 dc14 pm14 an14 cd14 ct14 | 16 => PySem.W.fnOf "_law_deck" "_law_deck" (defArgs s__law_deck) (defBody s__law_deck) (defScope s__law_deck) .none kV16 dc16 pm16 an16 cd16 ct16 | 17 => PySem.W.fnOf "_law_draw" "_law_draw" (defArgs s__law_draw) (defBody s__law_draw) (defScope s__law_draw) .none kV17 dc17 pm17 an17 cd17 ct17 | 18 => PySem.W.fnOf "_law_thing" "_law_thing" (defArgs s__law_thing) (defBody s__law_thing) (defScope s__law_thing) .none kV18 dc18 pm18 an18 cd18 ct18 | 19 => PySem.W.fnOf "_law_words_of" "_law_words_of" (defArgs s__law_words_of) (defBody s__law_words_of) (defScope s__law_words_of) .none kV19 dc19 pm19 an19 cd19 ct19 | 20 => PySem.W.fnOf "_law_is_number" "_law_is_number" (defArgs s__law_is_number) (defBody s__law_is_number) (defScope s__law_is_number) .none kV20 dc20 pm20 an20 cd20 ct20 | 21 => PySem.W.fnOf "_law_read" "_law_read" (defArgs s__law_read) (defBody s__law_read) (defScope s__law_read) .none kV21 dc21 pm21 an21 cd21 ct21 | 22 => PySem.W.fnOf "_law_heard" "_law_heard" (defArgs s__law_heard) (defBody s__law_heard) (defScope s__law_heard) .none kV22 dc22 pm22 an22 cd22 ct22 | 23 => PySem.W.fnOf "_law_right" "_law_right" (defArgs s__law_right) (defBody s__law_right) (defScope s__law_right) .none kV23 dc23 pm23 an23 cd23 ct23 | 24 => PySem.W.fnOf "_law_bent" "_law_bent" (defArgs s__law_bent) (defBody s__law_bent) (defScope s__law_bent) .none kV24 dc24 pm24 an24 cd24 ct24 | 25 => PySem.W.fnOf "law" "law" (defArgs s_law) (defBody s_law) (defScope s_law) .none kV25 dc25 pm25 an25 cd25 ct25 | _ => PySem.W.fnOf "law" "law" (defArgs s_law) (defBody s_law) (defScope s_law) .none kV25 dc25 pm25 an25 cd25 ct25)
      (fun i => match i with | 6 => tk6 | 7 => tk7 | 8 => tk8 | 9 => tk9 | 10 => tk10 | 11 => tk11 | _ => tk6) :=
    { F_is_number := F12,
      g_is_number := PySem.W.mg_of X G a12,
      b_is_number := B12,
      F_part_in := F13,
      g_part_in := PySem.W.mg_of X G a13,
      b_part_in := B13,
      F_read_thing := F14,
      g_read_thing := PySem.W.mg_of X G a14,
      b_read_thing := B14,
      F__law_deck := F16,
      g__law_deck := PySem.W.mg_of X G a16,
      b__law_deck := B16,
      F__law_draw := F17,
      g__law_draw := PySem.W.mg_of X G a17,
      b__law_draw := B17,
      F__law_thing := F18,
      g__law_thing := PySem.W.mg_of X G a18,
      b__law_thing := B18,
      F__law_words_of := F19,
      g__law_words_of := PySem.W.mg_of X G a19,
      b__law_words_of := B19,
      F__law_is_number := F20,
      g__law_is_number := PySem.W.mg_of X G a20,
      b__law_is_number := B20,
      F__law_read := F21,
      g__law_read := PySem.W.mg_of X G a21,
      b__law_read := B21,
      F__law_heard := F22,
      g__law_heard := PySem.W.mg_of X G a22,
      b__law_heard := B22,
      F__law_right := F23,
      g__law_right := PySem.W.mg_of X G a23,
      b__law_right := B23,
      F__law_bent := F24,
      g__law_bent := PySem.W.mg_of X G a24,
      b__law_bent := B24,
      F_law := F25,
      g_law := PySem.W.mg_of X G a25,
      b_law := B25,
      g_OPEN := PySem.W.mg_of X G v6,
      g_SHUT := PySem.W.mg_of X G v7,
      g_NONE := PySem.W.mg_of X G v8,
      g_QUOTE := PySem.W.mg_of X G v9,
      g_FIGURES := PySem.W.mg_of X G v10,
      g_MOST_FIGURES := PySem.W.mg_of X G v11,
      m_Exception := PySem.W.mg_none_of X G b_Exception,
      m_KeyError := PySem.W.mg_none_of X G b_KeyError,
      m_ValueError := PySem.W.mg_none_of X G b_ValueError,
      m_all := PySem.W.mg_none_of X G b_all,
      m_enumerate := PySem.W.mg_none_of X G b_enumerate,
      m_int := PySem.W.mg_none_of X G b_int,
      m_isinstance := PySem.W.mg_none_of X G b_isinstance,
      m_len := PySem.W.mg_none_of X G b_len,
      m_list := PySem.W.mg_none_of X G b_list,
      m_range := PySem.W.mg_none_of X G b_range,
      m_repr := PySem.W.mg_none_of X G b_repr,
      m_str := PySem.W.mg_none_of X G b_str,
      m_tuple := PySem.W.mg_none_of X G b_tuple,
      g_NoText := PySem.W.mg_of X G gC1,
      g_NoName := PySem.W.mg_of X G gC2,
      g_NoPath := PySem.W.mg_of X G gC3,
      g_WireError := PySem.W.mg_of X G gC4,
      F_init := F100,
      b_init := B100,
      oex := ⟨⟨nm, q, N, bs, _, sn, sub, ab, col, dd, m0, m1, m2, m3, m5, xC, by decide +kernel⟩, sa, eC, tC, kC⟩,
      i_NoText := a100,
      t_init := t100,
      place := nb,
      vV := vV,
      exc := ⟨ga, gg, eC, hC, cl, cn, ct, cm⟩,
      xf := ⟨ga, gg, eC, hC⟩,
      exm := exm_own eC iC tC sC,
      kit1 := kit_ve vC,
      kit2 := K2 }
  exact ⟨PySem.W.fnOf "law" "law" (defArgs s_law) (defBody s_law) (defScope s_law) .none kV25 dc25 pm25 an25 cd25 ct25, fun s u => .of_eq rfl, fun base _ _ ND => ok_law T ND⟩
/-- walkGB, the promise told by the written part -/
theorem walkGK {l : PySem.W.OpenLaw} {n k : Nat} {q : Program} {loose : List Str} {XP : (Str → Option Value) → Heap → Prop} {YP : World → Heap → Prop} {d : DefRec} {K : Params → PySem.W.Frag} (sp : PySem.W.Frag → Sp) {x : Str}
    (hn : l.most = some n) (hn2 : n ≤ sizeLine) (hdf : d.params.defaults = []) (hr : Room k callerA) (hY : ∀ (w : World) (h : Heap), YP w h → (K w.params).In h)
    (F : ∀ (w : World) (mg : Str → Option Value) (fa : Addr) (h : Heap), (K w.params).In h → h.Ns mainGlobals mg → mg d.name = some (.ref fa) →
      ∃ fd : FuncData, (∀ (s : Shared) (u : Value), BindsTo s fd ⟨[u], []⟩ [(x, u)]) ∧ ∀ base : Heap, (K w.params).In base → base.Ns mainGlobals mg → base.NoDigits → FnG l.prog w (K w.params) mg base CX0 k fa fd [x] (sp (K w.params)))
    (hsp : ∀ (K : PySem.W.Frag) (H : Hp) (a : Addr) (ns : List Int), ns.length ≤ n → (∀ z ∈ ns, Builtin.Int.intBits z ≤ 1048576) → Only H → SqL K H a (ns.map V.int) → sp K [.ref a] H (fun v _ => v = .bl true) fun _ _ _ => False) :
    PySem.W.WalkO q loose XP YP l.row.toRowW d [] (fun f vs => PySem.call f vs) :=
  walkGB (sp := fun w => sp (K w.params)) hn hn2 hdf hr hY F fun w => hsp (K w.params)
end Kk

/-! ## E2 -/
set_option Elab.async false
set_option linter.all false
set_option maxRecDepth 100000
open PySem PySem.W PyProof.Rows
set_option maxHeartbeats 0 in
theorem PySem.Challenge.cw_wiretongue_k68_texts_of_no_thing_holds : PySem.Challenge.rw_wiretongue_k68_texts_of_no_thing.Holds := by
  w_on; o_law; k_head; (case hw => w_witness2)
  k_fill
  refine Kk.walkGK (l := PySem.Challenge.rw_wiretongue_k68_texts_of_no_thing) (n := 63) (k := 102) (x := "_law_script") Kk.spLaw rfl (by decide) (by rfl) ⟨rfl, by decide, by decide⟩ (fun w h Y => PySem.W.kIn_of Y) ?F ?S
  case F =>
    intro w mg fa h KX G hmg
    refine' Kk.all_mk KX G hmg ?gC1 ?gC2 ?gC3 ?gC4 ?xC ?sa ?ga ?gg ?nb ?cl ?cn ?ct ?cm ?kC ?eC ?tC ?hC ?iC ?sC ?vC ?vV ?i2 ?t2 ?s2 ?d2 ?i3 ?t3 ?s3 ?d3 ?i4 ?t4 ?s4 ?d4 ?a100 ?t100 ?l100 ?c100 ?k100 ?a12 ?l12 ?c12 ?k12 ?a13 ?l13 ?c13 ?k13 ?a14 ?l14 ?c14 ?k14 ?a16 ?l16 ?c16 ?k16 ?a17 ?l17 ?c17 ?k17 ?a18 ?l18 ?c18 ?k18 ?a19 ?l19 ?c19 ?k19 ?a20 ?l20 ?c20 ?k20 ?a21 ?l21 ?c21 ?k21 ?a22 ?l22 ?c22 ?k22 ?a23 ?l23 ?c23 ?k23 ?a24 ?l24 ?c24 ?k24 ?a25 ?l25 ?c25 ?k25 ?v6 ?v7 ?v8 ?v9 ?v10 ?v11 ?b_Exception ?b_KeyError ?b_ValueError ?b_all ?b_enumerate ?b_int ?b_isinstance ?b_len ?b_list ?b_range ?b_repr ?b_str ?b_tuple
    (case gC1 => k_is)
    (case gC2 => k_is)
    (case gC3 => k_is)
    (case gC4 => k_is)
    (case xC => k_is)
    (case sa => k_is)
    (case ga => k_is)
    (case gg => k_is)
    (case nb => k_is)
    (case cl => k_is)
    (case cn => k_is)
    (case ct => k_is)
    (case cm => k_is)
    (case kC => k_is)
    (case eC => k_is)
    (case tC => k_is)
    (case hC => k_is)
    (case iC => k_is)
    (case sC => first | rfl | k_is)
    (case vC => k_is)
    (case vV => k_is)
    (case i2 => k_is)
    (case t2 => k_is)
    (case s2 => k_is)
    (case d2 => decide)
    (case i3 => k_is)
    (case t3 => k_is)
    (case s3 => k_is)
    (case d3 => decide)
    (case i4 => k_is)
    (case t4 => k_is)
    (case s4 => k_is)
    (case d4 => decide)
    (case a100 => k_is)
    (case t100 => k_is)
    (case l100 => k_is)
    (case c100 => k_is)
    (case k100 => k_is)
    (case a12 => k_is)
    (case l12 => k_is)
    (case c12 => k_is)
    (case k12 => k_is)
    (case a13 => k_is)
    (case l13 => k_is)
    (case c13 => k_is)
    (case k13 => k_is)
    (case a14 => k_is)
    (case l14 => k_is)
    (case c14 => k_is)
    (case k14 => k_is)
    (case a16 => k_is)
    (case l16 => k_is)
    (case c16 => k_is)
    (case k16 => k_is)
    (case a17 => k_is)
    (case l17 => k_is)
    (case c17 => k_is)
    (case k17 => k_is)
    (case a18 => k_is)
    (case l18 => k_is)
    (case c18 => k_is)
    (case k18 => k_is)
    (case a19 => k_is)
    (case l19 => k_is)
    (case c19 => k_is)
    (case k19 => k_is)
    (case a20 => k_is)
    (case l20 => k_is)
    (case c20 => k_is)
    (case k20 => k_is)
    (case a21 => k_is)
    (case l21 => k_is)
    (case c21 => k_is)
    (case k21 => k_is)
    (case a22 => k_is)
    (case l22 => k_is)
    (case c22 => k_is)
    (case k22 => k_is)
    (case a23 => k_is)
    (case l23 => k_is)
    (case c23 => k_is)
    (case k23 => k_is)
    (case a24 => k_is)
    (case l24 => k_is)
    (case c24 => k_is)
    (case k24 => k_is)
    (case a25 => k_is)
    (case l25 => k_is)
    (case c25 => k_is)
    (case k25 => k_is)
    (case v6 => k_is)
    (case v7 => k_is)
    (case v8 => k_is)
    (case v9 => k_is)
    (case v10 => k_is)
    (case v11 => k_is)
    (case b_Exception => k_is)
    (case b_KeyError => k_is)
    (case b_ValueError => k_is)
    (case b_all => k_is)
    (case b_enumerate => k_is)
    (case b_int => k_is)
    (case b_isinstance => k_is)
    (case b_len => k_is)
    (case b_list => k_is)
    (case b_range => k_is)
    (case b_repr => k_is)
    (case b_str => k_is)
    (case b_tuple => k_is)
  case S =>
    intro K H a ns hl hb ho hs
    exact ⟨a, ns, rfl, hs, hb, fun _ => rfl⟩
